import PyProof.Rows.All
import PySem.Challenge.RW_depthmarks_k16_expressions_hold
import HandS.Set
import HandS.More
import HandS.SetFor
import HandS.Strs
import HandS.ForMost
import HandS.ForExc
import HandS.Slots
import KE.KeyNested
import HandS.IsInst
import HandS.Flow
import HandS.TupAny
import HandS.TupMul
import HandS.Wide
import HandS.Style
import HandS.TupLe
import PyProof.CallFns
import HandS.ExcOwn
import HandS.Star
import HandS.Defaults
import HandS.Head0
import HandS.Head1
import HandS.Head2
import HandS.HeadEnd
import HandS.HeadHook1
import HandS.HeadHook2
import PyProof.P3Eq
section
set_option Elab.async false
set_option linter.all false
set_option maxRecDepth 100000
set_option maxHeartbeats 2000000
/-! ZedS: sets of texts. -/
namespace Zed
open PySem PySem.Spec PyProof.Rows L2
/-- the text of an entry -/
def txT (e : Int × Value) : Str := match e.2 with
  | .str k _ => k
  | _ => Str.empty
def TxE (w : World) (e : Int × Value) : Prop := ∃ k tk, e.2 = Value.str k tk ∧ e.1 = hashStr w k
/-- a set of texts: ks in the order of its table -/
structure TxD (w : World) (es : Array (Int × Value)) (t : SetTable) (ks : List Str) : Prop where
  ent : ∀ e ∈ es.toList, TxE w e
  key : es.toList.map txT = ks
  nod : ks.Nodup
  few : es.size < scanBound
  fit : t.fits es.size = true
  ris : Ris t.place.toList
  led : w.params.followText "set-order" = true ∨ t.led = true
def TxS (w : World) (h : Heap) (a : Addr) (ks : List Str) : Prop :=
  ∃ o es ep t, h.get? a = some o ∧ o.ExactSet ∧ o.data = .set es ep t ∧ TxD w es t ks
section
variable {P : Program} {w : World} {h h' : Heap} {a : Addr} {ks : List Str}
theorem TxS.at (T : TxS w h a ks) (q : ∀ o, h.get? a = some o → h'.get? a = some o) : TxS w h' a ks := by
  obtain ⟨o, es, ep, t, h1, h2⟩ := T
  exact ⟨o, es, ep, t, q o h1, h2⟩
theorem TxD.len {es : Array (Int × Value)} {t : SetTable} (T : TxD w es t ks) : es.size = ks.length := by
  rw [← T.key, List.length_map, Array.length_toList]
theorem txE_is {e : Int × Value} (g : TxE w e) (k : Str) : (strKind P w).is k e.2 = true ↔ txT e = k := by
  obtain ⟨k0, tk, h1, _⟩ := g
  unfold txT
  rw [h1]
  constructor
  · intro z
    obtain ⟨t, z⟩ := Value.isStrOf_shape (show Value.isStrOf k (.str k0 tk) = true from z)
    cases z; rfl
  · intro z
    cases z
    exact strKind_is P w _ _
theorem txE_el {l : List (Int × Value)} (g : ∀ e ∈ l, TxE w e) : ElemsOf (strKind P w) l := fun e he => by
  obtain ⟨k, tk, h1, h2⟩ := g e he
  refine ⟨⟨k, ?_, h2⟩, ?_⟩
  · rw [h1]; exact strKind_is P w k tk
  · rw [h1]; rfl
theorem txE_mem {l : List (Int × Value)} (g : ∀ e ∈ l, TxE w e) (k : Str) : k ∈ l.map txT ↔ ∃ e ∈ l, (strKind P w).is k e.2 = true := by
  refine ⟨fun z => ?_, fun ⟨e, he, q⟩ => List.mem_map.mpr ⟨e, he, (txE_is (g e he) k).mp q⟩⟩
  obtain ⟨e, he, q⟩ := List.mem_map.mp z
  exact ⟨e, he, (txE_is (g e he) k).mpr q⟩
theorem txE_strs : ∀ {l : List (Int × Value)}, (∀ e ∈ l, TxE w e) → StrsAre (l.map (·.2)) (l.map txT)
  | [], _ => .nil
  | e :: l, g => by
    obtain ⟨k, tk, h1, _⟩ := g e List.mem_cons_self
    have e1 : txT e = k := by unfold txT; rw [h1]
    show StrsAre (e.2 :: l.map (·.2)) (txT e :: l.map txT)
    rw [h1, e1]
    exact .cons k tk (txE_strs fun x hx => g x (List.mem_cons_of_mem _ hx))
end
section
variable {P : Program} {w : World} {A : Around} {E : Value → Shared → Prop} {s : Shared} {a : Addr} {ks : List Str}
/-- a table that was stored; it may be laid anew -/
theorem tx_tail {g : Bool → Sem Unit} (hg : ∀ (b : Bool) (s₁ : Shared) (Q' : Unit → Shared → Prop), Q' () s₁ → wpAny (model P w) A (g b) Q' E s₁)
    {o : Obj} {es0 es : Array (Int × Value)} {ep : Nat} {t0 t : SetTable} (ho : s.heap.get? a = some o) (hx : o.ExactSet) (hd : o.data = .set es0 ep t0) (T : TxD w es t ks) {wd : Bool} {R : Option Bool → Shared → Prop}
    (hR : ∀ h' ks', Heap.SameBut a s.heap h' → TxS w h' a ks' → ks'.Perm ks → R (some true) { s with heap := h' }) :
    wpAny (model P w) A (do
        storeSet a es t
        if (!wd && t.tooFull) = true then do
            g (relayAll t es (SetTable.grown es.size)).2.2; storeSet a (relayAll t es (SetTable.grown es.size)).1 (relayAll t es (SetTable.grown es.size)).2.1; pure (some true)
          else pure (some true)) R E s := by
  refine wpAny_bind (wpAny_storeSet_of ho hd ?_ (fits_of_scanBound T.few))
  have o1 := store_at (es' := es) (t' := t) ho hd
  have sb := Heap.SameBut.update s.heap a (Obj.putSet es t)
  split
  · have p1 := relayAll_perm t es (SetTable.grown es.size)
    have p2 := relayAll_fits t es (SetTable.grown es.size)
    have p3 := relayAll_ris t es (SetTable.grown es.size)
    have p4 := relayAll_led t es (SetTable.grown es.size)
    generalize relayAll t es (SetTable.grown es.size) = Z at p1 p2 p3 p4 ⊢
    obtain ⟨es2, t2, gv⟩ := Z
    dsimp only at p1 p2 p3 p4 ⊢
    have z2 : es2.size = es.size := by
      have := p1.length_eq
      rwa [Array.length_toList, Array.length_toList] at this
    have T2 : TxD w es2 t2 (es2.toList.map txT) := ⟨fun e he => T.ent e (p1.mem_iff.mp he), rfl, (p1.map txT).nodup_iff.mpr (by rw [T.key]; exact T.nod), by rw [z2]; exact T.few, p2, p3, T.led.imp id fun q => by rw [p4]; exact q⟩
    refine wpAny_bind (hg _ _ _ (wpAny_bind (wpAny_storeSet_of o1 rfl ?_ (fits_of_scanBound T2.few))))
    have o2 := store_at (es' := es2) (t' := t2) o1 rfl
    refine wpAny_pure (hR _ _ (sb.trans (Heap.SameBut.update _ a _)) ⟨_, es2, _, t2, o2, hx, rfl, T2⟩ ?_)
    have := p1.map txT
    rwa [T.key] at this
  · exact wpAny_pure (hR _ ks sb ⟨_, es, _, t, o1, hx, rfl, T⟩ (List.Perm.refl _))
/-- one text more -/
theorem tx_add {k : Str} {tk : Tok} {Q : Bool → Shared → Prop} (R : TxS w s.heap a ks) (room : ks.length + 1 < scanBound)
    (hQ : ∀ h' ks', Heap.SameBut a s.heap h' → TxS w h' a ks' → ks'.Perm (if k ∈ ks then ks else ks ++ [k]) → Q (!decide (k ∈ ks)) { s with heap := h' }) :
    wpAny (model P w) A (setAddHashed a (.str k tk) ((strKind P w).hash k)) Q E s := by
  obtain ⟨o, es, ep, t, ho, hx, hd, T⟩ := R
  have c1 : (strKind P w).is k (.str k tk) = true := strKind_is P w k tk
  have c2 : (Value.str k tk).scannable = true := rfl
  have c3 : ElemsOf (strKind P w) es.toList := txE_el T.ent
  have c4 := txE_mem (P := P) T.ent k
  rw [T.key] at c4
  unfold setAddHashed setAddHashedIn
  refine wpAny_holding ?_
  refine wpAny_bind (wpAny_setState_of ho hd T.fit ?_)
  dsimp only
  rw [byScan_of c2 T.few c3]
  simp only [↓reduceIte]
  unfold setAddByScan
  refine wpAny_bind (wpAny_bind (wpAny_rule (wpAny_bind (wpAny_setScan_of c1 ho hd T.fit c3 ?_))))
  cases hf : List.findIdx? (fun e => (strKind P w).is k e.2) es.toList with
  | some j =>
    dsimp only
    obtain ⟨j1, j2, _⟩ := List.findIdx?_eq_some_iff_getElem.mp hf
    have hk : k ∈ ks := c4.mpr ⟨_, List.getElem_mem j1, j2⟩
    have q := hQ s.heap ks (Heap.SameBut.refl a s.heap) ⟨o, es, ep, t, ho, hx, hd, T⟩ (by rw [if_pos hk])
    rw [decide_eq_true hk] at q
    exact wpAny_pure (wpAny_pure q)
  | none =>
    dsimp only
    have hk : k ∉ ks := fun z => by
      obtain ⟨e, he, q⟩ := c4.mp z
      have := List.findIdx?_eq_none_iff.mp hf e he
      rw [q] at this; cases this
    have p1 := layNew_perm t es ((strKind P w).hash k) (.str k tk)
    have p2 := layNew_fits t es ((strKind P w).hash k) (.str k tk)
    have p3 := layNew_ris t es ((strKind P w).hash k) (.str k tk) T.ris
    have p4 := layNew_led t es ((strKind P w).hash k) (.str k tk)
    generalize layNew t es ((strKind P w).hash k) (.str k tk) = Z at p1 p2 p3 p4 ⊢
    obtain ⟨es1, t1, wd, gv⟩ := Z
    dsimp only at p1 p2 p3 p4 ⊢
    rw [Array.toList_push] at p1
    have pk : (es1.toList.map txT).Perm (ks ++ [k]) := by
      have := p1.map txT
      rw [List.map_append, T.key] at this
      exact this
    have z1 : es1.size = ks.length + 1 := by
      have := pk.length_eq
      rwa [List.length_map, Array.length_toList, List.length_append] at this
    have T1 : ∀ t', t'.fits es1.size = true → Ris t'.place.toList → t'.led = t1.led → TxD w es1 t' (es1.toList.map txT) := fun t' f1 f2 f3 => by
      refine ⟨fun e he => ?_, rfl, pk.nodup_iff.mpr ?_, by rw [z1]; exact room, f1, f2, T.led.imp id fun q => by rw [f3, p4]; exact q⟩
      · rcases List.mem_append.mp (p1.mem_iff.mp he) with z | z
        · exact T.ent e z
        · rw [List.mem_singleton.mp z]; exact ⟨k, tk, rfl, rfl⟩
      · exact List.nodup_append.mpr ⟨T.nod, List.nodup_cons.mpr ⟨List.not_mem_nil, List.nodup_nil⟩, fun x hx y hy => by rw [List.mem_singleton.mp hy]; exact fun z => hk (z ▸ hx)⟩
    have fin : ∀ h' ks', Heap.SameBut a s.heap h' → TxS w h' a ks' → ks'.Perm (es1.toList.map txT) → Q true { s with heap := h' } := fun h' ks' sb r pr => by
      have q := hQ h' ks' sb r (by rw [if_neg hk]; exact pr.trans pk)
      rw [decide_eq_false hk] at q
      exact q
    have gw : ∀ (b : Bool) (s₁ : Shared) (Q' : Unit → Shared → Prop), Q' () s₁ → wpAny (model P w) A (match b with | true => rule "set.scan.the-table-gave-way" | false => pure ()) Q' E s₁ := fun b s₁ Q' q => by
      cases b
      · exact wpAny_pure q
      · exact wpAny_rule q
    refine wpAny_bind (gw _ _ _ ?_)
    split
    · refine wpAny_bind ?_
      rw [hashByValue_scannable 8 c2]
      refine wpAny_pure (tx_tail (ks := es1.toList.map txT) ?_ ho hx hd ?_ ?_)
      · intro b s₁ Q' q
        cases b <;> first | exact wpAny_pure q | exact wpAny_rule q
      · split
        · exact T1 _ p2 p3 rfl
        · exact T1 _ (SetTable.fits_plain_off p2) p3 rfl
      · intro h' ks' sb r pr
        exact wpAny_pure (fin h' ks' sb r pr)
    · refine wpAny_bind (wpAny_pure ?_)
      simp only [↓reduceIte]
      refine tx_tail (ks := es1.toList.map txT) ?_ ho hx hd (T1 _ p2 p3 rfl) ?_
      · intro b s₁ Q' q
        cases b <;> first | exact wpAny_pure q | exact wpAny_rule q
      · intro h' ks' sb r pr
        exact wpAny_pure (fin h' ks' sb r pr)

def stepD (acc : List Str) (k : Str) : List Str := if k ∈ acc then acc else acc ++ [k]
def dedS (xs : List Str) : List Str := xs.foldl stepD []
theorem dedS_snoc (xs : List Str) (k : Str) : dedS (xs ++ [k]) = stepD (dedS xs) k := by
  unfold dedS
  rw [List.foldl_append]; rfl
theorem stepD_len (acc : List Str) (k : Str) : (stepD acc k).length ≤ acc.length + 1 := by
  unfold stepD
  split
  · omega
  · rw [List.length_append]; exact Nat.le_refl _
theorem dedS_len (xs : List Str) : (dedS xs).length ≤ xs.length := by
  have : ∀ (xs acc : List Str), (xs.foldl stepD acc).length ≤ acc.length + xs.length := fun xs => by
    induction xs with
    | nil => intro acc; exact Nat.le_refl _
    | cons x r ih =>
      intro acc
      have h1 := ih (stepD acc x)
      have h2 := stepD_len acc x
      show (r.foldl stepD (stepD acc x)).length ≤ _
      rw [List.length_cons]; omega
  have h := this xs []
  unfold dedS
  simpa using h
theorem stepD_perm {ks acc : List Str} {k : Str} (p : ks.Perm acc) : (if k ∈ ks then ks else ks ++ [k]).Perm (stepD acc k) := by
  unfold stepD
  by_cases z : k ∈ ks
  · rw [if_pos z, if_pos (p.mem_iff.mp z)]; exact p
  · rw [if_neg z, if_neg fun q => z (p.mem_iff.mpr q)]; exact p.append_right _
/-- the loop of set(xs) -/
theorem tx_loop {I : Addr} {fp wr : List Addr} {Gn : Array GenState → Array GenState → Prop} {n : Nat} {Pv : Nat → Value → Prop} {St : Nat → Shared → Prop} {R : Result → Shared → Prop}
    (W : WalksS P w A.in1 I fp wr Gn n Pv St) (S : Addr) (hSf : S ∉ fp) (xs : List Str) (hn : n = xs.length) (hfew : xs.length + 1 < scanBound) (hval : ∀ i v, Pv i v → ∃ t, v = .str (xs.getD i Str.empty) t) :
    ∀ (m i : Nat) (s : Shared), n - i = m → i ≤ n → St i s → (∃ ks, TxS w s.heap S ks ∧ ks.Perm (dedS (xs.take i))) →
      (∀ s' ks, Moved (S :: wr) Gn s s' → TxS w s'.heap S ks → ks.Perm (dedS xs) → R (.ok (.ret .none)) s') → codeAny (model P w) A (.builtin "set.update.loop" ⟨[.ref S, .ref I], []⟩) R s := by
  have nw : S ∉ wr := fun z => hSf (W.sub _ z)
  have sub : ∀ b ∈ wr, b ∈ S :: wr := fun b z => List.mem_cons_of_mem _ z
  intro m
  induction m with
  | zero =>
    intro i s hm hi st ⟨ks, T, pk⟩ hR
    obtain rfl : i = n := by omega
    refine codeAny_builtin PyProof.Rows.F.entry_set_update_loop ?_; rw [Around.under_plainId PyProof.Rows.F.plain_set_update_loop _]; show wpAny _ A.in1 (pyNext (.ref I) >>= _) _ _ s
    refine wpAny_bind (W.done s _ _ st fun s' mv => ?_); show wpAny _ A.in1 (ret Value.none) _ _ s'
    refine wpAny_pure (hR s' ks (mv.mono sub) (T.at fun o q => mv.heap S o nw q) ?_)
    rw [hn, List.take_length] at pk
    exact pk
  | succ m ih =>
    intro i s hm hi st ⟨ks, T, pk⟩ hR
    have lt : i < n := by omega
    refine codeAny_builtin PyProof.Rows.F.entry_set_update_loop ?_; rw [Around.under_plainId PyProof.Rows.F.plain_set_update_loop _]; show wpAny _ A.in1 (pyNext (.ref I) >>= _) _ _ s
    refine wpAny_bind (W.item i s _ _ lt st fun v s' pv st' mv => ?_)
    obtain ⟨t, rfl⟩ := hval i v pv
    show wpAny _ A.in1 (holding [Value.str (xs.getD i Str.empty) t] (setAdd S (.str (xs.getD i Str.empty) t)) >>= _) _ _ s'
    refine wpAny_bind (wpAny_holding ?_); unfold setAdd; refine wpAny_holding (wpAny_bind ((strKind P w).pyHash (k := xs.getD i Str.empty) (strKind_is _ _ _ _) ?_))
    have l1 : ks.length ≤ i := by
      have h1 := pk.length_eq
      have h2 := dedS_len (xs.take i)
      have h3 := List.length_take_le i xs
      omega
    refine tx_add (s := { s' with toks := s'.toks + 1 }) (T.at fun o q => mv.heap S o nw q) (by omega) fun h' ks' sb T' pk' => ?_
    have e1 : xs.take (i + 1) = xs.take i ++ [xs.getD i Str.empty] := by
      have hi' : i < xs.length := by omega
      rw [List.take_succ, List.getElem?_eq_getElem hi', List.getD_eq_getElem?_getD, List.getElem?_eq_getElem hi']; rfl
    have pk2 : ks'.Perm (dedS (xs.take (i + 1))) := by
      rw [e1, dedS_snoc]
      exact pk'.trans (stepD_perm pk)
    refine wpAny_pure ⟨plainId_quiet PyProof.Rows.F.plain_set_update_loop _, ih (i + 1) _ (by omega) lt (W.frame _ s' _ _ st' (Nat.le_succ _) fun b hb o q => ?_) ⟨ks', T', pk2⟩ fun s2 ks2 mv2 T2 p2 => hR s2 ks2 (Moved.trans W.gtrans ((mv.mono sub).then_heap (Nat.le_succ _) fun b o hb q => ?_) mv2) T2 p2⟩
    · exact (sb.2 b fun z => hSf (z ▸ hb)).trans q
    · exact (sb.2 b fun z => hb (z ▸ List.mem_cons_self)).trans q

abbrev newS (w : World) : Obj := { cls := .type "set", dict := none, data := .set #[] 0 (.fresh 0 0 (!w.params.followText "set-order")) }
theorem tx_fresh {h : Heap} {a : Addr} (ho : h.get? a = some (newS w)) : TxS w h a [] := by
  refine ⟨_, #[], 0, _, ho, ⟨rfl, rfl, rfl⟩, rfl, ⟨fun e he => by simp at he, rfl, List.nodup_nil, by decide, rfl, List.Pairwise.nil, ?_⟩⟩
  show _ ∨ (!w.params.followText "set-order") = true
  cases w.params.followText "set-order" <;> simp
set_option maxHeartbeats 4000000 in
/-- set(xs), xs a list of texts -/
theorem tx_call {l : Addr} {its : Array Value} (xs : List Str) {Q : Value → Shared → Prop} (hh : A.handled = none) (hl : s.heap.IsList l its) (hit : StrsAre its.toList xs) (hfew : xs.length + 1 < scanBound)
    (h : ∀ (h' : Heap) (tk : Nat) ks, TxS w h' s.heap.objs.size ks → ks.Perm (dedS xs) → (∀ b o, s.heap.get? b = some o → h'.get? b = some o) → Q (.ref s.heap.objs.size) { s with heap := h', toks := tk }) :
    wpAny (model P w) A (call (.type "set") [.ref l]) Q E s := by
  have hsz : its.size = xs.length := by
    have := StrsAre.length hit
    rwa [Array.length_toList] at this
  obtain ⟨c, tl, m0⟩ := PySem.F.called_set.mro
  have m1 := PySem.F.called_set.made
  have m2 := PySem.F.called_set.sub
  have m3 := PySem.F.called_set.notType
  have m4 := PySem.F.called_set.canCreate
  have m5 := PySem.F.typeCall_set_1 (.ref l)
  refine wpAny_call (codeAny_of_tree ?_); show wpAny _ _ (callAny (.type "set") _) _ _ _
  refine wpAny_pure ⟨Code.quiet_builtin _ (by decide +kernel), codeAny_builtin PySem.F.entry_type_call ?_⟩; rw [Around.under_plain (weight_type_call_type "set" [.ref l] []) rfl]
  repeat (any_goals (first | assumption | wp_step))
  refine codeAny_mono (code_set_led1 (.ref l) (E := E) (Q₁ := fun v s₁ => v = .ref s.heap.objs.size ∧ s₁ = { s with heap := s.heap.push (newS w) }) ⟨rfl, rfl⟩) fun r s₁ hr => ?_
  rcases r with e | fl
  · exact hr
  rcases fl with _ | _ | obj | _ <;> try exact hr.elim
  all_goals obtain ⟨rfl, rfl⟩ := hr
  have n0 : (s.heap.push (newS w)).get? s.heap.objs.size = some (newS w) := Heap.get?_push_size _ rfl
  have n1 : Shared.TypeIs { s with heap := s.heap.push (newS w) } (.ref s.heap.objs.size) "set" := ⟨_, n0, rfl⟩
  have n2 := PySem.F.called_set.init.lookup
  have n3 := PySem.F.called_set.init.bind (.ref s.heap.objs.size)
  repeat (any_goals (first | assumption | wp_step))
  refine codeAny_mono (codeAny_call_builtin (R := wants (fun v s₂ => v = .none ∧ ∃ h' tk ks, s₂ = { s with heap := h', toks := tk } ∧ TxS w h' s.heap.objs.size ks ∧ ks.Perm (dedS xs) ∧ ∀ b o, s.heap.get? b = some o → h'.get? b = some o) E) PySem.F.called_set.init.plain PySem.F.entry_set_init (check_set_init_1 n1 ?_)) fun r₂ s₂ hr₂ => ?_
  · obtain ⟨⟨ocls, odict, odata, oslots⟩, hol, hcl, nl, hdl⟩ := hl
    simp only at hcl hdl
    subst hcl hdl
    have q0 : (s.heap.push (newS w)).get? l = some { cls := .type "list", dict := odict, data := .seq its nl, slots := oslots } := Heap.get?_push_of_some _ hol
    have q1 := PySem.F.sub_list_set
    have q2 := PySem.F.sub_list_frozenset
    have q3 : (Value.type "list" == Value.type "dict") = false := by decide
    have q4 : (s.heap.push (newS w)).IsList l its := ⟨_, q0, rfl, nl, rfl⟩
    unfold Builtin.«set.__init__» noKeywords Builtin.Frozenset.updateFrom
    generalize hPI : pyIter = PI
    wp_walk
    subst hPI
    refine wpAny_pyIter_list q4 (wpAny_bind (wpAny_runValue ?_))
    have lt : l < s.heap.objs.size := Heap.lt_size hol
    have h3 : A.in1.in1.in1.handled = none := by simp [hh]
    have sz : (s.heap.push (newS w)).objs.size = s.heap.objs.size + 1 := Heap.size_push ..
    have ne : l ≠ (s.heap.push (newS w)).objs.size := by rw [sz]; exact Nat.ne_of_lt (Nat.lt_succ_of_lt lt)
    have nf : s.heap.objs.size ∉ [(s.heap.push (newS w)).objs.size, l] := by
      rw [sz]
      intro z
      rcases List.mem_cons.mp z with z | z
      · exact Nat.lt_irrefl _ (Nat.lt_of_lt_of_eq (Nat.lt_succ_self _) z.symm)
      · exact Nat.lt_irrefl _ (Nat.lt_of_le_of_lt (Nat.le_of_eq (List.mem_singleton.mp z)) lt)
    have g0 : ((s.heap.push (newS w)).push { cls := .type "list_iterator", data := .fields #[.ref l, .int 0 0] }).get? s.heap.objs.size = some (newS w) := Heap.get?_push_of_some _ n0
    refine tx_loop ((Walks.list h3 _ l ne its).toS) s.heap.objs.size nf xs hsz hfew (fun i v hv => SS.strs_at hit i v (by rw [Array.getElem?_toList]; exact hv)) (its.size - 0) 0 _ rfl (Nat.zero_le _) ⟨⟨_, Heap.get?_push_size _ rfl, rfl, rfl⟩, q4.push _⟩ ⟨[], tx_fresh g0, List.Perm.refl _⟩ fun s' ks mv T pk => ?_
    obtain ⟨h', g', d', tk', os'⟩ := s'
    obtain rfl : g' = s.gens := mv.gens
    obtain rfl : d' = s.drawn := mv.drawn
    obtain rfl : os' = s.os := mv.os
    show wpAny _ _ _ _ _ _
    refine wpAny_pure ?_; show wpAny _ _ (ret Value.none) _ _ _
    refine wpAny_pure ⟨rfl, h', tk', ks, rfl, T, pk, fun b o e => mv.heap b o (fun z => ?_) (Heap.get?_push_of_some _ (Heap.get?_push_of_some _ e))⟩
    have lb := Heap.lt_size e
    rcases List.mem_cons.mp z with z | z
    · exact Nat.lt_irrefl _ (Nat.lt_of_le_of_lt (Nat.le_of_eq z.symm) lb)
    · have z2 := (List.mem_singleton.mp z).trans sz
      exact Nat.lt_irrefl _ (Nat.lt_trans (Nat.lt_succ_self _) (Nat.lt_of_le_of_lt (Nat.le_of_eq z2.symm) lb))
  · rcases r₂ with e | fl₂
    · exact hr₂
    rcases fl₂ with _ | _ | v | _ <;> try exact hr₂.elim
    all_goals obtain ⟨rfl, h', tk, ks, rfl, T, pk, k⟩ := hr₂
    repeat (any_goals (first | assumption | wp_step))
    exact h _ _ _ T pk k
end
end Zed
end
section
set_option Elab.async false
set_option linter.all false
set_option maxRecDepth 100000
set_option maxHeartbeats 2000000
namespace Zed
open PySem PySem.Spec PyProof.Rows L2
section
variable {P : Program} {w : World} {A : Around} {E : Value → Shared → Prop} {s : Shared} {a : Addr} {ks : List Str}
theorem strs_perm {vs us : List Value} (p : vs.Perm us) : ∀ {ks : List Str}, StrsAre us ks → ∃ ks', StrsAre vs ks' ∧ ks'.Perm ks := by
  induction p with
  | nil => intro ks h; exact ⟨ks, h, .refl _⟩
  | cons x _ ih =>
    intro ks h
    cases h with
    | cons y t r =>
      obtain ⟨z, z1, z2⟩ := ih r
      exact ⟨y :: z, .cons y t z1, z2.cons y⟩
  | swap x y l =>
    intro ks h
    cases h with
    | cons a t r => cases r with
      | cons b u r => exact ⟨_, .cons b u (.cons a t r), .swap _ _ _⟩
  | trans _ _ i1 i2 =>
    intro ks h
    obtain ⟨k2, a1, a2⟩ := i2 h
    obtain ⟨k1, b1, b2⟩ := i1 a1
    exact ⟨k1, b1, b2.trans a2⟩
/-- sorted(a set of texts) -/
theorem tx_sorted {Q : Value → Shared → Prop} (R : TxS w s.heap a ks) (hh : A.handled = none) (h64 : ks.length < 64)
    (hQ : ∀ s' p (out : Array Value) (c : Nat) (ys : List Str), (∀ b o, s.heap.get? b = some o → s'.heap.get? b = some o) → s'.gens = s.gens → s'.os = s.os → s.heap.objs.size ≤ p →
      s'.heap.get? p = some (seqObj "list" out c) → StrsAre out.toList ys → ys.Perm ks → sortedS ys = true → Q (.ref p) s') : wpAny (model P w) A (call (.builtin "sorted") [.ref a]) Q E s := by
  obtain ⟨o, es, ep, t, ho, hx, hd, T⟩ := R
  refine Calls.call_function_entry kind_sorted plain_sorted entry_sorted (args_sorted1 _) ?_; unfold Builtin.«sorted»
  refine wpAny_bind (m := checkCount "sorted" 1 1 _) (wpAny_pure (wpAny_bind (collect_set (A := A.in1) hh ⟨o, ho, hx.1, hd⟩ T.fit T.few T.ris T.led fun s1 vs k1 hz g1 o1 pm => ?_)))
  have st := txE_strs T.ent
  rw [T.key] at st
  obtain ⟨zs, z1, z2⟩ := strs_perm pm st
  have hl : vs.length < 64 := by rw [StrsAre.length z1, z2.length_eq]; exact h64
  refine wpAny_bind (wpAny_newList ?_ (by rw [sizeLine_eq]; omega))
  have n0 : (s1.heap.push (seqObj "list" vs.toArray 0)).get? s1.heap.objs.size = some (seqObj "list" vs.toArray 0) := Heap.get?_push_size _ rfl
  refine wpAny_bind (wpAny_holding (wpAny_call_entry slot_list_sort ⟨_, n0, rfl⟩ entry_list_sort (list_sort_treeK strKind_oneLt n0 z1.keysOf (fun v₁ v₂ rest e => keyKind_strs (by rw [← e]; exact z1)) hl fun st' hp hs => ⟨_, rfl, ?_⟩) (args_list_sort _)))
  obtain ⟨ys, y1, y2, y3⟩ := sorted_out_str z1 hp hs
  obtain ⟨c, hc⟩ := sortedHeap_at (vs := vs) (out := (arrOf st').map (·.2)) n0
  refine wpAny_pure ⟨_, rfl, hQ _ s1.heap.objs.size _ c ys (fun b u e => ?_) g1 o1 hz hc y1 (y2.trans z2) y3⟩
  have q := k1 b u e
  have lt := Heap.lt_size q
  show (sortedHeap (s1.heap.push (seqObj "list" vs.toArray 0)) s1.heap.objs.size vs _).get? b = some u
  rw [sortedHeap_old (Nat.ne_of_lt lt) (by rw [size_push']; exact Nat.lt_succ_of_lt lt)]; exact Heap.get?_push_of_some _ q
end
/-- a set of texts in the heap -/
def TxO (w : World) (a : Addr) (ks : List Str) : HO := .ext fun h => TxS w h a ks
section
variable {X : Cx}
theorem txO_new {w : World} {P : Program} {H : Hp} {h : Heap} {a : Addr} {ks : List Str} (R : TxS w h a ks) : ObjOk P w H h a (TxO w a ks) := by
  have ⟨o, _, _, _, ho, _⟩ := R
  exact ⟨R, ⟨o, ho⟩, fun h1 h2 p k => TxS.at p k⟩
theorem txO_get {pins : List (Addr × Obj)} {σ : L2.St} {H : Hp} {s : Shared} {a : Addr} {ks : List Str} (I : Inv X pins σ H s) (ha : H a = some (TxO X.w a ks)) : TxS X.w s.heap a ks := (I.hok a _ ha).1
/-- set(xs) -/
def rTxSet (K : PySem.W.Frag) (w : World) : List V → Hp → VK → Prop := fun vs H Q => ∃ (l : Addr) (xs : List Str), vs = [V.ref l] ∧ SqL K H l (xs.map V.str) ∧ xs.length < 64 ∧ ∀ ks p, ks.Perm (dedS xs) → H p = none → Q (.ref p) (upd H p (TxO w p ks))
theorem cr_txSet (hc : X.calm = true) : CallR X (.type "set") (rTxSet X.K X.w) := by
  intro pins s σ H vs us Q I r h
  obtain ⟨l, xs, rfl, hs, hf, q⟩ := h
  obtain ⟨its, rv, pl, _⟩ := I.list hs
  rw [Vals.ref1 r]
  have hn : H s.heap.objs.size = none := I.hok.fresh (Nat.le_refl _)
  refine tx_call (P := X.prog) (w := X.w) xs (I.ok.hd hc) pl.isList (by simpa using rv.strs) (by unfold scanBound; omega) fun h' tk ks T pk k => ?_
  exact ⟨.ref _, upd H s.heap.objs.size (TxO X.w s.heap.objs.size ks), I.laid (t' := tk) k (Nat.le_refl _) (txO_new T), rfl, q ks _ pk hn⟩
/-- sorted(found) -/
def rTxSort (w : World) : List V → Hp → VK → Prop := fun vs H Q => ∃ (a : Addr) (ks : List Str), vs = [V.ref a] ∧ H a = some (TxO w a ks) ∧ ks.length < 64 ∧ ∀ ys p, ys.Perm ks → sortedS ys = true → H p = none → Q (.ref p) (upd H p (.lst (ys.map V.str)))
theorem cr_txSort (hc : X.calm = true) : CallR X (.builtin "sorted") (rTxSort X.w) := by
  intro pins s σ H vs us Q I r h
  obtain ⟨a, ks, rfl, ha, h64, q⟩ := h
  rw [Vals.ref1 r]
  refine tx_sorted (txO_get I ha) (I.ok.hd hc) h64 fun s' p out c ys k g o hp hg y1 y2 y3 => ?_
  have len : (ys.map V.str).length ≤ sizeLine := by rw [List.length_map, y2.length_eq, sizeLine_eq]; omega
  have hn : H p = none := I.hok.fresh hp
  have J : Inv X pins σ (upd H p (.lst (ys.map V.str))) { s with heap := s'.heap, gens := s'.gens, drawn := s'.drawn, toks := s'.toks } := I.call (ch := []) (Un.laid k hp hn) (I.hok.laid k hp ⟨len, out.toList, c, vals_of_strs y1, hg⟩) (by rw [g]; exact I.bare) (fun _ z => nomatch z)
  have e : s' = { s with heap := s'.heap, gens := s'.gens, drawn := s'.drawn, toks := s'.toks } := by
    cases s'; cases s; cases o; rfl
  rw [e]
  exact ⟨.ref p, _, J, rfl, q ys p y2 y3 hn⟩
end
/-! ### the one sorted row -/
def LeT (x y : Str) : Prop := x.cps.toList ≤ y.cps.toList
theorem leT_of {x y : Str} (h : ltCps y.cps.toList x.cps.toList = false) : LeT x y := by
  rw [ltCps_eq] at h
  exact of_decide_eq_false h
theorem LeT.tot (x y : Str) (h : ltCps y.cps.toList x.cps.toList = true) : LeT y x := by
  rw [ltCps_eq] at h
  rcases List.le_total x.cps.toList y.cps.toList with z | z
  · exact absurd (of_decide_eq_true h) z
  · exact z
theorem LeT.anti {x y : Str} (h1 : LeT x y) (h2 : LeT y x) : x = y := by
  have := List.le_antisymm h1 h2
  obtain ⟨⟨a⟩⟩ := x
  obtain ⟨⟨b⟩⟩ := y
  simp only at this
  rw [this]
theorem rising_pw : ∀ (r : List Str) (p : Str), risingS p r = true → (p :: r).Pairwise LeT
  | [], p, _ => List.pairwise_singleton _ _
  | x :: r, p, h => by
    unfold risingS at h
    rw [Bool.and_eq_true, Bool.not_eq_true'] at h
    have ih := rising_pw r x h.2
    have h1 := leT_of h.1
    refine List.pairwise_cons.mpr ⟨fun y hy => ?_, ih⟩
    rcases List.mem_cons.mp hy with rfl | hy
    · exact h1
    · exact List.le_trans h1 ((List.pairwise_cons.mp ih).1 y hy)
theorem sorted_pw : ∀ (l : List Str), sortedS l = true → l.Pairwise LeT
  | [], _ => .nil
  | x :: r, h => rising_pw r x h
def insS (x : Str) : List Str → List Str
  | [] => [x]
  | y :: r => if ltCps y.cps.toList x.cps.toList = true then y :: insS x r else x :: y :: r
def sortS (xs : List Str) : List Str := xs.foldr insS []
theorem insS_perm (x : Str) : ∀ l, (insS x l).Perm (x :: l)
  | [] => .refl _
  | y :: r => by
    unfold insS
    split
    · exact ((insS_perm x r).cons y).trans (.swap _ _ _)
    · exact .refl _
theorem insS_pw (x : Str) : ∀ l : List Str, l.Pairwise LeT → (insS x l).Pairwise LeT
  | [], _ => List.pairwise_singleton _ _
  | y :: r, h => by
    obtain ⟨h1, h2⟩ := List.pairwise_cons.mp h
    unfold insS
    split
    · rename_i z
      refine List.pairwise_cons.mpr ⟨fun u hu => ?_, insS_pw x r h2⟩
      rcases List.mem_cons.mp ((insS_perm x r).mem_iff.mp hu) with rfl | hu
      · exact LeT.tot _ _ z
      · exact h1 u hu
    · rename_i z
      have z1 : LeT x y := leT_of (by simpa using z)
      refine List.pairwise_cons.mpr ⟨fun u hu => ?_, h⟩
      rcases List.mem_cons.mp hu with rfl | hu
      · exact z1
      · exact List.le_trans z1 (h1 u hu)
theorem sortS_perm : ∀ l, (sortS l).Perm l
  | [] => .refl _
  | x :: r => (insS_perm x (sortS r)).trans ((sortS_perm r).cons x)
theorem sortS_pw : ∀ l, (sortS l).Pairwise LeT
  | [] => .nil
  | x :: r => insS_pw x _ (sortS_pw r)
theorem sortS_one {ys xs : List Str} (p : ys.Perm xs) (h : sortedS ys = true) : ys = sortS xs :=
  List.Perm.eq_of_pairwise (le := LeT) (fun _ _ _ _ a b => a.anti b) (sorted_pw ys h) (sortS_pw xs) (p.trans (sortS_perm xs).symm)
end Zed
end
section
set_option Elab.async false
set_option linter.all false
set_option maxRecDepth 100000
namespace Zed
open PySem L2

/-- values: tuples are deep, lists and other things that change are places in the heap -/
inductive PV where
  | non | bl (b : Bool) | int (i : Int) | str (x : Str) | tup (ds : List PV) | fl (ds : List PV) | ref (i : Nat) | ty (n : String) | gl (k : Nat)
inductive PObj where
  | lst (ds : List PV)
  | dic (kvs : List (PV × PV))
  | set (ds : List PV)
  | ins (c : Nat) (fs : List (Nat × PV))
abbrev PHeap := List PObj
inductive R (α : Type) where
  | ok (a : α) (h : PHeap)
  | exc (c : PV) (fs : List (Nat × PV)) (h : PHeap)
  | stuck
def R.bind {α β : Type} (m : R α) (k : α → PHeap → R β) : R β :=
  match m with
  | .ok a h => k a h
  | .exc c fs h => .exc c fs h
  | .stuck => .stuck
@[simp] theorem R.bind_ok {α β : Type} (a : α) (h : PHeap) (k : α → PHeap → R β) : (R.ok a h).bind k = k a h := rfl
@[simp] theorem R.bind_exc {α β : Type} (c : PV) (fs : List (Nat × PV)) (h : PHeap) (k : α → PHeap → R β) : (R.exc c fs h : R α).bind k = .exc c fs h := rfl
@[simp] theorem R.bind_stuck {α β : Type} (k : α → PHeap → R β) : (R.stuck : R α).bind k = .stuck := rfl

/-! ### how abstract things lie in the abstract heap of HandS -/
/-- a list that nobody changes -/
def FzL (K : PySem.W.Frag) (H : Hp) (a : Addr) (xs : List V) : Prop :=
  (∃ o, H a = some (.frz o (.lst xs))) ∨
    ∃ (o : Obj) (its : Array Value) (n : Nat), K.lookup a = some o ∧ o.cls = .type "list" ∧ o.dict = none ∧ o.data = .seq its n ∧ its.size ≤ sizeLine ∧ Vals xs its.toList
theorem FzL.sq {K : PySem.W.Frag} {H : Hp} {a : Addr} {xs : List V} (h : FzL K H a xs) : SqL K H a xs := by
  rcases h with ⟨o, h⟩ | h
  · exact .inl (.inr ⟨o, h⟩)
  · exact .inr h

/-- the written part, the module's names -/
structure Gc where
  K : PySem.W.Frag
  mg : Str → Option Value
  /-- the names' numbers: the module's names, the attributes -/
  nm : Nat → Str
  P : Program
  w : World
  /-- classes with slots: a class's attribute's place -/
  isSl : Nat → Bool
  slot : Nat → Nat → Option Nat
  fld : Nat → Nat → Bool

mutual
inductive RepV (G : Gc) (φ : List Addr) (H : Hp) : PV → V → Prop
  | non : RepV G φ H .non .non
  | bl (b : Bool) : RepV G φ H (.bl b) (.bl b)
  | int (i : Int) : RepV G φ H (.int i) (.int i)
  | str (x : Str) : RepV G φ H (.str x) (.str x)
  | ty (n : String) : RepV G φ H (.ty n) (.ty n)
  | tup {a : Addr} {vs : List V} {ds : List PV} : SqT G.K H a vs → RepVs G φ H ds vs → RepV G φ H (.tup ds) (.ref a)
  | fl {a : Addr} {vs : List V} {ds : List PV} : FzL G.K H a vs → RepVs G φ H ds vs → RepV G φ H (.fl ds) (.ref a)
  | ref {i : Nat} {a : Addr} : φ[i]? = some a → RepV G φ H (.ref i) (.ref a)
  | gl {k : Nat} {a : Addr} : G.mg (G.nm k) = some (.ref a) → RepV G φ H (.gl k) (.ref a)
inductive RepVs (G : Gc) (φ : List Addr) (H : Hp) : List PV → List V → Prop
  | nil : RepVs G φ H [] []
  | cons {d : PV} {v : V} {ds : List PV} {vs : List V} : RepV G φ H d v → RepVs G φ H ds vs → RepVs G φ H (d :: ds) (v :: vs)
end

mutual
/-- a value as a key of a dict -/
def nkOf : PV → Option NestedKey
  | .non => some .none
  | .bl b => some (.num (if b = true then 1 else 0))
  | .int i => some (.num i)
  | .str x => some (.text x)
  | .tup ds => (nkOfs ds).map .tup
  | _ => none
def nkOfs : List PV → Option (List NestedKey)
  | [] => some []
  | d :: ds => match nkOf d, nkOfs ds with
    | some k, some ks => some (k :: ks)
    | _, _ => none
end
def keyOf : PV → Option Key
  | .int i => some (.inl i)
  | .str x => some (.inr x)
  | _ => none
/-- a dict whose keys are tuples -/
def NdO (P : Program) (w : World) (a : Addr) (xs : List (NestedKey × Addr × Value)) : HO := .ext fun h => ∃ o es ep, h.get? a = some o ∧ o.ExactDict ∧ o.data = .dict es ep ∧ es.toList = xs.map (entryOfKey (nestedKind P w))
def RepE (G : Gc) (φ : List Addr) (H : Hp) (p : PV × PV) (x : NestedKey × Addr × Value) : Prop :=
  nkOf p.1 = some x.1 ∧ x.1.depth ≤ 8 ∧ RepV G φ H p.1 (.ref x.2.1) ∧ ∃ v, RelV v x.2.2 ∧ RepV G φ H p.2 v
def RepK (G : Gc) (φ : List Addr) (H : Hp) (p : PV × PV) (q : Key × V) : Prop := keyOf p.1 = some q.1 ∧ RepV G φ H p.2 q.2
def RepO (G : Gc) (φ : List Addr) (H : Hp) (a : Addr) : PObj → Prop
  | .lst ds => ∃ vs, H a = some (.lst vs) ∧ RepVs G φ H ds vs
  | .dic kvs => kvs.length ≤ sizeLine ∧ ((∃ kvs', H a = some (.dK kvs') ∧ Paired (RepK G φ H) kvs kvs') ∨
      ∃ xs, kvs ≠ [] ∧ H a = some (NdO G.P G.w a xs) ∧ (a == sysModules) = false ∧ (xs.map (·.1)).Nodup ∧ Paired (RepE G φ H) kvs xs)
  | .set ds => ∃ xs ks : List Str, ds = xs.map PV.str ∧ H a = some (TxO G.w a ks) ∧ ks.Perm xs ∧ xs.length < 64
  | .ins c fs => ∃ C dx, G.mg (G.nm c) = some (.ref C) ∧
      ((G.isSl c = false ∧ ∃ fs', H a = some (.ins C dx fs') ∧ fs'.length ≤ fs.length ∧ (∀ f d, fs.lookup f = some d → G.fld c f = true ∧ ∃ v, fs'.lookup (G.nm f) = some v ∧ RepV G φ H d v) ∧ ∀ x v, fs'.lookup x = some v → ∃ f, G.nm f = x ∧ (fs.lookup f).isSome = true) ∨
       (G.isSl c = true ∧ ∃ vs, SlX.Slt H a C dx vs ∧ (dx ≠ a ∧ (H dx = some (.own a) ∨ H dx = some (.xd []))) ∧ ∀ f d, fs.lookup f = some d → ∃ i v, G.slot c f = some i ∧ vs[i]? = some (some v) ∧ RepV G φ H d v))
structure RelH (G : Gc) (φ : List Addr) (h : PHeap) (H : Hp) : Prop where
  len : φ.length = h.length
  nd : φ.Nodup
  obj : ∀ (i : Nat) (o : PObj) (a : Addr), h[i]? = some o → φ[i]? = some a → RepO G φ H a o
/-- from φ, H on to φ', H': new places were free, what lies outside φ is kept (an instance's own dict may turn) -/
structure Ext (φ : List Addr) (H : Hp) (φ' : List Addr) (H' : Hp) : Prop where
  pre : φ <+: φ'
  new : ∀ a, a ∈ φ' → a ∉ φ → H a = none
  keep : ∀ a o, H a = some o → a ∉ φ → (∀ x, o ≠ .own x) → H' a = some o
  own : ∀ a x, H a = some (.own x) → a ∉ φ → H' a = some (.own x) ∨ H' a = some (.xd [])
theorem Ext.refl {φ : List Addr} {H : Hp} : Ext φ H φ H := ⟨List.prefix_refl _, fun _ h n => absurd h n, fun _ _ h _ _ => h, fun _ _ h _ => .inl h⟩
theorem Ext.live {φ φ' : List Addr} {H H' : Hp} (x : Ext φ H φ' H') : ∀ a o, H a = some o → a ∉ φ → H' a ≠ none := fun a o h n z => by
  by_cases q : ∃ y, o = .own y
  · obtain ⟨y, rfl⟩ := q
    rcases x.own a y h n with e | e
    · rw [e] at z; cases z
    · rw [e] at z; cases z
  · rw [x.keep a o h n fun y e => q ⟨y, e⟩] at z; cases z
theorem Ext.trans {φ φ1 φ2 : List Addr} {H H1 H2 : Hp} (a : Ext φ H φ1 H1) (b : Ext φ1 H1 φ2 H2) : Ext φ H φ2 H2 where
  pre := a.pre.trans b.pre
  new := fun x h n => by
    by_cases q : x ∈ φ1
    · exact a.new x q n
    · have z := b.new x h q
      cases e : H x with
      | none => rfl
      | some o => exact absurd z (a.live x o e n)
  keep := fun x o h n no => b.keep x o (a.keep x o h n no) (fun q => by rw [a.new x q n] at h; cases h) no
  own := fun x y h n => by
    have nx : x ∉ φ1 := fun q => by rw [a.new x q n] at h; cases h
    rcases a.own x y h n with e | e
    · exact b.own x y e nx
    · exact .inr (b.keep x _ e nx fun _ q => (nomatch q))
/-- kept outside of φ: all -/
theorem Ext.of {φ φ' : List Addr} {H H' : Hp} (pre : φ <+: φ') (new : ∀ a, a ∈ φ' → a ∉ φ → H a = none) (keep : ∀ a o, H a = some o → a ∉ φ → H' a = some o) : Ext φ H φ' H' :=
  ⟨pre, new, fun a o h n _ => keep a o h n, fun a x h n => .inl (keep a _ h n)⟩
theorem pre_get {φ φ' : List Addr} (h : φ <+: φ') {i : Nat} {a : Addr} (e : φ[i]? = some a) : φ'[i]? = some a := by
  obtain ⟨t, rfl⟩ := h
  obtain ⟨hi, _⟩ := List.getElem?_eq_some_iff.mp e
  rw [List.getElem?_append_left hi]; exact e
theorem RepO.some {G : Gc} {φ : List Addr} {H : Hp} {a : Addr} {o : PObj} (h : RepO G φ H a o) : ∃ u, H a = some u ∧ (∀ xs, u ≠ .tup xs) ∧ (∀ ob q, u ≠ .frz ob q) ∧ (∀ x, u ≠ .own x) ∧ ∀ fs, u ≠ .xd fs := by
  cases o with
  | lst ds => obtain ⟨vs, e, _⟩ := h; exact ⟨_, e, fun _ q => (nomatch q), fun _ _ q => (nomatch q), fun _ q => (nomatch q), fun _ q => (nomatch q)⟩
  | dic kvs =>
    obtain ⟨_, ⟨_, e, _⟩ | ⟨_, _, e, _⟩⟩ := h
    · exact ⟨_, e, fun _ q => (nomatch q), fun _ _ q => (nomatch q), fun _ q => (nomatch q), fun _ q => (nomatch q)⟩
    · exact ⟨_, e, fun _ q => (nomatch q), fun _ _ q => (nomatch q), fun _ q => (nomatch q), fun _ q => (nomatch q)⟩
  | set => obtain ⟨_, _, _, e, _⟩ := h; exact ⟨_, e, fun _ q => (nomatch q), fun _ _ q => (nomatch q), fun _ q => (nomatch q), fun _ q => (nomatch q)⟩
  | ins c fs =>
    obtain ⟨C, dx, _, ⟨_, _, e, _⟩ | ⟨_, _, ⟨e, _⟩ | ⟨e, _⟩, _⟩⟩ := h
    · exact ⟨_, e, fun _ q => (nomatch q), fun _ _ q => (nomatch q), fun _ q => (nomatch q), fun _ q => (nomatch q)⟩
    · exact ⟨_, e, fun _ q => (nomatch q), fun _ _ q => (nomatch q), fun _ q => (nomatch q), fun _ q => (nomatch q)⟩
    · exact ⟨_, e, fun _ q => (nomatch q), fun _ _ q => (nomatch q), fun _ q => (nomatch q), fun _ q => (nomatch q)⟩
section
variable {G : Gc} {φ φ' : List Addr} {h h' : PHeap} {H H' : Hp} {a : Addr} {d : PV} {v : V} {ds : List PV} {vs : List V} {l : List (Option PV)} {σ : St}
theorem RelH.at (r : RelH G φ h H) (hm : a ∈ φ) : ∃ (i : Nat) (o : PObj), φ[i]? = some a ∧ h[i]? = some o ∧ RepO G φ H a o := by
  obtain ⟨i, hi, e⟩ := List.mem_iff_getElem.mp hm
  have hi' : i < h.length := by rw [← r.len]; exact hi
  have e1 : φ[i]? = some a := by rw [List.getElem?_eq_getElem hi, e]
  exact ⟨i, h[i], e1, List.getElem?_eq_getElem hi', r.obj i _ a (List.getElem?_eq_getElem hi') e1⟩
theorem RelH.notTup (r : RelH G φ h H) {xs : List V} (e : H a = some (.tup xs)) : a ∉ φ := fun hm => by
  obtain ⟨i, o, _, _, ro⟩ := r.at hm
  obtain ⟨u, eu, n, _⟩ := ro.some
  rw [eu] at e; cases e; exact n _ rfl
theorem RelH.notFrz (r : RelH G φ h H) {o : Obj} {q : HO} (e : H a = some (.frz o q)) : a ∉ φ := fun hm => by
  obtain ⟨i, _, _, _, ro⟩ := r.at hm
  obtain ⟨u, eu, _, n, _⟩ := ro.some
  rw [eu] at e; cases e; exact n _ _ rfl
theorem RelH.notXd (r : RelH G φ h H) {fs : List (Str × V)} (e : H a = some (.xd fs)) : a ∉ φ := fun hm => by
  obtain ⟨i, _, _, _, ro⟩ := r.at hm
  obtain ⟨u, eu, _, _, _, n⟩ := ro.some
  rw [eu] at e; cases e; exact n _ rfl
theorem RelH.notOwn (r : RelH G φ h H) {x : Addr} (e : H a = some (.own x)) : a ∉ φ := fun hm => by
  obtain ⟨i, _, _, _, ro⟩ := r.at hm
  obtain ⟨u, eu, _, _, n, _⟩ := ro.some
  rw [eu] at e; cases e; exact n _ rfl
theorem RelH.free (r : RelH G φ h H) {p : Addr} (e : H p = none) : p ∉ φ := fun hm => by
  obtain ⟨i, _, _, _, ro⟩ := r.at hm
  obtain ⟨u, eu, _⟩ := ro.some
  rw [eu] at e; cases e
theorem sqT_ext (r : RelH G φ h H) (x : Ext φ H φ' H') (s : SqT G.K H a vs) : SqT G.K H' a vs := by
  rcases s with (s | ⟨o, s⟩) | s
  · exact .inl (.inl (x.keep _ _ s (r.notTup s) fun _ q => (nomatch q)))
  · exact .inl (.inr ⟨o, x.keep _ _ s (r.notFrz s) fun _ q => (nomatch q)⟩)
  · exact .inr s
theorem fzL_ext (r : RelH G φ h H) (x : Ext φ H φ' H') (s : FzL G.K H a vs) : FzL G.K H' a vs := by
  rcases s with ⟨o, s⟩ | s
  · exact .inl ⟨o, x.keep _ _ s (r.notFrz s) fun _ q => (nomatch q)⟩
  · exact .inr s
mutual
theorem repV_ext (r : RelH G φ h H) (x : Ext φ H φ' H') : ∀ {d : PV} {v : V}, RepV G φ H d v → RepV G φ' H' d v
  | _, _, .non => .non
  | _, _, .bl b => .bl b
  | _, _, .int i => .int i
  | _, _, .str s => .str s
  | _, _, .ty n => .ty n
  | _, _, .tup s q => .tup (sqT_ext r x s) (repVs_ext r x q)
  | _, _, .fl s q => .fl (fzL_ext r x s) (repVs_ext r x q)
  | _, _, .ref e => .ref (pre_get x.pre e)
  | _, _, .gl e => .gl e
theorem repVs_ext (r : RelH G φ h H) (x : Ext φ H φ' H') : ∀ {ds : List PV} {vs : List V}, RepVs G φ H ds vs → RepVs G φ' H' ds vs
  | _, _, .nil => .nil
  | _, _, .cons a b => .cons (repV_ext r x a) (repVs_ext r x b)
end
theorem RepVs.length : ∀ {ds : List PV} {vs : List V}, RepVs G φ H ds vs → ds.length = vs.length
  | _, _, .nil => rfl
  | _, _, .cons _ b => by simp [RepVs.length b]
theorem RepVs.append : ∀ {ds es : List PV} {vs ws : List V}, RepVs G φ H ds vs → RepVs G φ H es ws → RepVs G φ H (ds ++ es) (vs ++ ws)
  | _, _, _, _, .nil, q => q
  | _, _, _, _, .cons a b, q => .cons a (b.append q)
theorem RepVs.get : ∀ {ds : List PV} {vs : List V} {i : Nat} {d : PV}, RepVs G φ H ds vs → ds[i]? = some d → ∃ v, vs[i]? = some v ∧ RepV G φ H d v
  | _, _, _, _, .nil, e => by simp at e
  | _, _, 0, _, .cons a b, e => by simp at e; subst e; exact ⟨_, rfl, a⟩
  | _, _, i + 1, _, .cons a b, e => by simpa using b.get (i := i) (by simpa using e)
/-- the slots -/
def RepL (G : Gc) (φ : List Addr) (H : Hp) (l : List (Option PV)) (σ : St) : Prop :=
  l.length = σ.length ∧ ∀ (i : Nat) (d : PV), l[i]? = some (some d) → ∃ v, σ[i]? = some (some v) ∧ RepV G φ H d v
theorem repL_ext (r : RelH G φ h H) (x : Ext φ H φ' H') (q : RepL G φ H l σ) : RepL G φ' H' l σ := ⟨q.1, fun i d e => by
  obtain ⟨v, e1, e2⟩ := q.2 i d e
  exact ⟨v, e1, repV_ext r x e2⟩⟩
theorem RepL.set (q : RepL G φ H l σ) {i : Nat} (rv : RepV G φ H d v) : RepL G φ H (l.set i (some d)) (σ.set i (some v)) := by
  refine ⟨by simpa using q.1, fun j e hj => ?_⟩
  by_cases z : j = i
  · subst z
    have hl : j < l.length := by
      have := (List.getElem?_eq_some_iff.mp hj).1
      simpa using this
    rw [List.getElem?_set_self hl] at hj
    cases hj
    exact ⟨v, List.getElem?_set_self (by rw [← q.1]; exact hl), rv⟩
  · rw [List.getElem?_set_ne (Ne.symm z)] at hj ⊢
    exact q.2 j e hj
end

/-! ### readings by functions -/
/-- an exception: its class, its own dict -/
def RepX (G : Gc) (φ : List Addr) (H : Hp) (c : PV) (fs : List (Nat × PV)) (cls : Value) (d : Option Addr) : Prop :=
  ((∃ x a, c = .gl x ∧ G.mg (G.nm x) = some (.ref a) ∧ cls = .ref a) ∨ ∃ n, c = .ty n ∧ cls = .type n) ∧
  (fs = [] ∨ ∃ dd ws, d = some dd ∧ H dd = some (.xd ws) ∧ ∀ f e, fs.lookup f = some e → ∃ w, ws.lookup (G.nm f) = some w ∧ RepV G φ H e w)

/-- what is wanted of an answer -/
def Post (G : Gc) (φ : List Addr) (H : Hp) (r : R PV) (Q : VK) (E : XK) : Prop :=
  match r with
  | .ok d h' => ∀ φ' H' v, Ext φ H φ' H' → RelH G φ' h' H' → RepV G φ' H' d v → Q v H'
  | .exc c fs h' => ∀ φ' H' cls dd, Ext φ H φ' H' → RelH G φ' h' H' → RepX G φ' H' c fs cls dd → E cls dd H'
  | .stuck => False
/-- a function of values and heap: the reading of a call, an operator -/
def rF (G : Gc) (F : List PV → PHeap → R PV) (vs : List V) (H : Hp) (Q : VK) (E : XK) : Prop :=
  ∃ φ h ds, RelH G φ h H ∧ RepVs G φ H ds vs ∧ Post G φ H (F ds h) Q E
abbrev Loc := List (Option PV)
/-- an expression's reading -/
def tEv (G : Gc) (W : WX) (f : Loc → PHeap → R PV) : TE := fun σ H Q =>
  ∃ φ l h, RelH G φ h H ∧ RepL G φ H l σ ∧ Post G φ H (f l h) Q (fun c d H' => W c d σ H')
/-- an argument list's -/
def PostA (G : Gc) (φ : List Addr) (H : Hp) (r : R (List PV)) (Q : List V → Hp → Prop) (E : XK) : Prop :=
  match r with
  | .ok ds h' => ∀ φ' H' vs, Ext φ H φ' H' → RelH G φ' h' H' → RepVs G φ' H' ds vs → Q vs H'
  | .exc c fs h' => ∀ φ' H' cls dd, Ext φ H φ' H' → RelH G φ' h' H' → RepX G φ' H' c fs cls dd → E cls dd H'
  | .stuck => False
def tEvA (G : Gc) (W : WX) (f : Loc → PHeap → R (List PV)) : TA := fun σ H Q =>
  ∃ φ l h, RelH G φ h H ∧ RepL G φ H l σ ∧ PostA G φ H (f l h) Q (fun c d H' => W c d σ H')
/-- a test's -/
def PostT (G : Gc) (φ : List Addr) (H : Hp) (r : R Bool) (Q : Bool → Hp → Prop) (E : XK) : Prop :=
  match r with
  | .ok b h' => ∀ φ' H', Ext φ H φ' H' → RelH G φ' h' H' → Q b H'
  | .exc c fs h' => ∀ φ' H' cls dd, Ext φ H φ' H' → RelH G φ' h' H' → RepX G φ' H' c fs cls dd → E cls dd H'
  | .stuck => False
def tEvT (G : Gc) (W : WX) (f : Loc → PHeap → R Bool) : TT := fun σ H Q =>
  ∃ φ l h, RelH G φ h H ∧ RepL G φ H l σ ∧ PostT G φ H (f l h) Q (fun c d H' => W c d σ H')

section
variable {G : Gc} {φ : List Addr} {h : PHeap} {H : Hp} {W : WX} {l : Loc} {σ : St}
theorem Post.bind {r : R PV} {k : PV → PHeap → R PV} {Q : VK} {E : XK} (p : Post G φ H (r.bind k) Q E) :
    Post G φ H r (fun v H1 => ∃ φ1 h1 d1, Ext φ H φ1 H1 ∧ RelH G φ1 h1 H1 ∧ RepV G φ1 H1 d1 v ∧ Post G φ H (k d1 h1) Q E) E := by
  cases r with
  | ok d h' => exact fun φ' H' v x rh rv => ⟨φ', h', d, x, rh, rv, p⟩
  | exc c fs h' => exact p
  | stuck => exact p
theorem Post.ext {φ1 : List Addr} {H1 : Hp} {r : R PV} {Q : VK} {E : XK} (x : Ext φ H φ1 H1) (p : Post G φ H r Q E) : Post G φ1 H1 r Q E := by
  cases r with
  | ok d h' => exact fun φ' H' v x1 rh rv => p φ' H' v (x.trans x1) rh rv
  | exc c fs h' => exact fun φ' H' cls dd x1 rh rx => p φ' H' cls dd (x.trans x1) rh rx
  | stuck => exact p
theorem PostA.ext {φ1 : List Addr} {H1 : Hp} {r : R (List PV)} {Q : List V → Hp → Prop} {E : XK} (x : Ext φ H φ1 H1) (p : PostA G φ H r Q E) : PostA G φ1 H1 r Q E := by
  cases r with
  | ok d h' => exact fun φ' H' v x1 rh rv => p φ' H' v (x.trans x1) rh rv
  | exc c fs h' => exact fun φ' H' cls dd x1 rh rx => p φ' H' cls dd (x.trans x1) rh rx
  | stuck => exact p
theorem PostT.ext {φ1 : List Addr} {H1 : Hp} {r : R Bool} {Q : Bool → Hp → Prop} {E : XK} (x : Ext φ H φ1 H1) (p : PostT G φ H r Q E) : PostT G φ1 H1 r Q E := by
  cases r with
  | ok d h' => exact fun φ' H' x1 rh => p φ' H' (x.trans x1) rh
  | exc c fs h' => exact fun φ' H' cls dd x1 rh rx => p φ' H' cls dd (x.trans x1) rh rx
  | stuck => exact p
theorem Post.mono {r : R PV} {Q Q' : VK} {E : XK} (p : Post G φ H r Q E) (hq : ∀ v H', Q v H' → Q' v H') : Post G φ H r Q' E := by
  cases r with
  | ok d h' => exact fun φ' H' v x1 rh rv => hq _ _ (p φ' H' v x1 rh rv)
  | exc c fs h' => exact p
  | stuck => exact p
end
/-- weaken a reading -/
theorem pe_imp {X : Cx} {e : Expr} {t t' : TE} (h : PE X e t) (i : ∀ σ H Q, t' σ H Q → t σ H Q) : PE X e t' := ⟨fun pins s σ H Q I q => h.run pins s σ H Q I (i _ _ _ q)⟩
theorem pt_imp {X : Cx} {e : Expr} {t t' : TT} (h : PT X e t) (i : ∀ σ H Q, t' σ H Q → t σ H Q) : PT X e t' := ⟨fun pins s σ H Q I q => h.run pins s σ H Q I (i _ _ _ q)⟩
theorem pa_imp {X : Cx} {e : List Expr} {t t' : TA} (h : PA X e t) (i : ∀ σ H Q, t' σ H Q → t σ H Q) : PA X e t' := ⟨fun pos pins s σ H Q I q => h.run pos pins s σ H Q I (i _ _ _ q)⟩
theorem ps_imp {X : Cx} {e : Stmt} {t t' : TS} (h : PS X e t) (i : ∀ D σ H, t' D σ H → t D σ H) : PS X e t' := ⟨fun pins s σ H D I q => h.run pins s σ H D I (i _ _ _ q)⟩
theorem pss_imp {X : Cx} {e : List Stmt} {t t' : TS} (h : PSs X e t) (i : ∀ D σ H, t' D σ H → t D σ H) : PSs X e t' := ⟨fun pins s σ H D I q => h.run pins s σ H D I (i _ _ _ q)⟩

/-- a built-in's work: a value and the heap behind it, or nothing -/
abbrev Pf := List PV → PHeap → Option (PV × PHeap)
def liftP : Option (PV × PHeap) → R PV
  | some (d, h) => .ok d h
  | none => .stuck
def rP (G : Gc) (F : Pf) (vs : List V) (H : Hp) (Q : VK) : Prop :=
  ∃ φ h ds d h', RelH G φ h H ∧ RepVs G φ H ds vs ∧ F ds h = some (d, h') ∧ ∀ φ' H' v, Ext φ H φ' H' → RelH G φ' h' H' → RepV G φ' H' d v → Q v H'
theorem Post.lift {G : Gc} {φ : List Addr} {H : Hp} {r : Option (PV × PHeap)} {Q : VK} {E : XK} (p : Post G φ H (liftP r) Q E) :
    ∃ d h', r = some (d, h') ∧ ∀ φ' H' v, Ext φ H φ' H' → RelH G φ' h' H' → RepV G φ' H' d v → Q v H' := by
  match r, p with
  | some (d, h'), p => exact ⟨d, h', rfl, p⟩
section
variable {G : Gc} {W : WX} {φ : List Addr} {h : PHeap} {H : Hp} {l : Loc} {σ : St}
theorem PostA.bind {r : R (List PV)} {k : List PV → PHeap → R PV} {Q : VK} {E : XK} (p : Post G φ H (r.bind k) Q E) :
    PostA G φ H r (fun v H1 => ∃ φ1 h1 d1, Ext φ H φ1 H1 ∧ RelH G φ1 h1 H1 ∧ RepVs G φ1 H1 d1 v ∧ Post G φ H (k d1 h1) Q E) E := by
  cases r with
  | ok d h' => exact fun φ' H' v x rh rv => ⟨φ', h', d, x, rh, rv, p⟩
  | exc c fs h' => exact p
  | stuck => exact p
theorem PostT.bind {r : R Bool} {k : Bool → PHeap → R PV} {Q : VK} {E : XK} (p : Post G φ H (r.bind k) Q E) :
    PostT G φ H r (fun b H1 => ∃ φ1 h1, Ext φ H φ1 H1 ∧ RelH G φ1 h1 H1 ∧ Post G φ H (k b h1) Q E) E := by
  cases r with
  | ok d h' => exact fun φ' H' x rh => ⟨φ', h', x, rh, p⟩
  | exc c fs h' => exact p
  | stuck => exact p
theorem Post.bindA {r : R PV} {k : PV → PHeap → R (List PV)} {Q : List V → Hp → Prop} {E : XK} (p : PostA G φ H (r.bind k) Q E) :
    Post G φ H r (fun v H1 => ∃ φ1 h1 d1, Ext φ H φ1 H1 ∧ RelH G φ1 h1 H1 ∧ RepV G φ1 H1 d1 v ∧ PostA G φ H (k d1 h1) Q E) E := by
  cases r with
  | ok d h' => exact fun φ' H' v x rh rv => ⟨φ', h', d, x, rh, rv, p⟩
  | exc c fs h' => exact p
  | stuck => exact p
theorem PostA.bindA {r : R (List PV)} {k : List PV → PHeap → R (List PV)} {Q : List V → Hp → Prop} {E : XK} (p : PostA G φ H (r.bind k) Q E) :
    PostA G φ H r (fun v H1 => ∃ φ1 h1 d1, Ext φ H φ1 H1 ∧ RelH G φ1 h1 H1 ∧ RepVs G φ1 H1 d1 v ∧ PostA G φ H (k d1 h1) Q E) E := by
  cases r with
  | ok d h' => exact fun φ' H' v x rh rv => ⟨φ', h', d, x, rh, rv, p⟩
  | exc c fs h' => exact p
  | stuck => exact p
theorem Post.bindT {r : R PV} {k : PV → PHeap → R Bool} {Q : Bool → Hp → Prop} {E : XK} (p : PostT G φ H (r.bind k) Q E) :
    Post G φ H r (fun v H1 => ∃ φ1 h1 d1, Ext φ H φ1 H1 ∧ RelH G φ1 h1 H1 ∧ RepV G φ1 H1 d1 v ∧ PostT G φ H (k d1 h1) Q E) E := by
  cases r with
  | ok d h' => exact fun φ' H' v x rh rv => ⟨φ', h', d, x, rh, rv, p⟩
  | exc c fs h' => exact p
  | stuck => exact p
theorem PostT.bindT {r : R Bool} {k : Bool → PHeap → R Bool} {Q : Bool → Hp → Prop} {E : XK} (p : PostT G φ H (r.bind k) Q E) :
    PostT G φ H r (fun b H1 => ∃ φ1 h1, Ext φ H φ1 H1 ∧ RelH G φ1 h1 H1 ∧ PostT G φ H (k b h1) Q E) E := by
  cases r with
  | ok d h' => exact fun φ' H' x rh => ⟨φ', h', x, rh, p⟩
  | exc c fs h' => exact p
  | stuck => exact p
theorem PostA.mono {r : R (List PV)} {Q Q' : List V → Hp → Prop} {E : XK} (p : PostA G φ H r Q E) (hq : ∀ v H', Q v H' → Q' v H') : PostA G φ H r Q' E := by
  cases r with
  | ok d h' => exact fun φ' H' v x1 rh rv => hq _ _ (p φ' H' v x1 rh rv)
  | exc c fs h' => exact p
  | stuck => exact p
theorem PostT.mono {r : R Bool} {Q Q' : Bool → Hp → Prop} {E : XK} (p : PostT G φ H r Q E) (hq : ∀ v H', Q v H' → Q' v H') : PostT G φ H r Q' E := by
  cases r with
  | ok d h' => exact fun φ' H' x1 rh => hq _ _ (p φ' H' x1 rh)
  | exc c fs h' => exact p
  | stuck => exact p

/-- two expressions, then an operator -/
def ev2 (fa fb : Loc → PHeap → R PV) (F : Pf) : Loc → PHeap → R PV := fun l h => (fa l h).bind fun x h1 => (fb l h1).bind fun y h2 => liftP (F [x, y] h2)
def ev1 (fa : Loc → PHeap → R PV) (F : Pf) : Loc → PHeap → R PV := fun l h => (fa l h).bind fun x h1 => liftP (F [x] h1)
def evN (fa : Loc → PHeap → R (List PV)) (F : Pf) : Loc → PHeap → R PV := fun l h => (fa l h).bind fun x h1 => liftP (F x h1)
def r2 (G : Gc) (F : Pf) : R2 := fun x y H Q => rP G F [x, y] H Q
theorem tOp_ev {fa fb : Loc → PHeap → R PV} {F : Pf} (σ : St) (H : Hp) (Q : VK) (t : tEv G W (ev2 fa fb F) σ H Q) :
    tOp (r2 G F) (tEv G W fa) (tEv G W fb) σ H Q := by
  obtain ⟨φ, l, h, rh, rl, p⟩ := t
  refine ⟨φ, l, h, rh, rl, Post.mono (Post.bind p) fun v H1 ⟨φ1, h1, d1, x1, rh1, rv1, p1⟩ => ?_⟩
  refine ⟨φ1, l, h1, rh1, repL_ext rh x1 rl, Post.mono (Post.bind (p1.ext x1)) fun w H2 ⟨φ2, h2, d2, x2, rh2, rv2, p2⟩ => ?_⟩
  obtain ⟨d, h', e, q⟩ := Post.lift (p2.ext x2)
  exact ⟨φ2, h2, [d1, d2], d, h', rh2, .cons (repV_ext rh1 x2 rv1) (.cons rv2 .nil), e, q⟩
theorem tCB_ev {fa : Loc → PHeap → R (List PV)} {F : Pf} (σ : St) (H : Hp) (Q : VK) (t : tEv G W (evN fa F) σ H Q) :
    tCB (rP G F) (tEvA G W fa) σ H Q := by
  obtain ⟨φ, l, h, rh, rl, p⟩ := t
  refine ⟨φ, l, h, rh, rl, PostA.mono (PostA.bind p) fun v H1 ⟨φ1, h1, d1, x1, rh1, rv1, p1⟩ => ?_⟩
  obtain ⟨d, h', e, q⟩ := Post.lift (p1.ext x1)
  exact ⟨φ1, h1, d1, d, h', rh1, rv1, e, q⟩
/-- argument lists -/
def evNil : Loc → PHeap → R (List PV) := fun _ h => .ok [] h
def evCons (fa : Loc → PHeap → R PV) (fr : Loc → PHeap → R (List PV)) : Loc → PHeap → R (List PV) := fun l h => (fa l h).bind fun x h1 => (fr l h1).bind fun xs h2 => .ok (x :: xs) h2
theorem tNil_ev (σ : St) (H : Hp) (Q : List V → Hp → Prop) (t : tEvA G W evNil σ H Q) : tNil σ H Q := by
  obtain ⟨φ, l, h, rh, rl, p⟩ := t
  exact p φ H [] .refl rh .nil
theorem tCons_ev {fa : Loc → PHeap → R PV} {fr : Loc → PHeap → R (List PV)} (σ : St) (H : Hp) (Q : List V → Hp → Prop) (t : tEvA G W (evCons fa fr) σ H Q) : tCons (tEv G W fa) (tEvA G W fr) σ H Q := by
  obtain ⟨φ, l, h, rh, rl, p⟩ := t
  refine ⟨φ, l, h, rh, rl, Post.mono (Post.bindA p) fun v H1 ⟨φ1, h1, d1, x1, rh1, rv1, p1⟩ => ?_⟩
  refine ⟨φ1, l, h1, rh1, repL_ext rh x1 rl, PostA.mono (PostA.bindA (p1.ext x1)) fun w H2 ⟨φ2, h2, d2, x2, rh2, rv2, p2⟩ => ?_⟩
  exact (p2.ext x2) φ2 H2 (v :: w) .refl rh2 (.cons (repV_ext rh1 x2 rv1) rv2)
end
end Zed
end
section
set_option Elab.async false
set_option linter.all false
set_option maxRecDepth 100000
namespace Zed
open PySem L2

/-! ### the small language -/
inductive Bop where | add | sub | mul | fdiv | mod | pow
  deriving DecidableEq
inductive Cop where | lt | le | gt | ge | eq | ne | isin | notin | is | isnot
  deriving DecidableEq
inductive Bi where | len | isinstance | all | abs | int | max | min | tuple | list | sorted | set | repr
  deriving DecidableEq
inductive Mi where | append | extend
  deriving DecidableEq
mutual
inductive Tg where
  | nm (i : Nat)
  | tp (ts : Tgs)
inductive Tgs where
  | nil
  | cons (t : Tg) (ts : Tgs)
end
mutual
inductive Ex where
  | loc (i : Nat)
  | con (d : PV)
  | bin (op : Bop) (a b : Ex)
  | neg (a : Ex)
  | not (a : Ex)
  | cmp (op : Cop) (a b : Ex)
  | chn (op op' : Cop) (a b c : Ex)
  | and (a b : Ex)
  | or (a b : Ex)
  | ite (c a b : Ex)
  | tup (es : Exs)
  | lst (es : Exs)
  | call (f : Nat) (es : Exs)
  | make (c f : Nat) (es : Exs)
  | blt (b : Bi) (es : Exs)
  | meth (m : Mi) (o : Ex) (es : Exs)
  | sub (o i : Ex)
  | slc (o : Ex) (lo hi : Op)
  | attr (o : Ex) (f : Nat)
  | lc (elt : Ex) (tg : Tg) (it : Itr) (ifs : Op) (own : List Nat)
  | dic0
inductive Exs where
  | nil
  | cons (e : Ex) (es : Exs)
  | star (e : Ex) (es : Exs)
inductive Op where
  | no
  | yes (e : Ex)
inductive Itr where
  | val (e : Ex)
  | rng1 (e : Ex)
  | rng2 (a b : Ex)
  | enm (e : Ex)
  | zp (a b : Ex)
end
mutual
inductive Sx where
  | ex (e : Ex)
  | asg (t : Tg) (e : Ex)
  | put (o i e : Ex)
  | fld (o : Ex) (f : Nat) (e : Ex)
  | ret (e : Ex)
  | ret0
  | iff (c : Ex) (a b : Sxs)
  | for_ (t : Tg) (it : Itr) (b : Sxs)
  | whl (c : Ex) (b : Sxs)
  | pass
  | brk
  | cnt
  | rai (c : Nat) (es : Exs)
inductive Sxs where
  | nil
  | cons (s : Sx) (r : Sxs)
end

/-! ### built-ins -/
def mapO {α β : Type} (f : α → Option β) : List α → Option (List β)
  | [] => some []
  | a :: r => match f a, mapO f r with
    | some b, some bs => some (b :: bs)
    | _, _ => none
/-- what a value is as data -/
def toD (h : PHeap) : Nat → PV → Option PyData
  | _, .non => some .none
  | _, .bl b => some (.bool b)
  | _, .int i => some (.int i)
  | _, .str x => some (.str x)
  | n + 1, .tup ds => (mapO (toD h n) ds).map .tuple
  | n + 1, .fl ds => (mapO (toD h n) ds).map .list
  | n + 1, .ref i => match h[i]? with
    | some (.lst ds) => (mapO (toD h n) ds).map .list
    | _ => none
  | _, _ => none
def big : Nat := 2 ^ 9000
/-- the items of a list or a tuple -/
def seqOf (h : PHeap) : PV → Option (List PV)
  | .tup ds => some ds
  | .fl ds => some ds
  | .ref i => match h[i]? with
    | some (.lst ds) => some ds
    | _ => none
  | _ => none
def lstOf (h : PHeap) : PV → Option (List PV)
  | .fl ds => some ds
  | .ref i => match h[i]? with
    | some (.lst ds) => some ds
    | _ => none
  | _ => none
def truthF (h : PHeap) : PV → Option Bool
  | .non => some false
  | .bl b => some b
  | .int i => some (i != 0)
  | .str x => if x.length ≤ sizeLine then some (x.length != 0) else none
  | v => (seqOf h v).map fun ds => !ds.isEmpty
def newO (o : PObj) (h : PHeap) : PV × PHeap := (.ref h.length, h ++ [o])
def lstR (h : PHeap) : PV → Option (List PV)
  | .ref i => match h[i]? with
    | some (.lst ds) => some ds
    | _ => none
  | _ => none
def addF (x y : PV) (h : PHeap) : Option (PV × PHeap) :=
  match x, y with
  | .int i, .int j => some (.int (i + j), h)
  | .str x, .str y => if x.length + y.length ≤ sizeLine then some (.str (x ++ y), h) else none
  | .tup xs, .tup ys => if xs.length + ys.length ≤ sizeLine then some (.tup (xs ++ ys), h) else none
  | x, y => match lstR h x, lstR h y with
    | some xs, some ys => if xs.length + ys.length ≤ sizeLine then some (newO (.lst (xs ++ ys)) h) else none
    | _, _ => none
def mulF (x y : PV) (h : PHeap) : Option (PV × PHeap) :=
  match x, y with
  | .int i, .int j => if i.natAbs < big ∧ j.natAbs < big then some (.int (i * j), h) else none
  | .tup xs, .int k => if xs ≠ [] ∧ 2 ≤ k ∧ k ≤ 1000 ∧ xs.length ≤ 1000 then some (.tup (List.replicate k.toNat xs).flatten, h) else none
  | x, .int k => match lstR h x with
    | some xs => if -2 ^ 63 ≤ k ∧ k < 2 ^ 63 ∧ xs.length * k.toNat ≤ sizeLine then some (newO (.lst (List.replicate k.toNat xs).flatten) h) else none
    | none => none
  | _, _ => none
def arI : Bop → Int → Int → Option Int
  | .sub, i, j => some (i - j)
  | .fdiv, i, j => if 0 < j ∧ j.natAbs < big then some (i / j) else none
  | .mod, i, j => if 0 < j then some (i % j) else none
  | .pow, i, j => if 0 ≤ j ∧ j ≤ 1000 ∧ i.natAbs < 2 ^ 300 then some (i ^ j.toNat) else none
  | _, _, _ => none
def bopF (op : Bop) : Pf
  | [x, y], h => match op with
    | .add => addF x y h
    | .mul => mulF x y h
    | op => match x, y with
      | .int i, .int j => (arI op i j).map fun k => (.int k, h)
      | _, _ => none
  | _, _ => none
def eqF (h : PHeap) (x y : PV) : Option Bool :=
  match toD h 70 x, toD h 70 y with
  | some a, some b => if SeqAt.shaped a = true ∧ SeqAt.shaped b = true then some (PyData.eqv a b) else none
  | _, _ => none
def flatP : PV → Bool
  | .non | .bl _ | .int _ | .str _ => true
  | _ => false
def eqP : PV → PV → Bool
  | .non, .non => true
  | .bl a, .bl b => a == b
  | .bl a, .int b => (if a = true then 1 else 0) == b
  | .int a, .bl b => a == if b = true then 1 else 0
  | .int a, .int b => a == b
  | .str a, .str b => a == b
  | _, _ => false
def inP (x : PV) (ds : List PV) : Bool := ds.any fun y => eqP y x
def ordF (op : Cop) (x y : PV) : Option Bool :=
  match op, x, y with
  | .lt, .int i, .int j => some (decide (i < j))
  | .le, .int i, .int j => some (decide (i ≤ j))
  | .gt, .int i, .int j => some (decide (j < i))
  | .ge, .int i, .int j => some (decide (j ≤ i))
  | .lt, .str x, .str y => some (decide (x.cps.toList < y.cps.toList))
  | .le, .str x, .str y => some (!decide (y.cps.toList < x.cps.toList))
  | _, _, _ => none
def isF (x y : PV) : Option Bool :=
  match x, y with
  | .bl a, .bl b => some (decide (a = b))
  | .non, .non => some true
  | _, .non => some false
  | _, _ => none
def inF (h : PHeap) (x y : PV) : Option Bool :=
  match seqOf h y with
  | some ds => if flatP x = true ∧ ds.all flatP = true then some (inP x ds) else none
  | none => none
def cmpB (op : Cop) (h : PHeap) (x y : PV) : Option Bool :=
  match op with
  | .eq => eqF h x y
  | .ne => (eqF h x y).map (!·)
  | .isin => inF h x y
  | .notin => (inF h x y).map (!·)
  | .is => isF x y
  | .isnot => (isF x y).map (!·)
  | op => ordF op x y
def cmpF (op : Cop) : Pf
  | [x, y], h => (cmpB op h x y).map fun b => (.bl b, h)
  | _, _ => none
def cutP (xs : List PV) (lo hi : Option Int) : List PV := List.take (HT.sIx xs.length xs.length hi - HT.sIx xs.length 0 lo) (List.drop (HT.sIx xs.length 0 lo) xs)
def sameK (p : PV) (k : NestedKey) : Bool := match nkOf p with
  | some q => NestedKey.beq q k
  | none => false
def dFind (kvs : List (PV × PV)) (k : NestedKey) : Option PV := (kvs.find? fun p => sameK p.1 k).map (·.2)
def dStore (kvs : List (PV × PV)) (k : NestedKey) (kp v : PV) : List (PV × PV) :=
  if (dFind kvs k).isSome then kvs.map fun p => if sameK p.1 k then (p.1, v) else p else kvs ++ [(kp, v)]
def isTupP : PV → Bool
  | .tup _ => true
  | _ => false
/-- the key fits the dict's keys: numbers and texts, or tuples -/
def fitsK (kvs : List (PV × PV)) (k : PV) (nk : NestedKey) : Bool :=
  ((keyOf k).isSome && kvs.all fun p => (keyOf p.1).isSome) || (isTupP k && decide (nk.depth ≤ 8) && kvs.all fun p => isTupP p.1)
def dGetF (kvs : List (PV × PV)) (k : PV) : Option PV := match nkOf k with
  | some nk => if fitsK kvs k nk then dFind kvs nk else none
  | none => none
def dPutF (kvs : List (PV × PV)) (k v : PV) : Option (List (PV × PV)) := match nkOf k with
  | some nk => if fitsK kvs k nk && decide (kvs.length < sizeLine) then some (dStore kvs nk k v) else none
  | none => none
def getF (o i : PV) (h : PHeap) : Option PV :=
  match o with
  | .str x => match i with
    | .int i => if x.length ≤ sizeLine then (atI x.cps.toList i).map fun c => .str ⟨#[c]⟩ else none
    | _ => none
  | .ref r => match h[r]? with
    | some (.dic kvs) => dGetF kvs i
    | some (.lst ds) => match i with
      | .int i => atI ds i
      | _ => none
    | _ => none
  | o => match i with
    | .int i => match seqOf h o with
      | some ds => atI ds i
      | none => none
    | _ => none
def subF : Pf
  | [o, i], h => (getF o i h).map fun d => (d, h)
  | _, _ => none
def slcF (o : PV) (lo hi : Option Int) (h : PHeap) : Option (PV × PHeap) :=
  match o with
  | .tup ds => if HT.sIx ds.length 0 lo = 0 ∧ HT.sIx ds.length ds.length hi = ds.length then none else some (.tup (cutP ds lo hi), h)
  | _ => match lstOf h o with
    | some ds => some (newO (.lst (cutP ds lo hi)) h)
    | none => none
def bools : List PV → Option (List Bool)
  | [] => some []
  | .bl b :: r => (bools r).map (b :: ·)
  | _ => none
def tyName (h : PHeap) : PV → Option String
  | .non => some "NoneType"
  | .bl _ => some "bool"
  | .int _ => some "int"
  | .str _ => some "str"
  | .tup _ => some "tuple"
  | .fl _ => some "list"
  | .ref i => match h[i]? with
    | some (.lst _) => some "list"
    | _ => none
  | _ => none
def strsP : List PV → Option (List Str)
  | [] => some []
  | .str x :: r => (strsP r).map (x :: ·)
  | _ => none
def reprP : PV → Option Str
  | .non => some "None"
  | .bl b => some (if b then "True" else "False")
  | .int i => if i.natAbs.log2 < 1920 then some (toString i) else none
  | _ => none
def setP (h : PHeap) (v : PV) : Option (PV × PHeap) := match lstOf h v with
  | some ds => match strsP ds with
    | some xs => if xs.length < 64 then some (newO (.set ((dedS xs).map PV.str)) h) else none
    | none => none
  | none => none
def sortP (h : PHeap) : PV → Option (PV × PHeap)
  | .ref i => match h[i]? with
    | some (.set ds) => (strsP ds).map fun xs => newO (.lst ((sortS xs).map PV.str)) h
    | some (.lst ds) => match strsP ds with
      | some xs => if xs.length < 64 then some (newO (.lst ((sortS xs).map PV.str)) h) else none
      | none => none
    | _ => none
  | _ => none
def bltF (b : Bi) : Pf := fun ds h =>
  match b, ds with
  | .len, [.str x] => if x.length ≤ sizeLine then some (.int x.length, h) else none
  | .len, [v] => (seqOf h v).map fun ds => (.int ds.length, h)
  | .isinstance, [v, .ty n] => match tyName h v with
    | some t => (kitB t n).map fun b => (.bl b, h)
    | none => none
  | .all, [v] => match lstOf h v with
    | some ds => (bools ds).map fun bs => (.bl (bs.all id), h)
    | none => none
  | .abs, [.int i] => some (.int (if i < 0 then -i else i), h)
  | .int, [.int i] => some (.int i, h)
  | .int, [.bl k] => some (.int (if k then 1 else 0), h)
  | .max, [.int m, .int n] => some (.int (if n > m then n else m), h)
  | .min, [.int m, .int n] => some (.int (if n < m then n else m), h)
  | .tuple, [.tup ds] => some (.tup ds, h)
  | .tuple, [v] => (lstOf h v).map fun ds => (.tup ds, h)
  | .list, [v] => (seqOf h v).map fun ds => newO (.lst ds) h
  | .set, [v] => setP h v
  | .sorted, [v] => sortP h v
  | .repr, [v] => (reprP v).map fun x => (.str x, h)
  | _, _ => none
def appP : Pf := fun ds h =>
  match ds with
  | [.ref i, v] => match h[i]? with
    | some (.lst xs) => if xs.length < sizeLine then some (.non, h.set i (.lst (xs ++ [v]))) else none
    | _ => none
  | _ => none
def extP : Pf := fun ds h =>
  match ds with
  | [.ref i, .ref j] => match h[i]?, h[j]? with
    | some (.lst xs), some (.lst ys) => if i ≠ j ∧ xs.length + ys.length ≤ sizeLine then some (.non, h.set i (.lst (xs ++ ys))) else none
    | _, _ => none
  | _ => none
/-- what a method is asked of -/
def rcvOk (m : Mi) (d : PV) (h : PHeap) : Bool :=
  match d with
  | .ref i => match h[i]? with
    | some (.lst _) => true
    | _ => false
  | _ => false
def methF : Mi → Pf
  | .append => appP
  | .extend => extP

/-! ### the interpreter -/
/-- the classes: with slots or not, a slot's place, a plain attribute, methods, properties -/
structure Ct where
  isSl : Nat → Bool
  slot : Nat → Nat → Option Nat
  fld : Nat → Nat → Bool
structure Orc where
  call : Nat → List PV → PHeap → R PV
  ct : Ct
def ownF (ct : Ct) (c f : Nat) : Bool := if ct.isSl c then (ct.slot c f).isSome else ct.fld c f
def attrF (ct : Ct) (f : Nat) : Pf := fun ds h =>
  match ds with
  | [.ref i] => match h[i]? with
    | some (.ins c fs) => if ownF ct c f then (fs.lookup f).map fun d => (d, h) else none
    | _ => none
  | _ => none
def setFl (fs : List (Nat × PV)) (f : Nat) (v : PV) : List (Nat × PV) :=
  match fs with
  | [] => [(f, v)]
  | (g, w) :: r => if g = f then (g, v) :: r else (g, w) :: setFl r f v
def fldF (ct : Ct) (o : PV) (f : Nat) (v : PV) (h : PHeap) : Option PHeap :=
  match o with
  | .ref i => match h[i]? with
    | some (.ins c fs) => if ownF ct c f && decide (fs.length < 900) then some (h.set i (.ins c (setFl fs f v))) else none
    | _ => none
  | _ => none
/-- an instance is made: the object, then __init__ -/
def makeF (call : Nat → List PV → PHeap → R PV) (c f : Nat) (ds : List PV) (h : PHeap) : R PV :=
  match call f (.ref h.length :: ds) (h ++ [.ins c []]) with
  | .ok .non h2 => .ok (.ref h.length) h2
  | _ => .stuck
inductive RS where
  | nx (l : Loc) (h : PHeap)
  | rt (d : PV) (h : PHeap)
  | bk (l : Loc) (h : PHeap)
  | ct (l : Loc) (h : PHeap)
  | exc (c : PV) (fs : List (Nat × PV)) (l : Loc) (h : PHeap)
  | stuck
def R.toS {α : Type} (m : R α) (l : Loc) (k : α → PHeap → RS) : RS :=
  match m with
  | .ok a h => k a h
  | .exc c fs h => .exc c fs l h
  | .stuck => .stuck
inductive Src where
  | seq (ds : List PV)
  | lst (i : Nat)
def srcAt (h : PHeap) (i : Nat) : Src → Option (Option PV)
  | .seq ds => some ds[i]?
  | .lst r => match h[r]? with
    | some (.lst ds) => some ds[i]?
    | _ => none
def srcLen (h : PHeap) : Src → Nat
  | .seq ds => ds.length
  | .lst r => match h[r]? with
    | some (.lst ds) => ds.length
    | _ => 0
def srcOf (h : PHeap) : PV → Option Src
  | .tup ds => some (.seq ds)
  | .fl ds => some (.seq ds)
  | .str x => some (.seq (x.cps.toList.map fun c => .str ⟨#[c]⟩))
  | .ref i => match h[i]? with
    | some (.lst _) => some (.lst i)
    | _ => none
  | _ => none
def rngOf (lo hi : Int) : Option Src :=
  if -2 ^ 62 ≤ lo ∧ lo < 2 ^ 62 ∧ -2 ^ 62 ≤ hi ∧ hi < 2 ^ 62 then some (.seq ((List.range (hi - lo).toNat).map fun (i : Nat) => .int (lo + i))) else none
mutual
def bindT : Tg → PV → Loc → Option Loc
  | .nm i, d, l => if i < l.length then some (l.set i (some d)) else none
  | .tp ts, .tup ds, l => bindTs ts ds l
  | .tp _, _, _ => none
def bindTs : Tgs → List PV → Loc → Option Loc
  | .nil, [], l => some l
  | .cons t ts, d :: ds, l => match bindT t d l with
    | some l' => bindTs ts ds l'
    | none => none
  | _, _, _ => none
end
def wipeP (l : Loc) : List Nat → Loc
  | [] => l
  | i :: r => (wipeP l r).set i none
/-- the turns of a comprehension: what is made so far, the turn's number -/
def lcLoop (tg : Tg) (src : Src) (tt : Loc → PHeap → R Bool) (el : Loc → PHeap → R PV) (lw : Loc) : Nat → Nat → List PV → PHeap → R (List PV)
  | 0, _, _, _ => .stuck
  | n + 1, i, acc, h => match srcAt h i src with
    | none => .stuck
    | some none => .ok acc h
    | some (some d) => match bindT tg d lw with
      | none => .stuck
      | some l => match tt l h with
        | .ok false h1 => lcLoop tg src tt el lw n (i + 1) acc h1
        | .ok true h1 => match el l h1 with
          | .ok y h2 => if acc.length < sizeLine then lcLoop tg src tt el lw n (i + 1) (acc ++ [y]) h2 else .stuck
          | _ => .stuck
        | _ => .stuck
def forLoop (tg : Tg) (src : Src) (body : Loc → PHeap → RS) : Nat → Nat → Loc → PHeap → RS
  | 0, _, _, _ => .stuck
  | n + 1, i, l, h => match srcAt h i src with
    | none => .stuck
    | some none => .nx l h
    | some (some d) => match bindT tg d l with
      | none => .stuck
      | some l1 => match body l1 h with
        | .nx l2 h2 => forLoop tg src body n (i + 1) l2 h2
        | .ct l2 h2 => forLoop tg src body n (i + 1) l2 h2
        | .bk l2 h2 => .nx l2 h2
        | .rt d h2 => .rt d h2
        | .exc c fs l2 h2 => .exc c fs l2 h2
        | .stuck => .stuck
def whlLoop (c : Loc → PHeap → R Bool) (body : Loc → PHeap → RS) : Nat → Loc → PHeap → RS
  | 0, _, _ => .stuck
  | n + 1, l, h => (c l h).toS l fun b h1 => match b with
    | false => .nx l h1
    | true => match body l h1 with
      | .nx l2 h2 => whlLoop c body n l2 h2
      | .ct l2 h2 => whlLoop c body n l2 h2
      | .bk l2 h2 => .nx l2 h2
      | .rt d h2 => .rt d h2
      | .exc c fs l2 h2 => .exc c fs l2 h2
      | .stuck => .stuck
def truthR (r : R PV) : R Bool := r.bind fun d h => match truthF h d with
  | some b => .ok b h
  | none => .stuck
def optI : R PV → R (Option Int)
  | .ok (.int i) h => .ok (some i) h
  | .ok _ _ => .stuck
  | .exc c fs h => .exc c fs h
  | .stuck => .stuck
def srcR (s : Option Src) (h : PHeap) : R Src := match s with
  | some s => .ok s h
  | none => .stuck
mutual
def evE (C : Orc) : Ex → Loc → PHeap → R PV
  | .loc i, l, h => match l[i]? with
    | some (some d) => .ok d h
    | _ => .stuck
  | .con d, _, h => .ok d h
  | .bin op a b, l, h => ev2 (evE C a) (evE C b) (bopF op) l h
  | .neg a, l, h => (evE C a l h).bind fun x h1 => match x with
    | .int i => .ok (.int (-i)) h1
    | _ => .stuck
  | .not a, l, h => (truthR (evE C a l h)).bind fun b h1 => .ok (.bl !b) h1
  | .cmp op a b, l, h => ev2 (evE C a) (evE C b) (cmpF op) l h
  | .chn op op' a b c, l, h => (evE C a l h).bind fun x h1 => (evE C b l h1).bind fun y h2 => (liftP (cmpF op [x, y] h2)).bind fun r h3 => match r with
    | .bl true => (evE C c l h3).bind fun z h4 => liftP (cmpF op' [y, z] h4)
    | .bl false => .ok (.bl false) h3
    | _ => .stuck
  | .and a b, l, h => (evE C a l h).bind fun x h1 => match truthF h1 x with
    | some true => evE C b l h1
    | some false => .ok x h1
    | none => .stuck
  | .or a b, l, h => (evE C a l h).bind fun x h1 => match truthF h1 x with
    | some true => .ok x h1
    | some false => evE C b l h1
    | none => .stuck
  | .ite c a b, l, h => (truthR (evE C c l h)).bind fun k h1 => match k with
    | true => evE C a l h1
    | false => evE C b l h1
  | .tup es, l, h => (evA C es l h).bind fun ds h1 => if ds.length ≤ sizeLine then .ok (.tup ds) h1 else .stuck
  | .lst es, l, h => (evA C es l h).bind fun ds h1 => if ds.length ≤ sizeLine then liftP (some (newO (.lst ds) h1)) else .stuck
  | .call f es, l, h => (evA C es l h).bind fun ds h1 => C.call f ds h1
  | .make c f es, l, h => (evA C es l h).bind fun ds h1 => makeF C.call c f ds h1
  | .blt b es, l, h => (evA C es l h).bind fun ds h1 => liftP (bltF b ds h1)
  | .meth m o es, l, h => (evE C o l h).bind fun x h1 => match rcvOk m x h1 with
    | true => (evA C es l h1).bind fun ds h2 => liftP (methF m (x :: ds) h2)
    | false => .stuck
  | .sub o i, l, h => ev2 (evE C o) (evE C i) subF l h
  | .slc o lo hi, l, h => (evE C o l h).bind fun x h1 => (evOp C lo l h1).bind fun a h2 => (evOp C hi l h2).bind fun b h3 => liftP (slcF x a b h3)
  | .attr o f, l, h => ev1 (evE C o) (attrF C.ct f) l h
  | .lc elt tg it ifs own, l, h => (evI C it l h).bind fun src h1 =>
      (lcLoop tg src (evT1 C ifs) (evE C elt) (wipeP l own) (srcLen h1 src + 1) 0 [] h1).bind fun ds h2 => liftP (some (newO (.lst ds) h2))
  | .dic0, l, h => liftP (some (newO (.dic []) h))
def evA (C : Orc) : Exs → Loc → PHeap → R (List PV)
  | .nil, _, h => .ok [] h
  | .cons e es, l, h => evCons (evE C e) (evA C es) l h
  | .star e es, l, h => (evE C e l h).bind fun x h1 => match seqOf h1 x with
    | some ds => (evA C es l h1).bind fun xs h2 => .ok (ds ++ xs) h2
    | none => .stuck
def evOp (C : Orc) : Op → Loc → PHeap → R (Option Int)
  | .no, _, h => .ok none h
  | .yes e, l, h => optI (evE C e l h)
def evI (C : Orc) : Itr → Loc → PHeap → R Src
  | .val e, l, h => (evE C e l h).bind fun d h1 => srcR (srcOf h1 d) h1
  | .rng1 e, l, h => (evE C e l h).bind fun d h1 => match d with
    | .int j => srcR (rngOf 0 j) h1
    | _ => .stuck
  | .rng2 a b, l, h => (evE C a l h).bind fun d h1 => (evE C b l h1).bind fun e h2 => match d, e with
    | .int i, .int j => srcR (rngOf i j) h2
    | _, _ => .stuck
  | .enm e, l, h => .stuck
  | .zp a b, l, h => .stuck
/-- the if of a comprehension -/
def evT1 (C : Orc) : Op → Loc → PHeap → R Bool
  | .no, _, h => .ok true h
  | .yes e, l, h => truthR (evE C e l h)
end
def putF (o i v : PV) (h : PHeap) : Option PHeap :=
  match o with
  | .ref r => match h[r]? with
    | some (.lst ds) => match i with
      | .int k => (ixN ds.length k).map fun j => h.set r (.lst (ds.set j v))
      | _ => none
    | some (.dic kvs) => (dPutF kvs i v).map fun kvs' => h.set r (.dic kvs')
    | _ => none
  | _ => none
mutual
def exS (C : Orc) : Sx → Loc → PHeap → RS
  | .ex e, l, h => (evE C e l h).toS l fun _ h1 => .nx l h1
  | .asg t e, l, h => (evE C e l h).toS l fun d h1 => match bindT t d l with
    | some l1 => .nx l1 h1
    | none => .stuck
  | .put o i e, l, h => (evE C e l h).toS l fun v h1 => (evE C o l h1).toS l fun x h2 => (evE C i l h2).toS l fun y h3 => match putF x y v h3 with
    | some h4 => .nx l h4
    | none => .stuck
  | .fld o f e, l, h => (evE C e l h).toS l fun v h1 => (evE C o l h1).toS l fun x h2 => match fldF C.ct x f v h2 with
    | some h3 => .nx l h3
    | none => .stuck
  | .ret e, l, h => (evE C e l h).toS l fun d h1 => .rt d h1
  | .ret0, l, h => .rt .non h
  | .iff c a b, l, h => (truthR (evE C c l h)).toS l fun k h1 => match k with
    | true => exSs C a l h1
    | false => exSs C b l h1
  | .for_ t it b, l, h => (evI C it l h).toS l fun src h1 => forLoop t src (exSs C b) (srcLen h1 src + 1) 0 l h1
  | .whl c b, l, h => whlLoop (fun l h => truthR (evE C c l h)) (exSs C b) 1000000 l h
  | .pass, l, h => .nx l h
  | .brk, l, h => .bk l h
  | .cnt, l, h => .ct l h
  | .rai c es, l, h => .stuck
def exSs (C : Orc) : Sxs → Loc → PHeap → RS
  | .nil, l, h => .nx l h
  | .cons s r, l, h => match exS C s l h with
    | .nx l1 h1 => exSs C r l1 h1
    | x => x
end
/-- a def: how many parameters, how many slots, the body -/
structure Fd where
  np : Nat
  n : Nat
  body : Sxs
def runFn (fd : Fd) (C : Orc) (ds : List PV) (h : PHeap) : R PV :=
  if ds.length = fd.np then
    match exSs C fd.body (ds.map some ++ List.replicate (fd.n - fd.np) none) h with
    | .nx _ h1 => .ok .non h1
    | .rt d h1 => .ok d h1
    | .exc c fs _ h1 => .exc c fs h1
    | _ => .stuck
  else .stuck
def callN (ct : Ct) (T : Nat → Option Fd) : Nat → Nat → List PV → PHeap → R PV
  | 0, _, _, _ => .stuck
  | n + 1, f, ds, h => match T f with
    | some fd => runFn fd ⟨callN ct T n, ct⟩ ds h
    | none => .stuck
end Zed
end
section
set_option Elab.async false
set_option linter.all false
set_option maxRecDepth 100000
namespace Zed
open PySem L2
section
variable {G : Gc} {φ φ' : List Addr} {h h' : PHeap} {H H' : Hp} {a p : Addr} {d : PV} {v : V} {ds : List PV} {vs : List V} {l : Loc} {σ : St} {o : PObj} {u : HO} {i : Nat}
theorem paired_map {α β : Type} {F F' : α → β → Prop} {l : List α} {m : List β} (p : Paired F l m) (h : ∀ a b, F a b → F' a b) : Paired F' l m := Paired.mapP p h
theorem repO_imp (rv : ∀ {d : PV} {v : V}, RepV G φ H d v → RepV G φ' H' d v) (rvs : ∀ {ds : List PV} {vs : List V}, RepVs G φ H ds vs → RepVs G φ' H' ds vs) (hx : ∀ b fs, H b = some (.xd fs) → H' b = some (.xd fs)) (ho : ∀ b x, H b = some (.own x) → H' b = some (.own x) ∨ H' b = some (.xd [])) (e : H' a = H a) (ro : RepO G φ H a o) : RepO G φ' H' a o := by
  cases o with
  | lst ds => obtain ⟨vs, e1, q⟩ := ro; exact ⟨vs, e.trans e1, rvs q⟩
  | dic kvs =>
    obtain ⟨z, ⟨ks, e1, q⟩ | ⟨xs, ne, e1, q1, q2, q⟩⟩ := ro
    · exact ⟨z, .inl ⟨ks, e.trans e1, paired_map q fun p k h => ⟨h.1, rv h.2⟩⟩⟩
    · exact ⟨z, .inr ⟨xs, ne, e.trans e1, q1, q2, paired_map q fun p k h => ⟨h.1, h.2.1, rv h.2.2.1, let ⟨v, r1, r2⟩ := h.2.2.2; ⟨v, r1, rv r2⟩⟩⟩⟩
  | set => obtain ⟨xs, ks, e0, e1, q⟩ := ro; exact ⟨xs, ks, e0, e.trans e1, q⟩
  | ins c fs =>
    obtain ⟨C, dx, hC, ⟨z, ws, e1, ql, q, q2⟩ | ⟨z, vs, hs, hw, q⟩⟩ := ro
    · exact ⟨C, dx, hC, .inl ⟨z, ws, e.trans e1, ql, fun f d hf => let ⟨a0, v, a1, a2⟩ := q f d hf; ⟨a0, v, a1, rv a2⟩, q2⟩⟩
    · refine ⟨C, dx, hC, .inr ⟨z, vs, ?_, ⟨hw.1, hw.2.elim (fun q => ho _ _ q) (fun q => .inr (hx _ _ q))⟩, fun f d hf => let ⟨i, v, a1, a2, a3⟩ := q f d hf; ⟨i, v, a1, a2, rv a3⟩⟩⟩
      rcases hs with ⟨h1, h2⟩ | ⟨h1, h2⟩
      · exact .inl ⟨e.trans h1, h2⟩
      · exact .inr ⟨e.trans h1, hx _ _ h2⟩
theorem repO_ext (r : RelH G φ h H) (x : Ext φ H φ' H') (e : H' a = H a) (ro : RepO G φ H a o) : RepO G φ' H' a o :=
  repO_imp (repV_ext r x) (repVs_ext r x) (fun b fs q => x.keep _ _ q (r.notXd q) fun _ q => (nomatch q)) (fun b y q => x.own _ _ q (r.notOwn q)) e ro
theorem ext_alloc (r : RelH G φ h H) (hp : H p = none) : Ext φ H (φ ++ [p]) (upd H p u) := .of (List.prefix_append _ _)
  (fun b hb nb => by
    rcases List.mem_append.mp hb with z | z
    · exact absurd z nb
    · rw [List.mem_singleton.mp z]; exact hp)
  (fun b o e _ => by rw [upd_ne (ne_of_none e hp)]; exact e)
theorem RelH.alloc (r : RelH G φ h H) (hp : H p = none) (ro : RepO G (φ ++ [p]) (upd H p u) p o) : RelH G (φ ++ [p]) (h ++ [o]) (upd H p u) where
  len := by simp [r.len]
  nd := by
    refine List.nodup_append.mpr ⟨r.nd, by simp, fun b hb c hc => ?_⟩
    rw [List.mem_singleton.mp hc]
    intro e
    rw [e] at hb
    exact r.free hp hb
  obj := fun j o' b e1 e2 => by
    have hl := r.len
    by_cases hj : j < h.length
    · rw [List.getElem?_append_left hj] at e1
      rw [List.getElem?_append_left (by omega)] at e2
      have nb : b ≠ p := fun z => r.free hp (by rw [← z]; exact List.mem_of_getElem? e2)
      exact repO_ext r (ext_alloc r hp) (upd_ne nb) (r.obj j o' b e1 e2)
    · rw [List.getElem?_append_right (by omega)] at e1 e2
      have z1 : j - h.length = 0 := by
        have := (List.getElem?_eq_some_iff.mp e1).1
        simp at this; omega
      have z2 : j - φ.length = 0 := by omega
      rw [z1] at e1; rw [z2] at e2
      simp at e1 e2
      subst e1; subst e2
      exact ro
theorem ext_put (hi : φ[i]? = some a) : Ext φ H φ (upd H a u) := .of (List.prefix_refl _)
  (fun b hb nb => absurd hb nb)
  (fun b o e nb => by
    have n : b ≠ a := fun z => nb (by rw [z]; exact List.mem_of_getElem? hi)
    rw [upd_ne n]; exact e)
theorem nodup_get {xs : List Addr} (nd : xs.Nodup) {i j : Nat} {a : Addr} (h1 : xs[i]? = some a) (h2 : xs[j]? = some a) : i = j := by
  induction xs generalizing i j with
  | nil => simp at h1
  | cons x xs ih =>
    obtain ⟨n1, n2⟩ := List.nodup_cons.mp nd
    cases i with
    | zero =>
      cases j with
      | zero => rfl
      | succ j =>
        simp at h1 h2
        subst h1
        exact absurd (List.mem_of_getElem? h2) n1
    | succ i =>
      cases j with
      | zero =>
        simp at h1 h2
        subst h2
        exact absurd (List.mem_of_getElem? h1) n1
      | succ j => exact congrArg (· + 1) (ih n2 (i := i) (j := j) (by simpa using h1) (by simpa using h2))
theorem RelH.put (r : RelH G φ h H) (hi : φ[i]? = some a) (ro : RepO G φ (upd H a u) a o) : RelH G φ (h.set i o) (upd H a u) where
  len := by simp [r.len]
  nd := r.nd
  obj := fun j o' b e1 e2 => by
    by_cases hj : j = i
    · subst hj
      rw [hi] at e2; cases e2
      have hl : j < h.length := by
        have := (List.getElem?_eq_some_iff.mp e1).1
        simpa using this
      rw [List.getElem?_set_self hl] at e1
      cases e1
      exact ro
    · rw [List.getElem?_set_ne (Ne.symm hj)] at e1
      have nb : b ≠ a := fun (z : b = a) => by
        subst z
        exact hj (nodup_get r.nd e2 hi)
      exact repO_ext r (ext_put hi) (upd_ne nb) (r.obj j o' b e1 e2)
theorem ext_tup (hp : H p = none) : Ext φ H φ (upd H p u) := .of (List.prefix_refl _)
  (fun b hb nb => absurd hb nb)
  (fun b o e _ => by rw [upd_ne (ne_of_none e hp)]; exact e)
theorem RelH.tup (r : RelH G φ h H) (hp : H p = none) : RelH G φ h (upd H p u) where
  len := r.len
  nd := r.nd
  obj := fun j o' b e1 e2 => by
    have nb : b ≠ p := fun z => r.free hp (by rw [← z]; exact List.mem_of_getElem? e2)
    exact repO_ext r (ext_tup hp) (upd_ne nb) (r.obj j o' b e1 e2)
/-- a new list -/
theorem new_lst {Q : VK} (r : RelH G φ h H) (rv : RepVs G φ H ds vs) (q : ∀ φ' H' v, Ext φ H φ' H' → RelH G φ' (h ++ [PObj.lst ds]) H' → RepV G φ' H' (.ref h.length) v → Q v H') :
    ∀ p, H p = none → Q (.ref p) (upd H p (.lst vs)) := fun p hp => by
  have x := ext_alloc (u := HO.lst vs) r hp
  refine q (φ ++ [p]) _ _ x (r.alloc hp ⟨vs, upd_same, repVs_ext r x rv⟩) (.ref ?_)
  rw [← r.len, List.getElem?_append_right (Nat.le_refl _)]; simp
theorem new_tup {Q : VK} (r : RelH G φ h H) (rv : RepVs G φ H ds vs) (q : ∀ φ' H' v, Ext φ H φ' H' → RelH G φ' h H' → RepV G φ' H' (.tup ds) v → Q v H') :
    ∀ p, H p = none → Q (.ref p) (upd H p (.tup vs)) := fun p hp => by
  have x := ext_tup (φ := φ) (u := HO.tup vs) hp
  exact q φ _ _ x (r.tup hp) (.tup (SqT.of upd_same) (repVs_ext r x rv))
/-- what seqOf, lstOf tell -/
theorem rep_lst (r : RelH G φ h H) (rv : RepV G φ H d v) (e : lstOf h d = some ds) : ∃ a vs, v = .ref a ∧ SqL G.K H a vs ∧ RepVs G φ H ds vs := by
  cases rv with
  | fl s q => simp only [lstOf] at e; cases e; exact ⟨_, _, rfl, s.sq, q⟩
  | ref hi =>
    rename_i i a
    simp only [lstOf] at e
    split at e
    · rename_i xs hx
      cases e
      obtain ⟨vs, e1, q⟩ := r.obj i _ a hx hi
      exact ⟨a, vs, rfl, SqL.of e1, q⟩
    · cases e
  | _ => simp only [lstOf] at e; cases e
theorem rep_seq (r : RelH G φ h H) (rv : RepV G φ H d v) (e : seqOf h d = some ds) : ∃ a vs, v = .ref a ∧ (SqL G.K H a vs ∨ SqT G.K H a vs) ∧ RepVs G φ H ds vs := by
  cases rv with
  | tup s q => simp only [seqOf] at e; cases e; exact ⟨_, _, rfl, .inr s, q⟩
  | fl s q => simp only [seqOf] at e; cases e; exact ⟨_, _, rfl, .inl s.sq, q⟩
  | ref hi =>
    rename_i i a
    simp only [seqOf] at e
    split at e
    · rename_i xs hx
      cases e
      obtain ⟨vs, e1, q⟩ := r.obj i _ a hx hi
      exact ⟨a, vs, rfl, .inl (SqL.of e1), q⟩
    · cases e
  | _ => simp only [seqOf] at e; cases e
/-- data -/
theorem mapO_cons {α β : Type} {f : α → Option β} {a : α} {r : List α} {bs : List β} (e : mapO f (a :: r) = some bs) : ∃ b bs', f a = some b ∧ mapO f r = some bs' ∧ bs = b :: bs' := by
  simp only [mapO] at e
  split at e
  · rename_i b bs' h1 h2; cases e; exact ⟨b, bs', h1, h2, rfl⟩
  · cases e
theorem rep_all (f : PV → Option PyData) (P : ∀ {d : PV} {v : V} {x : PyData}, RepV G φ H d v → f d = some x → Dp G.K H v x) : ∀ {ds : List PV} {vs : List V} {xs : List PyData}, RepVs G φ H ds vs → mapO f ds = some xs → DpAll G.K H vs xs
  | _, _, xs, .nil, e => by simp only [mapO] at e; cases e; exact .nil
  | _, _, xs, .cons r rs, e => by
    obtain ⟨b, bs, e1, e2, rfl⟩ := mapO_cons e
    exact .cons (P r e1) (rep_all f P rs e2)
theorem rep_data (r : RelH G φ h H) : ∀ (n : Nat) {d : PV} {v : V} {x : PyData}, RepV G φ H d v → toD h n d = some x → Dp G.K H v x
  | n, .non, _, _, .non, e => by unfold toD at e; cases e; exact .non
  | n, .bl b, _, _, .bl _, e => by unfold toD at e; cases e; exact .bl b
  | n, .int b, _, _, .int _, e => by unfold toD at e; cases e; exact .int b
  | n, .str b, _, _, .str _, e => by unfold toD at e; cases e; exact .str b
  | n, .ty _, _, _, _, e => by cases n <;> (unfold toD at e; cases e)
  | n, .gl _, _, _, _, e => by cases n <;> (unfold toD at e; cases e)
  | 0, .tup _, _, _, _, e => by unfold toD at e; cases e
  | 0, .fl _, _, _, _, e => by unfold toD at e; cases e
  | 0, .ref _, _, _, _, e => by unfold toD at e; cases e
  | n + 1, .tup ds, _, _, .tup s q, e => by
    unfold toD at e
    cases e1 : mapO (toD h n) ds with
    | none => rw [e1] at e; cases e
    | some xs => rw [e1] at e; cases e; exact .tup s (rep_all _ (rep_data r n) q e1)
  | n + 1, .fl ds, _, _, .fl s q, e => by
    unfold toD at e
    cases e1 : mapO (toD h n) ds with
    | none => rw [e1] at e; cases e
    | some xs => rw [e1] at e; cases e; exact .lst s.sq (rep_all _ (rep_data r n) q e1)
  | n + 1, .ref i, _, _, .ref hi, e => by
    unfold toD at e
    split at e
    · rename_i ds hx
      obtain ⟨vs, e0, q⟩ := r.obj i _ _ hx hi
      cases e1 : mapO (toD h n) ds with
      | none => rw [e1] at e; cases e
      | some xs => rw [e1] at e; cases e; exact .lst (SqL.of e0) (rep_all _ (rep_data r n) q e1)
    · cases e
end
end Zed
end
section
set_option Elab.async false
set_option linter.all false
set_option maxRecDepth 100000
namespace Zed
open PySem L2
section
variable {X : Cx} {G : Gc} {φ φ' : List Addr} {h h' : PHeap} {H H' : Hp} {a p : Addr} {d : PV} {v : V} {ds : List PV} {vs : List V} {l : Loc} {σ : St} {o : PObj} {u : HO} {i : Nat}
theorem log2_big {i : Int} (h : i.natAbs < big) : i.natAbs.log2 < 9000 := by
  unfold big at h
  by_cases z : i.natAbs = 0
  · rw [z]; decide
  · exact (Nat.log2_lt z).mpr h
/-- from a reading to a rule of two -/
theorem opr_of {f : Value → Value → Sem Value} {F : Pf}
    (k : ∀ (pins : List (Addr × Obj)) (s : Shared) (σ : St) (H : Hp) (x y : V) (v u : Value) (Q : VK) (φ : List Addr) (h : PHeap) (d e : PV) (z : PV) (h' : PHeap), Inv X pins σ H s → RelV x v → RelV y u → RelH G φ h H → RepV G φ H d x → RepV G φ H e y →
      F [d, e] h = some (z, h') → (∀ φ' H' v, Ext φ H φ' H' → RelH G φ' h' H' → RepV G φ' H' z v → Q v H') → wpAny (model X.prog X.w) X.A (f v u) (EP X pins σ Q) X.xe s) : OpR X f (r2 G F) := by
  intro pins s σ H x y v u Q I rx ry q
  obtain ⟨φ, h, ds, z, h', rh, rv, e, q⟩ := q
  cases rv with
  | cons r1 rv =>
    cases rv with
    | cons r2 rv =>
      cases rv
      exact k pins s σ H x y v u Q φ h _ _ z h' I rx ry rh r1 r2 e q
theorem some2 {α β : Type} {a c : α} {b d : β} (e : some (a, b) = some (c, d)) : a = c ∧ b = d := by cases e; exact ⟨rfl, rfl⟩
theorem rep_lstR (r : RelH G φ h H) (rv : RepV G φ H d v) (e : lstR h d = some ds) : ∃ a vs i, d = .ref i ∧ φ[i]? = some a ∧ v = .ref a ∧ H a = some (.lst vs) ∧ RepVs G φ H ds vs ∧ h[i]? = some (.lst ds) := by
  unfold lstR at e
  split at e
  · cases rv with
    | ref hi =>
      rename_i i a
      split at e
      · rename_i xs hx
        cases e
        obtain ⟨vs, e1, q⟩ := r.obj i _ a hx hi
        exact ⟨a, vs, i, rfl, hi, rfl, e1, q, hx⟩
      · cases e
  · cases e
theorem op_addZ (hK : G.K = X.K) : OpR X (binaryOp .Add) (r2 G (bopF .add)) := by
  refine opr_of fun pins s σ H x y v u Q φ h d e z h' I rx ry rh r1 r2 ef q => ?_
  simp only [bopF] at ef
  unfold addF at ef
  split at ef
  · obtain ⟨rfl, rfl⟩ := some2 ef
    cases r1; cases r2
    exact op_add pins s σ H _ _ v u Q I rx ry ⟨_, _, rfl, rfl, q φ H _ .refl rh (.int _)⟩
  · split at ef
    · rename_i hz
      obtain ⟨rfl, rfl⟩ := some2 ef
      cases r1; cases r2
      exact op_add_str pins s σ H _ _ v u Q I rx ry ⟨_, _, rfl, rfl, hz, q φ H _ .refl rh (.str _)⟩
    · cases ef
  · split at ef
    · rename_i xs ys hz
      obtain ⟨rfl, rfl⟩ := some2 ef
      cases r1 with
      | tup s1 q1 =>
        cases r2 with
        | tup s2 q2 =>
          have l1 := q1.length
          have l2 := q2.length
          refine op_catA pins s σ H _ _ v u Q I rx ry ⟨_, _, _, _, rfl, rfl, hK ▸ s1, hK ▸ s2, by omega, fun e => ?_, fun _ e => ?_, fun _ _ => new_tup rh (q1.append q2) q⟩
          · have z : xs = [] := by apply List.eq_nil_of_length_eq_zero; rw [l1, e]; rfl
            subst z
            exact q φ H _ .refl rh (.tup s2 q2)
          · have z : ys = [] := by apply List.eq_nil_of_length_eq_zero; rw [l2, e]; rfl
            subst z
            rw [List.append_nil] at q
            exact q φ H _ .refl rh (.tup s1 q1)
    · cases ef
  · split at ef
    · rename_i xs ys e1 e2
      split at ef
      · rename_i hz
        obtain ⟨rfl, rfl⟩ := some2 ef
        obtain ⟨a, as, i, rfl, _, rfl, sa, qa, _⟩ := rep_lstR rh r1 e1
        obtain ⟨b, bs, j, rfl, _, rfl, sb, qb, _⟩ := rep_lstR rh r2 e2
        have l1 := qa.length
        have l2 := qb.length
        exact op_cat pins s σ H _ _ v u Q I rx ry ⟨_, _, _, _, rfl, rfl, sa, sb, by omega, new_lst rh (qa.append qb) q⟩
      · cases ef
    · cases ef
theorem RepVs.rep {xs : List PV} (q : RepVs G φ H ds vs) : ∀ n, RepVs G φ H (List.replicate n ds).flatten (List.replicate n vs).flatten
  | 0 => .nil
  | n + 1 => by
    rw [List.replicate_succ, List.replicate_succ, List.flatten_cons, List.flatten_cons]
    exact q.append (RepVs.rep (xs := xs) q n)
theorem op_mulZ (hK : G.K = X.K) : OpR X (binaryOp .Mult) (r2 G (bopF .mul)) := by
  refine opr_of fun pins s σ H x y v u Q φ h d e z h' I rx ry rh r1 r2 ef q => ?_
  simp only [bopF] at ef
  unfold mulF at ef
  split at ef
  · split at ef
    · rename_i hz
      obtain ⟨rfl, rfl⟩ := some2 ef
      cases r1; cases r2
      refine op_mulW pins s σ H _ _ v u Q I rx ry ⟨_, _, rfl, rfl, ?_, q φ H _ .refl rh (.int _)⟩
      have := log2_big hz.1
      have := log2_big hz.2
      show _ + _ < _
      omega
    · cases ef
  · split at ef
    · rename_i hz
      obtain ⟨rfl, rfl⟩ := some2 ef
      cases r1 with
      | tup s1 q1 =>
        cases r2
        have l1 := q1.length
        refine op_repT pins s σ H _ _ v u Q I rx ry ⟨_, _, _, rfl, rfl, hK ▸ s1, fun e => ?_, hz.2.1, hz.2.2.1, by omega, new_tup rh (RepVs.rep (xs := []) q1 _) q⟩
        rw [e] at l1
        exact hz.1 (List.eq_nil_of_length_eq_zero l1)
    · cases ef
  · split at ef
    · rename_i xs e1
      split at ef
      · rename_i hz
        obtain ⟨rfl, rfl⟩ := some2 ef
        obtain ⟨a, as, i, rfl, _, rfl, sa, qa, _⟩ := rep_lstR rh r1 e1
        cases r2
        have l1 := qa.length
        refine op_rep pins s σ H _ _ v u Q I rx ry ⟨_, _, _, rfl, rfl, sa, hz.1, hz.2.1, by rw [← l1]; exact hz.2.2, new_lst rh (RepVs.rep (xs := []) qa _) q⟩
      · cases ef
    · cases ef
  · cases ef
theorem op_powW : OpR X (binaryOp .Pow) (rI (fun i j => 0 ≤ j ∧ j ≤ 1000 ∧ i.natAbs < 2 ^ 300) fun i j => .int (i ^ j.toNat)) := opI fun i j _ _ _ _ _ hc q => by
  refine PyProof.Rows.pow_int hc.1 ?_ q
  have hb := PyProof.Rows.intBits_le hc.2.2
  have h1 : (Builtin.Int.intBits i : Int) * j ≤ 300 * j := Int.mul_le_mul_of_nonneg_right (by omega) hc.1
  have := hc.2.1
  omega
theorem op_arZ {op : Bop} {bo : Operator} {C : Int → Int → Prop} {g : Int → Int → Int} (o : OpR X (binaryOp bo) (rI C fun i j => .int (g i j))) (hop : ∀ x y h, bopF op [x, y] h = match x, y with | .int i, .int j => (arI op i j).map fun k => (.int k, h) | _, _ => none)
    (har : ∀ i j k, arI op i j = some k → C i j ∧ k = g i j) : OpR X (binaryOp bo) (r2 G (bopF op)) := by
  refine opr_of fun pins s σ H x y v u Q φ h d e z h' I rx ry rh r1 r2 ef q => ?_
  rw [hop] at ef
  split at ef
  · rename_i i j
    cases e1 : arI op i j with
    | none => rw [e1] at ef; cases ef
    | some k =>
      rw [e1] at ef
      obtain ⟨rfl, rfl⟩ := some2 ef
      obtain ⟨c, rfl⟩ := har i j k e1
      cases r1; cases r2
      exact o pins s σ H _ _ v u Q I rx ry ⟨_, _, rfl, rfl, c, q φ H _ .refl rh (.int _)⟩
  · cases ef
theorem op_subZ : OpR X (binaryOp .Sub) (r2 G (bopF .sub)) := op_arZ (C := fun _ _ => True) (g := fun i j => i - j) (fun pins s σ H x y v u Q I rx ry ⟨i, j, e1, e2, _, q⟩ => op_sub pins s σ H x y v u Q I rx ry ⟨i, j, e1, e2, q⟩) (fun _ _ _ => rfl) fun i j k e => by
  simp only [arI] at e; cases e; exact ⟨trivial, rfl⟩
theorem op_fdivZ : OpR X (binaryOp .FloorDiv) (r2 G (bopF .fdiv)) := op_arZ (g := fun i j => i / j) op_fdivW (fun _ _ _ => rfl) fun i j k e => by
  simp only [arI] at e
  split at e
  · rename_i hz; cases e; exact ⟨⟨hz.1, log2_big hz.2⟩, rfl⟩
  · cases e
theorem op_modZ : OpR X (binaryOp .Mod) (r2 G (bopF .mod)) := op_arZ (g := fun i j => i % j) op_mod (fun _ _ _ => rfl) fun i j k e => by
  simp only [arI] at e
  split at e
  · rename_i hz; cases e; exact ⟨hz, rfl⟩
  · cases e
theorem op_powZ : OpR X (binaryOp .Pow) (r2 G (bopF .pow)) := op_arZ (g := fun i j => i ^ j.toNat) op_powW (fun _ _ _ => rfl) fun i j k e => by
  simp only [arI] at e
  split at e
  · rename_i hz; cases e; exact ⟨hz, rfl⟩
  · cases e
/-! ### comparisons -/
theorem cmp_of {co : CmpOp} {op : Cop}
    (k : ∀ (pins : List (Addr × Obj)) (s : Shared) (σ : St) (H : Hp) (x y : V) (v u : Value) (Q : VK) (φ : List Addr) (h : PHeap) (d e : PV) (b : Bool), Inv X pins σ H s → RelV x v → RelV y u → RelH G φ h H → RepV G φ H d x → RepV G φ H e y →
      cmpB op h d e = some b → Q (.bl b) H → wpAny (model X.prog X.w) X.A (compareOp co v u) (EP X pins σ Q) X.xe s) : OpR X (compareOp co) (r2 G (cmpF op)) := by
  refine opr_of fun pins s σ H x y v u Q φ h d e z h' I rx ry rh r1 r2 ef q => ?_
  simp only [cmpF] at ef
  cases e1 : cmpB op h d e with
  | none => rw [e1] at ef; cases ef
  | some b =>
    rw [e1] at ef
    obtain ⟨rfl, rfl⟩ := some2 ef
    exact k pins s σ H x y v u Q φ h d e b I rx ry rh r1 r2 e1 (q φ H _ .refl rh (.bl _))
theorem eq_data (rh : RelH G φ h H) {x y : V} {d e : PV} {b : Bool} (r1 : RepV G φ H d x) (r2 : RepV G φ H e y) (e1 : eqF h d e = some b) : ∃ p q, Dp G.K H x p ∧ Dp G.K H y q ∧ SeqAt.shaped p = true ∧ SeqAt.shaped q = true ∧ b = PyData.eqv p q := by
  unfold eqF at e1
  split at e1
  · rename_i p q h1 h2
    split at e1
    · rename_i hz
      cases e1
      exact ⟨p, q, rep_data rh _ r1 h1, rep_data rh _ r2 h2, hz.1, hz.2, rfl⟩
    · cases e1
  · cases e1
theorem op_eqZ (hK : G.K = X.K) (hu : X.A.units + 64 < cLine) : OpR X (compareOp .Eq) (r2 G (cmpF .eq)) := by
  refine cmp_of fun pins s σ H x y v u Q φ h d e b I rx ry rh r1 r2 e1 q => ?_
  obtain ⟨p, p', d1, d2, s1, s2, rfl⟩ := eq_data rh r1 r2 e1
  exact op_eqD hu pins s σ H x y v u Q I rx ry ⟨p, p', hK ▸ d1, hK ▸ d2, s1, s2, q⟩
theorem map_not {o : Option Bool} {b : Bool} (e : o.map (!·) = some b) : o = some !b := by
  cases o with
  | none => cases e
  | some c => cases e; simp
theorem op_neZ (hK : G.K = X.K) (hu : X.A.units + 64 < cLine) : OpR X (compareOp .NotEq) (r2 G (cmpF .ne)) := by
  refine cmp_of fun pins s σ H x y v u Q φ h d e b I rx ry rh r1 r2 e1 q => ?_
  obtain ⟨p, p', d1, d2, s1, s2, e2⟩ := eq_data rh r1 r2 (map_not e1)
  refine op_neD hu pins s σ H x y v u Q I rx ry ⟨p, p', hK ▸ d1, hK ▸ d2, s1, s2, ?_⟩
  rw [← e2]; simpa using q
theorem flat_eq {x : V} {d : PV} (r : RepV G φ H d x) (f : flatP d = true) : flatV x = true ∧ ∀ {e : PV} {y : V}, RepV G φ H e y → flatP e = true → eqV y x = eqP e d := by
  cases r <;> simp only [flatP] at f <;> first | (cases f; done) | skip
  all_goals refine ⟨rfl, fun {e y} r2 f2 => ?_⟩
  all_goals (cases r2 <;> simp only [flatP] at f2 <;> first | (cases f2; done) | rfl)
theorem flat_all {x : V} {d : PV} (r : RepV G φ H d x) (f : flatP d = true) : ∀ {es : List PV} {ys : List V}, RepVs G φ H es ys → es.all flatP = true → ys.all flatV = true ∧ inV x ys = inP d es
  | _, _, .nil, _ => ⟨rfl, rfl⟩
  | _, _, .cons a b, g => by
    rw [List.all_cons, Bool.and_eq_true] at g
    obtain ⟨i1, i2⟩ := flat_all r f b g.2
    refine ⟨by rw [List.all_cons, (flat_eq a g.1).1, i1]; rfl, ?_⟩
    show (eqV _ x || inV x _) = (eqP _ d || inP d _)
    rw [i2, (flat_eq r f).2 a g.1]
theorem in_data (rh : RelH G φ h H) {x y : V} {d e : PV} {b : Bool} (r1 : RepV G φ H d x) (r2 : RepV G φ H e y) (e1 : inF h d e = some b) : ∃ p xs, y = V.ref p ∧ (SqL G.K H p xs ∨ SqT G.K H p xs) ∧ flatV x = true ∧ xs.all flatV = true ∧ inV x xs = b := by
  unfold inF at e1
  split at e1
  · rename_i ds h1
    split at e1
    · rename_i hz
      cases e1
      obtain ⟨p, vs, rfl, sq, rv⟩ := rep_seq rh r2 h1
      obtain ⟨i1, i2⟩ := flat_all r1 hz.1 rv hz.2
      exact ⟨p, vs, rfl, sq, (flat_eq r1 hz.1).1, i1, i2⟩
    · cases e1
  · cases e1
theorem op_inZ (hK : G.K = X.K) : OpR X (compareOp .In) (r2 G (cmpF .isin)) := by
  refine cmp_of fun pins s σ H x y v u Q φ h d e b I rx ry rh r1 r2 e1 q => ?_
  obtain ⟨p, xs, rfl, sq, f1, f2, e2⟩ := in_data rh r1 r2 e1
  refine op_in_seq pins s σ H x _ v u Q I rx ry ⟨p, xs, rfl, hK ▸ sq, f1, f2, ?_⟩
  rw [e2]; exact q
theorem op_notinZ (hK : G.K = X.K) : OpR X (compareOp .NotIn) (r2 G (cmpF .notin)) := by
  refine cmp_of fun pins s σ H x y v u Q φ h d e b I rx ry rh r1 r2 e1 q => ?_
  obtain ⟨p, xs, rfl, sq, f1, f2, e2⟩ := in_data rh r1 r2 (map_not e1)
  refine op_notIn_seq pins s σ H x _ v u Q I rx ry ⟨p, xs, rfl, hK ▸ sq, f1, f2, ?_⟩
  rw [e2]; simpa using q
theorem is_data {x y : V} {d e : PV} {b : Bool} (r1 : RepV G φ H d x) (r2 : RepV G φ H e y) (e1 : isF d e = some b) : (∃ a c, x = .bl a ∧ y = .bl c ∧ b = decide (a = c)) ∨ (y = .non ∧ b = decide (x = .non)) := by
  unfold isF at e1
  split at e1
  · cases e1; cases r1; cases r2; exact .inl ⟨_, _, rfl, rfl, rfl⟩
  · cases e1; cases r1; cases r2; exact .inr ⟨rfl, rfl⟩
  · cases e1; cases r2; refine .inr ⟨rfl, ?_⟩
    cases r1 <;> first | rfl | (rename_i n _; exact absurd rfl (n rfl)) | (exfalso; simp_all)
  · cases e1
theorem op_isZ : OpR X (compareOp .Is) (r2 G (cmpF .is)) := by
  refine cmp_of fun pins s σ H x y v u Q φ h d e b I rx ry rh r1 r2 e1 q => ?_
  rcases is_data r1 r2 e1 with ⟨a, c, rfl, rfl, rfl⟩ | ⟨rfl, rfl⟩
  · exact op_is_bl pins s σ H _ _ v u Q I rx ry ⟨a, c, rfl, rfl, q⟩
  · exact op_isN pins s σ H _ _ v u Q I rx ry ⟨rfl, q⟩
theorem op_isnotZ : OpR X (compareOp .IsNot) (r2 G (cmpF .isnot)) := by
  refine cmp_of fun pins s σ H x y v u Q φ h d e b I rx ry rh r1 r2 e1 q => ?_
  rcases is_data r1 r2 (map_not e1) with ⟨a, c, rfl, rfl, e⟩ | ⟨rfl, e⟩
  · refine op_isnot_bl pins s σ H _ _ v u Q I rx ry ⟨a, c, rfl, rfl, ?_⟩
    rw [← e]; simpa using q
  · refine op_notN pins s σ H _ _ v u Q I rx ry ⟨rfl, ?_⟩
    rw [← e]; simpa using q
theorem op_ltZ : OpR X (compareOp .Lt) (r2 G (cmpF .lt)) := by
  refine cmp_of fun pins s σ H x y v u Q φ h d e b I rx ry rh r1 r2 e1 q => ?_
  simp only [cmpB] at e1
  unfold ordF at e1
  split at e1 <;> first | (exfalso; simp_all; done) | skip
  · cases e1; cases r1; cases r2; exact op_lt pins s σ H _ _ v u Q I rx ry ⟨_, _, rfl, rfl, q⟩
  · cases e1; cases r1; cases r2; exact op_lt_str pins s σ H _ _ v u Q I rx ry ⟨_, _, rfl, rfl, q⟩
theorem op_leZ : OpR X (compareOp .LtE) (r2 G (cmpF .le)) := by
  refine cmp_of fun pins s σ H x y v u Q φ h d e b I rx ry rh r1 r2 e1 q => ?_
  simp only [cmpB] at e1
  unfold ordF at e1
  split at e1 <;> first | (exfalso; simp_all; done) | skip
  · cases e1; cases r1; cases r2; exact op_le pins s σ H _ _ v u Q I rx ry ⟨_, _, rfl, rfl, q⟩
  · cases e1; cases r1; cases r2; exact op_le_str pins s σ H _ _ v u Q I rx ry ⟨_, _, rfl, rfl, q⟩
theorem op_gtZ : OpR X (compareOp .Gt) (r2 G (cmpF .gt)) := by
  refine cmp_of fun pins s σ H x y v u Q φ h d e b I rx ry rh r1 r2 e1 q => ?_
  simp only [cmpB] at e1
  unfold ordF at e1
  split at e1 <;> first | (exfalso; simp_all; done) | skip
  · cases e1; cases r1; cases r2; exact op_gt pins s σ H _ _ v u Q I rx ry ⟨_, _, rfl, rfl, q⟩
theorem op_geZ : OpR X (compareOp .GtE) (r2 G (cmpF .ge)) := by
  refine cmp_of fun pins s σ H x y v u Q φ h d e b I rx ry rh r1 r2 e1 q => ?_
  simp only [cmpB] at e1
  unfold ordF at e1
  split at e1 <;> first | (exfalso; simp_all; done) | skip
  · cases e1; cases r1; cases r2; exact op_ge pins s σ H _ _ v u Q I rx ry ⟨_, _, rfl, rfl, q⟩
end
end Zed
end
section
set_option Elab.async false
set_option linter.all false
set_option maxRecDepth 100000
namespace Zed
open PySem L2
section
variable {X : Cx} {G : Gc} {φ φ' : List Addr} {h h' : PHeap} {H H' : Hp} {a p : Addr} {d : PV} {v : V} {pins : List (Addr × Obj)} {s : Shared} {σ : St} {kvs : List (PV × PV)}
/-! ### keys -/
theorem nkOfs_cons {d : PV} {ds : List PV} {ks : List NestedKey} (e : nkOfs (d :: ds) = some ks) : ∃ k r, nkOf d = some k ∧ nkOfs ds = some r ∧ ks = k :: r := by
  simp only [nkOfs] at e
  split at e
  · rename_i k r h1 h2; cases e; exact ⟨k, r, h1, h2, rfl⟩
  · cases e
mutual
theorem nk_is (hK : G.K = X.K) (I : Inv X pins σ H s) : ∀ {d : PV} {v : V} {u : Value} {k : NestedKey}, RepV G φ H d v → RelV v u → nkOf d = some k → NestedIs s.heap k u
  | _, _, _, _, .non, r, e => by simp only [nkOf] at e; cases e; cases r; exact .none
  | _, _, _, _, .bl b, r, e => by simp only [nkOf] at e; cases e; cases r; exact .bool rfl
  | _, _, _, _, .int i, r, e => by simp only [nkOf] at e; cases e; obtain ⟨t, rfl⟩ := r; exact .int _ _
  | _, _, _, _, .str x, r, e => by simp only [nkOf] at e; cases e; obtain ⟨t, rfl⟩ := r; exact .text _ _
  | _, _, _, _, .ty n, r, e => by simp only [nkOf] at e; cases e
  | _, _, _, _, .fl _ _, r, e => by simp only [nkOf] at e; cases e
  | _, _, _, _, .ref _, r, e => by simp only [nkOf] at e; cases e
  | _, _, _, _, .gl _, r, e => by simp only [nkOf] at e; cases e
  | _, _, _, _, .tup sq q, r, e => by
    rename_i a vs ds
    simp only [nkOf] at e
    cases e1 : nkOfs ds with
    | none => rw [e1] at e; cases e
    | some ks =>
      rw [e1] at e
      cases e
      cases r
      obtain ⟨its, r1, ⟨o, h1, h2, n, h3⟩, _⟩ := Inv.tuple I (hK ▸ sq)
      exact .tup h1 h2 h3 (by simpa using nks_is hK I q r1 e1)
theorem nks_is (hK : G.K = X.K) (I : Inv X pins σ H s) : ∀ {ds : List PV} {vs : List V} {us : List Value} {ks : List NestedKey}, RepVs G φ H ds vs → Vals vs us → nkOfs ds = some ks → NestedAll s.heap ks us
  | _, _, _, _, .nil, r, e => by simp only [nkOfs] at e; cases e; cases r; exact .nil
  | _, _, _, _, .cons a b, r, e => by
    obtain ⟨k, ks, e1, e2, rfl⟩ := nkOfs_cons e
    cases r with
    | cons r1 r2 => exact .cons (nk_is hK I a r1 e1) (nks_is hK I b r2 e2)
end
theorem nk_flat {d : PV} {k : Key} (e : keyOf d = some k) : nkOf d = some (match k with | .inl i => .num i | .inr x => .text x) := by
  cases d <;> simp only [keyOf] at e <;> first | (cases e; done) | (cases e; rfl)
theorem same_flat {p d : PV} {k q : Key} {nk : NestedKey} (e1 : keyOf p = some q) (e2 : keyOf d = some k) (e3 : nkOf d = some nk) : sameK p nk = decide (q = k) := by
  have n1 := nk_flat e1
  have n2 := nk_flat e2
  rw [e3] at n2
  cases n2
  unfold sameK
  rw [n1]
  cases q <;> cases k <;> simp [NestedKey.beq]
theorem find_flat {k : Key} {nk : NestedKey} {d : PV} (e2 : keyOf d = some k) (e3 : nkOf d = some nk) : ∀ {kvs : List (PV × PV)} {ks : List (Key × V)}, Paired (RepK G φ H) kvs ks → (∀ z, dFind kvs nk = some z → ∃ w, valV ks k = some w ∧ RepV G φ H z w) ∧ (dFind kvs nk = none → valV ks k = none)
  | _, _, .nil => ⟨(fun z h => by simp [dFind] at h), (fun _ => rfl)⟩
  | _, _, .cons (a := p) (b := q) r t => by
    have ih := find_flat (k := k) (nk := nk) e2 e3 t
    have sm := same_flat r.1 e2 e3
    unfold dFind valV at *
    rw [List.find?_cons, List.find?_cons]
    by_cases z : q.1 = k
    · have s1 : sameK p.1 nk = true := by rw [sm]; exact decide_eq_true z
      rw [s1]
      simp only [z, decide_true]
      exact ⟨fun w hw => by cases hw; exact ⟨_, rfl, r.2⟩, fun hw => by cases hw⟩
    · have s1 : sameK p.1 nk = false := by rw [sm]; exact decide_eq_false z
      rw [s1]
      simp only [z, decide_false]
      exact ih
theorem any_find {ks : List (Key × V)} {k : Key} : (ks.any fun kv => decide (kv.1 = k)) = (valV ks k).isSome := by
  unfold valV
  induction ks with
  | nil => rfl
  | cons q t ih =>
    rw [List.any_cons, List.find?_cons]
    by_cases z : q.1 = k
    · simp [z]
    · simp only [z, decide_false, Bool.false_or]
      exact ih
theorem store_flat {k : Key} {nk : NestedKey} {d z : PV} {w : V} (e2 : keyOf d = some k) (e3 : nkOf d = some nk) (rz : RepV G φ H z w) {kvs : List (PV × PV)} {ks : List (Key × V)} (r : Paired (RepK G φ H) kvs ks) : Paired (RepK G φ H) (dStore kvs nk d z) (putK ks k w) := by
  have f := find_flat e2 e3 r
  unfold dStore putK
  rw [any_find]
  cases e : dFind kvs nk with
  | none =>
    rw [f.2 e]
    exact Paired.snoc r ⟨e2, rz⟩
  | some z' =>
    obtain ⟨w', e4, _⟩ := f.1 z' e
    rw [e4]
    simp only [Option.isSome_some, if_true]
    clear f e e4
    induction r with
    | nil => exact .nil
    | cons h t ih =>
      refine .cons ?_ ih
      rename_i p0 q0 _ _
      have sm := same_flat h.1 e2 e3
      show RepK G φ H (if sameK p0.1 nk = true then (p0.1, z) else p0) (if q0.1 = k then (q0.1, w) else q0)
      rw [sm]
      by_cases c : q0.1 = k
      · rw [if_pos (decide_eq_true c), if_pos c]; exact ⟨h.1, rz⟩
      · rw [if_neg (by rw [decide_eq_false c]; exact Bool.false_ne_true), if_neg c]; exact h
theorem same_tup {p d : PV} {q nk : NestedKey} (e1 : nkOf p = some q) : sameK p nk = decide (q = nk) := by
  unfold sameK
  rw [e1, NestedKey.decide_eq]
theorem find_tup {nk : NestedKey} : ∀ {kvs : List (PV × PV)} {xs : List (NestedKey × Addr × Value)}, Paired (RepE G φ H) kvs xs → (∀ z, dFind kvs nk = some z → ∃ p w, atKey xs nk = some p ∧ RelV w p.2 ∧ RepV G φ H z w) ∧ (dFind kvs nk = none → atKey xs nk = none)
  | _, _, .nil => ⟨(fun z h => by simp [dFind] at h), (fun _ => rfl)⟩
  | _, _, .cons (a := p) (b := q) r t => by
    have ih := find_tup (nk := nk) t
    have sm := same_tup (d := p.1) (nk := nk) r.1
    unfold dFind atKey at *
    rw [List.find?_cons, List.find?_cons]
    by_cases z : q.1 = nk
    · have s1 : sameK p.1 nk = true := by rw [sm]; exact decide_eq_true z
      rw [s1]
      simp only [z, decide_true]
      obtain ⟨w, r1, r2⟩ := r.2.2.2
      exact ⟨fun z' hw => by cases hw; exact ⟨_, w, rfl, r1, r2⟩, fun hw => by cases hw⟩
    · have s1 : sameK p.1 nk = false := by rw [sm]; exact decide_eq_false z
      rw [s1]
      simp only [z, decide_false]
      exact ih
theorem store_tup {nk : NestedKey} {d z : PV} {w : V} {b : Addr} {u : Value} (e3 : nkOf d = some nk) (hd : nk.depth ≤ 8) (rd : RepV G φ H d (.ref b)) (rw' : RelV w u) (rz : RepV G φ H z w) {kvs : List (PV × PV)} {xs : List (NestedKey × Addr × Value)} (r : Paired (RepE G φ H) kvs xs) :
    Paired (RepE G φ H) (dStore kvs nk d z) (storedH xs nk b u) := by
  have f := find_tup (nk := nk) r
  unfold dStore storedH
  cases e : dFind kvs nk with
  | none =>
    rw [f.2 e]
    exact Paired.snoc r ⟨e3, hd, rd, w, rw', rz⟩
  | some z' =>
    obtain ⟨p, w', e4, _⟩ := f.1 z' e
    rw [e4]
    simp only [Option.isSome_some, if_true]
    clear f e e4
    induction r with
    | nil => exact .nil
    | cons h t ih =>
      refine .cons ?_ ih
      rename_i p0 q0 _ _
      have sm := same_tup (d := p0.1) (nk := nk) h.1
      show RepE G φ H (if sameK p0.1 nk = true then (p0.1, z) else p0) (if q0.1 = nk then (q0.1, q0.2.1, u) else q0)
      rw [sm]
      by_cases c : q0.1 = nk
      · rw [if_pos (decide_eq_true c), if_pos c]; exact ⟨h.1, h.2.1, h.2.2.1, w, rw', rz⟩
      · rw [if_neg (by rw [decide_eq_false c]; exact Bool.false_ne_true), if_neg c]; exact h
/-- the dict in the model's heap -/
theorem dict_at (hK : G.K = X.K) (hP : G.P = X.prog) (hw : G.w = X.w) (I : Inv X pins σ H s) {xs : List (NestedKey × Addr × Value)} (e : H a = some (NdO G.P G.w a xs)) (nd : (xs.map (·.1)).Nodup) (r : Paired (RepE G φ H) kvs xs) : s.heap.DictOfH (nestedKind X.prog X.w) a xs := by
  have ok := I.hok a _ e
  obtain ⟨⟨o, es, ep, h1, h2, h3, h4⟩, _, _⟩ := ok
  rw [hP, hw] at h4
  refine ⟨o, es, ep, h1, h2, h3, h4, fun x hx => ?_, nd⟩
  have all : ∀ {l : List (PV × PV)} {m : List (NestedKey × Addr × Value)}, Paired (RepE G φ H) l m → ∀ x ∈ m, (nestedKind X.prog X.w).is s.heap x.1 x.2.1 := by
    intro l m q
    induction q with
    | nil => intro x hx; exact nomatch hx
    | cons hq t ih =>
      intro x hx
      rcases List.mem_cons.mp hx with e | hx
      · subst e
        exact ⟨nk_is hK I hq.2.2.1 rfl hq.1, hq.2.1⟩
      · exact ih x hx
  exact all r x hx
theorem tup_ref {d : PV} (h : isTupP d = true) (r : RepV G φ H d v) : ∃ b, v = .ref b := by
  cases r <;> first | (cases h; done) | exact ⟨_, rfl⟩
theorem flat_not_tup {k : PV} (h1 : isTupP k = true) : keyOf k = none := by cases k <;> first | rfl | cases h1
theorem not_flat_ref {k : PV} {b : Addr} {kk : Key} (r : RepV G φ H k (.ref b)) (e : keyOf k = some kk) : False := by
  cases r <;> simp [keyOf] at e
/-- d[k], there -/
theorem dic_get (hK : G.K = X.K) (hP : G.P = X.prog) (hw : G.w = X.w) (hu : X.A.units + 64 < cLine) (I : Inv X pins σ H s) (ro : RepO G φ H a (.dic kvs)) {k z : PV} {y : V} {u : Value} (rk : RepV G φ H k y) (ry : RelV y u) (e : dGetF kvs k = some z)
    {Q : VK} (q : ∀ w, RepV G φ H z w → Q w H) : s.TypeIs (.ref a) "dict" ∧ wpAny (model X.prog X.w) X.A (getItem (.ref a) u) (EP X pins σ Q) X.xe s := by
  unfold dGetF at e
  split at e
  · rename_i nk e3
    split at e
    · rename_i fit
      unfold fitsK at fit
      rw [Bool.or_eq_true] at fit
      obtain ⟨_, ⟨ks, e1, r⟩ | ⟨xs, ne, e1, sm, nd, r⟩⟩ := ro
      · -- numbers, texts
        have kf : ∃ kk, keyOf k = some kk := by
          rcases fit with f | f
          · rw [Bool.and_eq_true] at f
            exact Option.isSome_iff_exists.mp f.1
          · exfalso
            rw [Bool.and_eq_true, Bool.and_eq_true] at f
            cases r with
            | nil => cases e
            | cons h t =>
              have f2 := f.2
              rw [List.all_cons, Bool.and_eq_true] at f2
              have := flat_not_tup f2.1
              rw [h.1] at this; cases this
        obtain ⟨kk, ek⟩ := kf
        obtain ⟨w, e4, rw'⟩ := (find_flat ek e3 r).1 z e
        have yk : y = kV kk := by
          cases rk <;> simp only [keyOf] at ek <;> first | (cases ek; done) | (cases ek; rfl)
        subst yk
        have g : DGet H a (kV kk) (some w) := by rw [← e4]; exact DGet.k e1
        exact ⟨dict_typeIs I g, d_getItem (by omega) I g ry fun w' s' I' rv => ⟨w, H, I', rv, q w rw'⟩⟩
      · have kt : isTupP k = true ∧ nk.depth ≤ 8 := by
          rcases fit with f | f
          · exfalso
            rw [Bool.and_eq_true] at f
            cases r with
            | nil => exact ne rfl
            | cons h t =>
              have f2 := f.2
              rw [List.all_cons, Bool.and_eq_true] at f2
              obtain ⟨kk, ek⟩ := Option.isSome_iff_exists.mp f2.1
              have h2 := h.2.2.1
              exact not_flat_ref h2 ek
          · rw [Bool.and_eq_true, Bool.and_eq_true] at f
            exact ⟨f.1.1, of_decide_eq_true f.1.2⟩
        obtain ⟨b, rfl⟩ := tup_ref kt.1 rk
        cases ry
        have dd := dict_at hK hP hw I e1 nd r
        obtain ⟨p, w, e4, r1, r2⟩ := (find_tup r).1 z e
        refine ⟨dd.typeIs, wpAny_getItem_heap (knd := nestedKind X.prog X.w) (by show X.A.in1.units + 8 < cLine; show X.A.units + 1 + 8 < cLine; omega) ⟨nk_is hK I rk rfl e3, kt.2⟩ dd e4 ⟨w, H, I.tok _, r1, q w r2⟩⟩
    · cases e
  · cases e
theorem dStore_len {nk : NestedKey} {k z : PV} : (dStore kvs nk k z).length ≤ kvs.length + 1 := by
  unfold dStore
  split
  · rw [List.length_map]; omega
  · rw [List.length_append]; simp
theorem dStore_ne {nk : NestedKey} {k z : PV} : dStore kvs nk k z ≠ [] := by
  unfold dStore
  split
  · rename_i h
    intro e
    cases kvs with
    | nil => simp [dFind] at h
    | cons p r => simp at e
  · intro e; simp at e
/-- d[k] = v -/
theorem dic_put (hK : G.K = X.K) (hP : G.P = X.prog) (hw : G.w = X.w) (hu : X.A.units + 64 < cLine) (I : Inv X pins σ H s) (rh : RelH G φ h H) {i : Nat} (hi : φ[i]? = some a) (hd0 : h[i]? = some (.dic kvs)) {k z : PV} {y w : V} {u r : Value} (rk : RepV G φ H k y) (ry : RelV y u) (rz : RepV G φ H z w) (rw' : RelV w r)
    {kvs' : List (PV × PV)} (e : dPutF kvs k z = some kvs') {Q : Hp → Prop} (q : ∀ φ' H', Ext φ H φ' H' → RelH G φ' (h.set i (.dic kvs')) H' → Q H') :
    wpAny (model X.prog X.w) X.A (setItem (.ref a) u r) (fun _ s' => ∃ H', Inv X pins σ H' s' ∧ Q H') X.xe s := by
  have ro := rh.obj i _ a hd0 hi
  unfold dPutF at e
  split at e
  · rename_i nk e3
    split at e
    · rename_i fit
      cases e
      rw [Bool.and_eq_true] at fit
      have hlen : kvs.length < sizeLine := of_decide_eq_true fit.2
      have fit := fit.1
      unfold fitsK at fit
      rw [Bool.or_eq_true] at fit
      -- a dict of tuples, from the dict as it lies
      have tupW : ∀ {xs : List (NestedKey × Addr × Value)}, isTupP k = true → nk.depth ≤ 8 → Mut (H a) → (a == sysModules) = false → s.heap.DictOfH (nestedKind X.prog X.w) a xs → Paired (RepE G φ H) kvs xs →
          wpAny (model X.prog X.w) X.A (setItem (.ref a) u r) (fun _ s' => ∃ H', Inv X pins σ H' s' ∧ Q H') X.xe s := by
        intro xs kt kd mu sm dd pr
        obtain ⟨b, rfl⟩ := tup_ref kt rk
        cases ry
        have hz : xs.length ≤ sizeLine := by rw [← Paired.length pr]; omega
        refine wpAny_setItem_heap (knd := nestedKind X.prog X.w) (hsz := hz) (by show X.A.units + 1 + 8 < cLine; omega) ⟨nk_is hK I rk rfl e3, kd⟩ dd fun h' dd' hs => ?_
        obtain ⟨o, es, ep, h1, h2, h3, h4, _, h5⟩ := dd'
        have new : ObjOk X.prog X.w (upd H a (NdO G.P G.w a (storedH xs nk b r))) h' a (NdO G.P G.w a (storedH xs nk b r)) := by
          refine ⟨⟨o, es, ep, h1, h2, h3, by rw [hP, hw]; exact h4⟩, ⟨o, h1⟩, fun g1 g2 ⟨o', es', ep', k1, k2, k3, k4⟩ kk => ⟨o', es', ep', kk o' k1, k2, k3, k4⟩⟩
        refine ⟨_, d_write I mu hs ⟨o, h1⟩ new, q φ _ (ext_put hi) (rh.put hi ⟨by have := dStore_len (kvs := kvs) (nk := nk) (k := k) (z := z); omega, .inr ⟨_, dStore_ne, upd_same, sm, h5, ?_⟩⟩)⟩
        exact paired_map (store_tup e3 kd rk rw' rz pr) fun p x hh => ⟨hh.1, hh.2.1, repV_ext rh (ext_put hi) hh.2.2.1, let ⟨v, r1, r2⟩ := hh.2.2.2; ⟨v, r1, repV_ext rh (ext_put hi) r2⟩⟩
      obtain ⟨_, ⟨ks, e1, pr⟩ | ⟨xs, ne, e1, sm, nd, pr⟩⟩ := ro
      · obtain ⟨hz, hsm, vs, kv, dd⟩ := dk_of I.hok e1
        by_cases kt : isTupP k = true
        · have kd : nk.depth ≤ 8 ∧ kvs = [] := by
            rcases fit with f | f
            · rw [Bool.and_eq_true] at f
              have := flat_not_tup kt
              rw [this] at f; exact absurd f.1 (by simp)
            · rw [Bool.and_eq_true, Bool.and_eq_true] at f
              refine ⟨of_decide_eq_true f.1.2, ?_⟩
              cases pr with
              | nil => rfl
              | cons hh t =>
                have f2 := f.2
                rw [List.all_cons, Bool.and_eq_true] at f2
                have := flat_not_tup f2.1
                rw [hh.1] at this; cases this
          obtain ⟨kd, rfl⟩ := kd
          cases pr
          cases kv
          obtain ⟨o, es, ep, h1, h2, h3, h4, h5, h6⟩ := dd
          have he : es.toList = [] := by
            cases hq : es.toList with
            | nil => rfl
            | cons x r => rw [hq] at h5; cases h5
          refine tupW (xs := []) kt kd (by rw [e1]; exact True.intro) hsm ⟨o, es, ep, h1, h2, h3, he, (fun x hx => nomatch hx), List.nodup_nil⟩ .nil
        · have kf : ∃ kk, keyOf k = some kk := by
            rcases fit with f | f
            · rw [Bool.and_eq_true] at f
              exact Option.isSome_iff_exists.mp f.1
            · rw [Bool.and_eq_true, Bool.and_eq_true] at f
              exact absurd f.1.1 kt
          obtain ⟨kk, ek⟩ := kf
          have yk : y = kV kk := by
            cases rk <;> simp only [keyOf] at ek <;> first | (cases ek; done) | (cases ek; rfl)
          subst yk
          have hl : ks.length < sizeLine := by rw [← Paired.length pr]; exact hlen
          refine d_setItem (by omega) I (DPut.k e1 hl) ry rw' fun s' I' => ⟨_, I', q φ _ (ext_put hi) (rh.put hi ⟨by have := dStore_len (kvs := kvs) (nk := nk) (k := k) (z := z); omega, .inl ⟨_, upd_same, ?_⟩⟩)⟩
          exact paired_map (store_flat ek e3 rz pr) fun p x hh => ⟨hh.1, repV_ext rh (ext_put hi) hh.2⟩
      · have kt : isTupP k = true ∧ nk.depth ≤ 8 := by
          rcases fit with f | f
          · exfalso
            rw [Bool.and_eq_true] at f
            cases pr with
            | nil => exact ne rfl
            | cons hh t =>
              have f2 := f.2
              rw [List.all_cons, Bool.and_eq_true] at f2
              obtain ⟨kk, ek⟩ := Option.isSome_iff_exists.mp f2.1
              exact not_flat_ref hh.2.2.1 ek
          · rw [Bool.and_eq_true, Bool.and_eq_true] at f
            exact ⟨f.1.1, of_decide_eq_true f.1.2⟩
        exact tupW kt.1 kt.2 (by rw [e1]; exact True.intro) sm (dict_at hK hP hw I e1 nd pr) pr
    · cases e
  · cases e
theorem new_dic {Q : VK} (r : RelH G φ h H) (q : ∀ φ' H' v, Ext φ H φ' H' → RelH G φ' (h ++ [PObj.dic []]) H' → RepV G φ' H' (.ref h.length) v → Q v H') :
    ∀ p, H p = none → Q (.ref p) (upd H p (.dK [])) := fun p hp => by
  have x := ext_alloc (u := HO.dK []) r hp
  refine q (φ ++ [p]) _ _ x (r.alloc hp ⟨Nat.zero_le _, .inl ⟨[], upd_same, .nil⟩⟩) (.ref ?_)
  rw [← r.len, List.getElem?_append_right (Nat.le_refl _)]; simp
end
end Zed
end
section
set_option Elab.async false
set_option linter.all false
set_option maxRecDepth 100000
namespace Zed
open PySem L2
section
variable {X : Cx} {G : Gc} {φ φ' : List Addr} {h h' : PHeap} {H H' : Hp} {a p : Addr} {d : PV} {v : V} {ds : List PV} {vs : List V} {l : Loc} {σ : St} {o : PObj} {u : HO} {i : Nat}
theorem RepVs.atI {i : Int} (q : RepVs G φ H ds vs) (e : L2.atI ds i = some d) : ∃ v, L2.atI vs i = some v ∧ RepV G φ H d v := by
  unfold L2.atI at e ⊢
  rw [← q.length]
  cases z : ixN ds.length i with
  | none => rw [z] at e; cases e
  | some j => rw [z] at e; exact q.get e
theorem ix_subZ (hK : G.K = X.K) (hP : G.P = X.prog) (hw : G.w = X.w) (hu : X.A.units + 64 < cLine) : IxR X (r2 G subF) := by
  intro value slice pins s σ H x y v u Q I rx ry q hs
  obtain ⟨φ, h, ds, z, h', rh, rv, e, q⟩ := q
  cases rv with
  | cons r1 rv =>
    cases rv with
    | cons r2 rv =>
      cases rv
      simp only [subF] at e
      cases z0 : getF _ _ h with
      | none => rw [z0] at e; cases e
      | some c0 =>
        rw [z0] at e
        obtain ⟨rfl, rfl⟩ := some2 e
        unfold getF at z0
        split at z0
        · rename_i x
          split at z0
          · rename_i i
            split at z0
            · rename_i hz
              cases z1 : L2.atI x.cps.toList i with
              | none => rw [z1] at z0; cases z0
              | some c =>
                rw [z1] at z0
                cases z0
                cases r1; cases r2
                exact ix_str value slice pins s σ H _ _ v u Q I rx ry ⟨_, _, c, rfl, rfl, hz, z1, q φ H _ .refl rh (.str _)⟩ hs
            · cases z0
          · cases z0
        · split at z0
          · rename_i kvs hx
            cases r1 with
            | ref hr =>
              cases rx
              obtain ⟨ty, wp⟩ := dic_get hK hP hw hu I (rh.obj _ _ _ hx hr) r2 ry z0 (Q := Q) fun w rw => q φ H w .refl rh rw
              exact PyProof.Rows.tail_any ty PySem.F.slot_dict_getitem.lookup wp hs
          · rename_i es hx
            split at z0
            · cases r1 with
              | ref hr =>
                obtain ⟨vs, e1, q1⟩ := rh.obj _ _ _ hx hr
                cases r2
                obtain ⟨w, e2, rw⟩ := q1.atI z0
                exact ix_list value slice pins s σ H _ _ v u Q I rx ry ⟨_, _, _, w, rfl, rfl, SqL.of e1, e2, q φ H _ .refl rh rw⟩ hs
            · cases z0
          · cases z0
        · split at z0
          · split at z0
            · rename_i es h1
              obtain ⟨a, vs, rfl, sq, rv⟩ := rep_seq rh r1 h1
              cases r2
              obtain ⟨w, e2, rw⟩ := rv.atI z0
              rcases sq with sq | sq
              · exact ix_list value slice pins s σ H _ _ v u Q I rx ry ⟨_, _, _, w, rfl, rfl, hK ▸ sq, e2, q φ H _ .refl rh rw⟩ hs
              · exact ix_tup value slice pins s σ H _ _ v u Q I rx ry ⟨_, _, _, w, rfl, rfl, hK ▸ sq, e2, q φ H _ .refl rh rw⟩ hs
            · cases z0
          · cases z0
/-- slices -/
theorem RepVs.take : ∀ {ds : List PV} {vs : List V} (n : Nat), RepVs G φ H ds vs → RepVs G φ H (ds.take n) (vs.take n)
  | _, _, 0, _ => .nil
  | _, _, _ + 1, .nil => .nil
  | _, _, n + 1, .cons a b => .cons a (RepVs.take n b)
theorem RepVs.drop : ∀ {ds : List PV} {vs : List V} (n : Nat), RepVs G φ H ds vs → RepVs G φ H (ds.drop n) (vs.drop n)
  | _, _, 0, q => q
  | _, _, _ + 1, .nil => .nil
  | _, _, n + 1, .cons a b => RepVs.drop n b
theorem RepVs.cut (q : RepVs G φ H ds vs) (lo hi : Option Int) : RepVs G φ H (cutP ds lo hi) (cutV vs lo hi) := by
  unfold cutP cutV
  rw [q.length]
  exact RepVs.take _ (RepVs.drop _ q)
def rSlZ (G : Gc) : V → Option Int → Option Int → Hp → VK → Prop := fun x lo hi H Q =>
  ∃ φ h d z h', RelH G φ h H ∧ RepV G φ H d x ∧ slcF d lo hi h = some (z, h') ∧ ∀ φ' H' v, Ext φ H φ' H' → RelH G φ' h' H' → RepV G φ' H' z v → Q v H'
theorem sl_Z (hK : G.K = X.K) : SlR X (rSlZ G) := by
  intro pins s σ H x v vl vu lo hi sl Q I rx hs pl pu q
  obtain ⟨φ, h, d, z, h', rh, rv, e, q⟩ := q
  unfold slcF at e
  split at e
  · split at e
    · cases e
    · rename_i hz
      obtain ⟨rfl, rfl⟩ := some2 e
      cases rv with
      | tup s1 q1 =>
        rw [q1.length] at hz
        exact sl_tup pins s σ H _ v vl vu lo hi sl Q I rx hs pl pu ⟨_, _, rfl, hK ▸ s1, hz, new_tup rh (q1.cut lo hi) q⟩
  · split at e
    · rename_i ds e1
      obtain ⟨rfl, rfl⟩ := some2 e
      obtain ⟨a, vs, rfl, sq, q1⟩ := rep_lst rh rv e1
      exact sl_list pins s σ H _ v vl vu lo hi sl Q I rx hs pl pu ⟨_, _, rfl, hK ▸ sq, new_lst rh (q1.cut lo hi) q⟩
    · cases e
/-- truth -/
theorem truth_Z (rh : RelH G φ h H) (rv : RepV G φ H d v) {b : Bool} (e : truthF h d = some b) : TruV G.K v H b := by
  have sq : ∀ {ds : List PV}, (seqOf h d).map (fun ds => !ds.isEmpty) = some b → TruV G.K v H b := by
    intro _ e
    cases z : seqOf h d with
    | none => rw [z] at e; cases e
    | some es =>
      rw [z] at e
      obtain ⟨a, vs, rfl, sq, q⟩ := rep_seq rh rv z
      have hl : es.isEmpty = vs.isEmpty := by
        have := q.length
        cases es <;> cases vs <;> first | rfl | (simp at this)
      cases e
      rcases sq with sq | sq
      · exact .inl ⟨vs, sq, by show (!es.isEmpty) = _; rw [hl]⟩
      · exact .inr (.inl ⟨vs, sq, by show (!es.isEmpty) = _; rw [hl]⟩)
  unfold truthF at e
  split at e
  · cases e; cases rv; rfl
  · cases e; cases rv; rfl
  · cases e; cases rv; rfl
  · split at e
    · rename_i hz
      cases e; cases rv
      refine ⟨hz, ?_⟩
      rename_i x
      cases hx : x.length with
      | zero => rfl
      | succ n => show (n + 1 != 0) = (((n + 1 : Nat) : Int) != 0); simp; omega
    · cases e
  · exact sq (ds := []) e
/-- calls of built-ins -/
theorem bools_map : ∀ {ds : List PV} {vs : List V} {bs : List Bool}, RepVs G φ H ds vs → bools ds = some bs → vs = bs.map V.bl
  | _, _, _, .nil, e => by simp only [bools] at e; cases e; rfl
  | _, _, _, .cons a b, e => by
    cases a <;> simp only [bools] at e <;> first | (cases e; done) | skip
    rename_i c
    revert e
    cases z : bools _ with
    | none => intro e; cases e
    | some cs => intro e; cases e; rw [bools_map b z]; rfl
def biV : Bi → Value
  | .len => .builtin "len"
  | .isinstance => .builtin "isinstance"
  | .all => .builtin "all"
  | .abs => .builtin "abs"
  | .int => .type "int"
  | .max => .builtin "max"
  | .min => .builtin "min"
  | .tuple => .type "tuple"
  | .list => .type "list"
  | .sorted => .builtin "sorted"
  | .set => .type "set"
  | .repr => .builtin "repr"
theorem callr_of {f : Value} {F : Pf}
    (k : ∀ (pins : List (Addr × Obj)) (s : Shared) (σ : St) (H : Hp) (xs : List V) (us : List Value) (Q : VK) (φ : List Addr) (h : PHeap) (ds : List PV) (z : PV) (h' : PHeap), Inv X pins σ H s → Vals xs us → RelH G φ h H → RepVs G φ H ds xs →
      F ds h = some (z, h') → (∀ φ' H' v, Ext φ H φ' H' → RelH G φ' h' H' → RepV G φ' H' z v → Q v H') → wpAny (model X.prog X.w) X.A (call f us) (EP X pins σ Q) X.xe s) : CallR X f (rP G F) := by
  intro pins s σ H xs us Q I rx ⟨φ, h, ds, z, h', rh, rv, e, q⟩
  exact k pins s σ H xs us Q φ h ds z h' I rx rh rv e q
theorem omap {α β : Type} {o : Option α} {f : α → β} {b : β} (e : o.map f = some b) : ∃ a, o = some a ∧ f a = b := by
  cases o with
  | none => cases e
  | some a => cases e; exact ⟨a, rfl, rfl⟩
theorem repVs_one (q : RepVs G φ H [d] vs) : ∃ v, vs = [v] ∧ RepV G φ H d v := by
  cases q with
  | cons a b => cases b; exact ⟨_, rfl, a⟩
theorem repVs_two {e : PV} (q : RepVs G φ H [d, e] vs) : ∃ v w, vs = [v, w] ∧ RepV G φ H d v ∧ RepV G φ H e w := by
  cases q with
  | cons a b =>
    obtain ⟨w, rfl, r⟩ := repVs_one b
    exact ⟨_, _, rfl, a, r⟩
theorem ty_Z (rh : RelH G φ h H) (rv : RepV G φ H d v) {t : String} (e : tyName h d = some t) : TyX G.K H v (.type t) := by
  cases rv with
  | non => cases e; exact .base .non
  | bl b => cases e; exact .base (.bl b)
  | int b => cases e; exact .base (.int b)
  | str b => cases e; exact .base (.str b)
  | ty => cases e
  | gl => cases e
  | tup s q =>
    cases e
    rcases s with (s | ⟨o, s⟩) | ⟨o, its, n, s, c, _⟩
    · exact .base (.tup s)
    · exact .fTuple s
    · exact .kTuple s c
  | fl s q =>
    cases e
    rcases s with ⟨o, s⟩ | ⟨o, its, n, s, c, _⟩
    · exact .base (.frz s)
    · exact .kList s c
  | ref hi =>
    simp only [tyName] at e
    split at e
    · rename_i ds hx
      cases e
      obtain ⟨vs, e1, _⟩ := rh.obj _ _ _ hx hi
      exact .base (.lst e1)
    · cases e
theorem strsP_ok : ∀ {ds : List PV} {xs : List Str}, strsP ds = some xs → ds = xs.map PV.str
  | [], _, e => by cases e; rfl
  | d :: ds, xs, e => by
    cases d <;> simp only [strsP] at e <;> first | (cases e; done) | skip
    obtain ⟨ys, e1, e2⟩ := omap e
    cases e2
    rw [strsP_ok e1]; rfl
theorem strsP_map : ∀ (xs : List Str), strsP (xs.map PV.str) = some xs
  | [] => rfl
  | x :: r => by
    show (strsP (r.map PV.str)).map (x :: ·) = _
    rw [strsP_map r]; rfl
theorem repVs_strs : ∀ {xs : List Str} {vs : List V}, RepVs G φ H (xs.map PV.str) vs → vs = xs.map V.str
  | [], _, .nil => rfl
  | x :: r, _, .cons a b => by
    cases a
    rw [repVs_strs b]; rfl
theorem strs_repVs : ∀ (xs : List Str), RepVs G φ H (xs.map PV.str) (xs.map V.str)
  | [] => .nil
  | x :: r => .cons (.str x) (strs_repVs r)
theorem new_set {Q : VK} {w : World} (hw : G.w = w) {xs : List Str} (hl : xs.length < 64) (r : RelH G φ h H) (q : ∀ φ' H' v, Ext φ H φ' H' → RelH G φ' (h ++ [PObj.set (xs.map PV.str)]) H' → RepV G φ' H' (.ref h.length) v → Q v H') :
    ∀ ks p, ks.Perm xs → H p = none → Q (.ref p) (upd H p (TxO w p ks)) := fun ks p pk hp => by
  subst hw
  refine q _ _ _ (ext_alloc r hp) (r.alloc hp ⟨xs, ks, rfl, upd_same, pk, hl⟩) (.ref ?_)
  rw [← r.len, List.getElem?_append_right (Nat.le_refl _), Nat.sub_self]; rfl
theorem repr_Z {x : Str} (e : reprP d = some x) (rv : RepV G φ H d v) {pins : List (Addr × Obj)} {σ : St} {s : Shared} {u : Value} {Q : VK} (I : Inv X pins σ H s) (r : RelV v u) (q : Q (.str x) H) :
    wpAny (model X.prog X.w) X.A (call (.builtin "repr") [u]) (EP X pins σ Q) X.xe s := by
  cases rv with
  | non =>
    cases e; cases r
    exact P.repr_of_none ⟨.str _, H, I.tok _, ⟨_, rfl⟩, q⟩
  | bl b =>
    cases e; cases r
    exact P.repr_of_bool ⟨.str _, H, I.tok _, ⟨_, rfl⟩, q⟩
  | int i =>
    obtain ⟨t, rfl⟩ := r
    unfold reprP at e
    dsimp only at e
    split at e
    · rename_i hb
      cases e
      exact P.repr_of_int hb ⟨.str _, H, I.tok _, ⟨_, rfl⟩, q⟩
    · cases e
  | _ => cases e
theorem call_Z (hK : G.K = X.K) (hw : G.w = X.w) (hc : X.calm = true) (b : Bi) : CallR X (biV b) (rP G (bltF b)) := by
  refine callr_of fun pins s σ H xs us Q φ h ds z h' I rx rh rv e q => ?_
  unfold bltF at e
  split at e
  · -- len str
    split at e
    · rename_i hz
      obtain ⟨rfl, rfl⟩ := some2 e
      obtain ⟨v, rfl, r⟩ := repVs_one rv
      cases r
      exact call_len pins s σ H _ us Q I rx ⟨_, _, rfl, ⟨hz, rfl⟩, q φ H _ .refl rh (.int _)⟩
    · cases e
  · obtain ⟨es, e1, e2⟩ := omap e
    cases e2
    obtain ⟨v, rfl, r⟩ := repVs_one rv
    obtain ⟨a, vs, rfl, sq, q1⟩ := rep_seq rh r e1
    refine call_len_seq pins s σ H _ us Q I rx ⟨_, vs, rfl, hK ▸ sq, ?_⟩
    rw [← q1.length]
    exact q φ H _ .refl rh (.int _)
  · split at e
    · rename_i t e1
      obtain ⟨b, e2, e3⟩ := omap e
      cases e3
      obtain ⟨v, w, rfl, r, r'⟩ := repVs_two rv
      cases r'
      exact call_isi pins s σ H _ us Q I rx ⟨_, _, _, _, _, rfl, .ty _, hK ▸ ty_Z rh r e1, kit_ty e2, q φ H _ .refl rh (.bl _)⟩
    · cases e
  · split at e
    · rename_i es e1
      obtain ⟨bs, e2, e3⟩ := omap e
      cases e3
      obtain ⟨v, rfl, r⟩ := repVs_one rv
      obtain ⟨a, vs, rfl, sq, q1⟩ := rep_lst rh r e1
      have := bools_map q1 e2
      subst this
      exact cr_all hc pins s σ H _ us Q I rx ⟨_, _, rfl, hK ▸ sq, q φ H _ .refl rh (.bl _)⟩
    · cases e
  · cases e
    obtain ⟨v, rfl, r⟩ := repVs_one rv
    cases r
    exact call_abs pins s σ H _ us Q I rx ⟨_, rfl, q φ H _ .refl rh (.int _)⟩
  · cases e
    obtain ⟨v, rfl, r⟩ := repVs_one rv
    cases r
    exact call_int1 pins s σ H _ us Q I rx (.inl ⟨_, rfl, q φ H _ .refl rh (.int _)⟩)
  · cases e
    obtain ⟨v, rfl, r⟩ := repVs_one rv
    cases r
    exact call_int1 pins s σ H _ us Q I rx (.inr ⟨_, rfl, q φ H _ .refl rh (.int _)⟩)
  · cases e
    obtain ⟨v, w, rfl, r, r'⟩ := repVs_two rv
    cases r; cases r'
    exact call_max2 hc pins s σ H _ us Q I rx ⟨_, _, rfl, q φ H _ .refl rh (.int _)⟩
  · cases e
    obtain ⟨v, w, rfl, r, r'⟩ := repVs_two rv
    cases r; cases r'
    exact call_min2 hc pins s σ H _ us Q I rx ⟨_, _, rfl, q φ H _ .refl rh (.int _)⟩
  · cases e
    obtain ⟨v, rfl, r⟩ := repVs_one rv
    cases r with
    | tup s1 q1 => exact call_tuple_of pins s σ H _ us Q I rx ⟨_, _, rfl, .inr ⟨hK ▸ s1, q φ H _ .refl rh (.tup s1 q1)⟩⟩
  · obtain ⟨es, e1, e2⟩ := omap e
    cases e2
    obtain ⟨v, rfl, r⟩ := repVs_one rv
    obtain ⟨a, vs, rfl, sq, q1⟩ := rep_lst rh r e1
    exact call_tuple_of pins s σ H _ us Q I rx ⟨_, _, rfl, .inl ⟨hK ▸ sq, new_tup rh q1 q⟩⟩
  · obtain ⟨es, e1, e2⟩ := omap e
    cases e2
    obtain ⟨v, rfl, r⟩ := repVs_one rv
    obtain ⟨a, vs, rfl, sq, q1⟩ := rep_seq rh r e1
    exact call_list_of pins s σ H _ us Q I rx ⟨_, _, rfl, hK ▸ sq, new_lst rh q1 q⟩
  · unfold setP at e
    split at e
    · rename_i es e1
      split at e
      · rename_i ss e2
        split at e
        · rename_i hl
          obtain ⟨rfl, rfl⟩ := some2 e
          obtain ⟨v, rfl, r⟩ := repVs_one rv
          obtain ⟨a, vs, rfl, sq, q1⟩ := rep_lst rh r e1
          rw [strsP_ok e2] at q1
          have := repVs_strs q1
          subst this
          exact cr_txSet hc pins s σ H _ us Q I rx ⟨_, _, rfl, hK ▸ sq, hl, new_set hw (Nat.lt_of_le_of_lt (dedS_len ss) hl) rh q⟩
        · cases e
      · cases e
    · cases e
  · unfold sortP at e
    split at e
    · split at e
      · rename_i es e1
        obtain ⟨ss, e2, e3⟩ := omap e
        cases e3
        obtain ⟨v, rfl, r⟩ := repVs_one rv
        cases r with
        | ref hi =>
          obtain ⟨xs0, ks, z0, z1, z2, z3⟩ := rh.obj _ _ _ e1 hi
          subst z0
          rw [strsP_map] at e2
          cases e2
          refine cr_txSort hc pins s σ H _ us Q I rx ⟨_, ks, rfl, hw ▸ z1, by rw [z2.length_eq]; exact z3, fun ys p y1 y2 hp => ?_⟩
          rw [sortS_one (y1.trans z2) y2]
          exact new_lst rh (strs_repVs (sortS ss)) q p hp
      · rename_i es e1
        split at e
        · rename_i ss e2
          split at e
          · rename_i hl
            obtain ⟨rfl, rfl⟩ := some2 e
            obtain ⟨v, rfl, r⟩ := repVs_one rv
            cases r with
            | ref hi =>
              obtain ⟨vs, z1, q1⟩ := rh.obj _ _ _ e1 hi
              rw [strsP_ok e2] at q1
              have := repVs_strs q1
              subst this
              refine cr_sortedS pins s σ H _ us Q I rx ⟨_, ss, rfl, SqL.of z1, hl, fun ys p y1 y2 hp => ?_⟩
              rw [sortS_one y1 y2]
              exact new_lst rh (strs_repVs (sortS ss)) q p hp
          · cases e
        · cases e
      · cases e
    · cases e
  · obtain ⟨x, e1, e2⟩ := omap e
    cases e2
    obtain ⟨v, rfl, r⟩ := repVs_one rv
    cases rx with
    | cons ry rt =>
      cases rt
      exact repr_Z e1 r I ry (q φ H _ .refl rh (.str _))
  · cases e
end
end Zed
end
section
set_option Elab.async false
set_option linter.all false
set_option maxRecDepth 100000
namespace Zed
open PySem L2

/-! ### what a law's text has: names by number, defs, constants -/
structure Sg where
  nm : Nat → Str
  fn : Nat → Option (List Str × Fd)
  /-- a def of the module -/
  glo : Nat → Bool
  /-- a class's __init__ -/
  init : Nat → Option Nat
  cst : List (Str × PV)
  blts : List Str
mutual
def PV.eqb : PV → PV → Bool
  | .non, .non => true
  | .bl a, .bl b => a == b
  | .int a, .int b => a == b
  | .str a, .str b => a == b
  | .tup a, .tup b => PV.eqbs a b
  | .ty a, .ty b => a == b
  | _, _ => false
def PV.eqbs : List PV → List PV → Bool
  | [], [] => true
  | a :: r, b :: t => PV.eqb a b && PV.eqbs r t
  | _, _ => false
end
mutual
theorem PV.eqb_eq : ∀ (a b : PV), PV.eqb a b = true → a = b
  | .non, b, h => by cases b <;> simp [PV.eqb] at h ⊢
  | .bl x, b, h => by cases b <;> simp [PV.eqb] at h ⊢; exact h
  | .int x, b, h => by cases b <;> simp [PV.eqb] at h ⊢; exact h
  | .str x, b, h => by cases b <;> simp [PV.eqb] at h ⊢; exact h
  | .tup x, b, h => by cases b <;> simp [PV.eqb] at h ⊢; exact PV.eqbs_eq _ _ h
  | .ty x, b, h => by cases b <;> simp [PV.eqb] at h ⊢; exact h
  | .fl x, b, h => by cases b <;> simp [PV.eqb] at h
  | .ref x, b, h => by cases b <;> simp [PV.eqb] at h
  | .gl x, b, h => by cases b <;> simp [PV.eqb] at h
theorem PV.eqbs_eq : ∀ (a b : List PV), PV.eqbs a b = true → a = b
  | [], b, h => by cases b <;> simp [PV.eqbs] at h ⊢
  | x :: r, b, h => by
    cases b with
    | nil => simp [PV.eqbs] at h
    | cons y t =>
      simp [PV.eqbs] at h
      rw [PV.eqb_eq x y h.1, PV.eqbs_eq r t h.2]
end
abbrev Nms := List (Str × NameKind)
def isK (ns : Nms) (x : Str) (k : NameKind) : Bool := ns.lookup x == some k
def isVis (ns : Nms) (x : Str) : Bool := isK ns x .local || isK ns x .cell || isK ns x .free
def okNm (x : Str) : Bool := !(x == ("__debug__" : Str)) && !(x == ("__classdict__" : Str)) && !(x == ("__name__" : Str))
def biName : Bi → Str
  | .len => "len" | .isinstance => "isinstance" | .all => "all" | .abs => "abs" | .int => "int" | .max => "max" | .min => "min" | .tuple => "tuple" | .list => "list" | .sorted => "sorted" | .set => "set" | .repr => "repr"
def conIs : PV → Const → Bool
  | .non, .none => true
  | .bl a, .bool b => a == b
  | .int a, .int b => a == b
  | .str a, .str b => a == b
  | _, _ => false
def bopIs : Bop → Operator → Bool
  | .add, .Add | .sub, .Sub | .mul, .Mult | .fdiv, .FloorDiv | .mod, .Mod | .pow, .Pow => true
  | _, _ => false
def copIs : Cop → CmpOp → Bool
  | .lt, .Lt | .le, .LtE | .gt, .Gt | .ge, .GtE | .eq, .Eq | .ne, .NotEq | .isin, .In | .notin, .NotIn | .is, .Is | .isnot, .IsNot => true
  | _, _ => false
def noStar : Expr → Bool
  | .Starred .. => false
  | _ => true
def noSlice : Expr → Bool
  | .Slice .. => false
  | _ => true
def noSuper : Expr → Bool
  | .Call (.Name ..) [] [] _ => false
  | _ => true
def noComp : Expr → Bool
  | .ListComp .. => false
  | .SetComp .. => false
  | .DictComp .. => false
  | _ => true
def noSet : Expr → Bool
  | .Set .. => false
  | _ => true
def tyB : List String := ["int", "bool", "str", "tuple", "list", "dict"]
def miIs : Mi → Str → Bool
  | .append, x => x == ("append" : Str)
  | .extend, x => x == ("extend" : Str)
mutual
def chkG (N : List Str) (ns : Nms) : Tg → Expr → Bool
  | .nm i, .Name x _ => (N[i]? == some x) && (isK ns x .local || isK ns x .cell)
  | .tp ts, .Tuple es _ _ => chkGs N ns ts es
  | _, _ => false
def chkGs (N : List Str) (ns : Nms) : Tgs → List Expr → Bool
  | .nil, [] => true
  | .cons t ts, e :: es => noStar e && chkG N ns t e && chkGs N ns ts es
  | _, _ => false
end
mutual
def slotsT : Tg → List Nat
  | .nm i => [i]
  | .tp ts => slotsTs ts
def slotsTs : Tgs → List Nat
  | .nil => []
  | .cons t ts => slotsT t ++ slotsTs ts
end
/-- the block of a comprehension: its own names are at the slots own -/
def ownOf (N : List Str) (own : List Nat) : List (Str × Nat) := own.filterMap fun i => N[i]?.map fun x => (x, i)
def plainX : Exs → Bool
  | .nil => true
  | .cons _ es => plainX es
  | .star _ _ => false
mutual
def chkE (S : Sg) (N : List Str) (sc : Scope) : Ex → Expr → Bool
  | .loc i, e => match e with
    | .Name x _ => (N[i]? == some x) && isVis sc.names x && okNm x
    | _ => false
  | .con d, e => match e with
    | .Constant c _ _ => conIs d c
    | .Name x _ => isK sc.names x .globalImplicit && okNm x && (match S.cst.lookup x with
      | some e => PV.eqb d e
      | none => match d with
        | .ty n => tyB.contains n && (x == Str.ofString n) && S.blts.contains x
        | _ => false)
    | _ => false
  | .bin op a b, e => match e with
    | .BinOp a' op' b' _ => bopIs op op' && chkE S N sc a a' && chkE S N sc b b'
    | _ => false
  | .neg a, e => match e with
    | .UnaryOp .USub a' _ => chkE S N sc a a'
    | _ => false
  | .not a, e => match e with
    | .UnaryOp .Not a' _ => chkE S N sc a a'
    | _ => false
  | .cmp op a b, e => match e with
    | .Compare a' [op'] [b'] _ => copIs op op' && !behindInMarks op' b' && chkE S N sc a a' && chkE S N sc b b'
    | _ => false
  | .chn op p a b c, e => match e with
    | .Compare a' [op', p'] [b', c'] _ => copIs op op' && copIs p p' && !lastMarks [op', p'] [b', c'] && chkE S N sc a a' && chkE S N sc b b' && chkE S N sc c c'
    | _ => false
  | .and a b, e => match e with
    | .BoolOp .And [a', b'] _ => chkE S N sc a a' && chkE S N sc b b'
    | .BoolOp .And (a' :: b' :: c' :: r) pos => chkE S N sc a a' && chkE S N sc b (.BoolOp .And (b' :: c' :: r) pos)
    | _ => false
  | .or a b, e => match e with
    | .BoolOp .Or [a', b'] _ => chkE S N sc a a' && chkE S N sc b b'
    | .BoolOp .Or (a' :: b' :: c' :: r) pos => chkE S N sc a a' && chkE S N sc b (.BoolOp .Or (b' :: c' :: r) pos)
    | _ => false
  | .ite c a b, e => match e with
    | .IfExp c' a' b' _ => chkE S N sc c c' && chkE S N sc a a' && chkE S N sc b b'
    | _ => false
  | .tup es, e => match e with
    | .Tuple es' _ _ => chkA S N sc es es'
    | _ => false
  | .lst es, e => match e with
    | .List es' _ => chkA S N sc es es'
    | _ => false
  | .call f es, e => match e with
    | .Call (.Name x _) (a' :: es') [] _ => isK sc.names x .globalImplicit && okNm x && (x == S.nm f) && S.glo f && (S.fn f).isSome && plainX es && chkA S N sc es (a' :: es')
    | _ => false
  | .make c f es, e => match e with
    | .Call (.Name x _) (a' :: es') [] _ => isK sc.names x .globalImplicit && okNm x && (x == S.nm c) && (S.init c == some f) && (S.fn f).isSome && plainX es && chkA S N sc es (a' :: es')
    | _ => false
  | .blt b es, e => match e with
    | .Call (.Name x _) (a' :: es') [] _ => isK sc.names x .globalImplicit && (x == biName b) && S.blts.contains x && plainX es && chkA S N sc es (a' :: es')
    | _ => false
  | .meth m o es, e => match e with
    | .Call (.Attribute o' x ap) (a' :: es') [] cp => miIs m x && noSuper o' && (ap.endLine == cp.line) && decide ((a' :: es').length < 30) && chkE S N sc o o' && plainX es && chkA S N sc es (a' :: es')
    | _ => false
  | .sub o i, e => match e with
    | .Subscript o' i' _ => noSlice i' && chkE S N sc o o' && chkE S N sc i i'
    | _ => false
  | .slc o lo hi, e => match e with
    | .Subscript o' (.Slice lo' hi' none _) _ => chkE S N sc o o' && chkOp S N sc lo lo' && chkOp S N sc hi hi'
    | _ => false
  | .attr o f, e => match e with
    | .Attribute o' x _ => (x == S.nm f) && noSuper o' && chkE S N sc o o'
    | _ => false
  | .lc elt tg it ifs own, e => match e with
    | .ListComp elt' [⟨tg', it', ifs', 0⟩] sc' _ =>
      chkI S N sc it tg' it' && blkC N sc sc' (ownOf N own) && ((ownOf N own).map (·.2) == own) && chkG N sc'.names tg tg' && (slotsT tg).all own.contains && noSet it' &&
      (match ifs' with
        | [] => match ifs with | .no => true | _ => false
        | [c'] => (match ifs with | .no => false | _ => true) && chkOp S N sc' ifs (some c')
        | _ => false) && chkE S N sc' elt elt'
    | _ => false
  | .dic0, e => match e with
    | .Dict [] [] _ => true
    | _ => false
def chkA (S : Sg) (N : List Str) (sc : Scope) : Exs → List Expr → Bool
  | .nil, es => match es with
    | [] => true
    | _ => false
  | .cons e es, l => match l with
    | e' :: es' => noStar e' && chkE S N sc e e' && chkA S N sc es es'
    | _ => false
  | .star e es, l => match l with
    | .Starred e' _ :: es' => chkE S N sc e e' && chkA S N sc es es'
    | _ => false
def chkOp (S : Sg) (N : List Str) (sc : Scope) : Op → Option Expr → Bool
  | .no, o => o.isNone
  | .yes e, o => match o with
    | some e' => chkE S N sc e e'
    | none => false
def chkI (S : Sg) (N : List Str) (sc : Scope) : Itr → Expr → Expr → Bool
  | .val e, _, e' => chkE S N sc e e'
  | .rng1 e, _, c => match c with
    | .Call (.Name x _) [a'] [] _ => isK sc.names x .globalImplicit && (x == ("range" : Str)) && S.blts.contains x && noStar a' && chkE S N sc e a'
    | _ => false
  | .rng2 a b, _, c => match c with
    | .Call (.Name x _) [a', b'] [] _ => isK sc.names x .globalImplicit && (x == ("range" : Str)) && S.blts.contains x && noStar a' && noStar b' && chkE S N sc a a' && chkE S N sc b b'
    | _ => false
  | .enm _, _, _ => false
  | .zp _ _, _, _ => false
end

/-! ### where the text stands -/
def spF (G : Gc) (F : List PV → PHeap → R PV) : Sp := fun vs H Q E => ∃ φ h ds, RelH G φ h H ∧ RepVs G φ H ds vs ∧ Post G φ H (F ds h) Q E
structure Scp (ns : Nms) (X : Cx) : Prop where
  loc : ∀ x, isK ns x .local = true → X.env.scope.names.lookup x = some .local
  cel : ∀ x, isK ns x .cell = true → X.env.scope.names.lookup x = some .cell ∧ X.fn x = true
  vis : ∀ x, isVis ns x = true → Vis X.env.scope x
  gl : ∀ x, isK ns x .globalImplicit = true → Gl X x
  cf : ∀ x, ns.lookup x = some .cell ∨ ns.lookup x = some .free → X.env.scope.names.lookup x = some .cell ∨ X.env.scope.names.lookup x = some .free
structure Glob (S : Sg) (G : Gc) (C : Orc) (k : Nat) (X : Cx) : Prop where
  K : G.K = X.K
  mg : G.mg = X.mg
  nm : G.nm = S.nm
  P : G.P = X.prog
  w : G.w = X.w
  sl : G.isSl = C.ct.isSl
  slo : G.slot = C.ct.slot
  fdl : G.fld = C.ct.fld
  nd : X.N.Nodup
  calm : X.calm = true
  room : Room (k + 1) X.A
  kind : X.env.scope.kind = .function
  fns : ∀ f ps fd, S.fn f = some (ps, fd) → S.glo f = true → ∃ a fdt, X.mg (S.nm f) = some (.ref a) ∧ PySem.W.keepIn X.K (.ref a) = true ∧ Binds X.K fdt ps [] ∧ FnOk X.prog X.w X.K X.mg X.base (L2.CX X.prog X.w) k a fdt ps (spF G (C.call f))
  mks : ∀ c f ps fd, S.fn f = some (ps, fd) → S.init c = some f → ∃ D a fdt, X.mg (S.nm c) = some (.ref D) ∧ Mk X.K D a ∧ Binds X.K fdt ps [] ∧ FnOk X.prog X.w X.K X.mg X.base (L2.CX X.prog X.w) k a fdt ps (spF G (C.call f))
  scl : ∀ c D, C.ct.isSl c = true → X.mg (S.nm c) = some (.ref D) → SlX.SCls X.K D
  sls : ∀ c f i D, C.ct.slot c f = some i → X.mg (S.nm c) = some (.ref D) → ∃ p, SlX.Slot1 X.K D (S.nm f) p i
  pcl : ∀ c f D, C.ct.isSl c = false → C.ct.fld c f = true → X.mg (S.nm c) = some (.ref D) → Cls X.K D ∧ NoAttr X.K D (S.nm f)
  inj : ∀ c f g i, C.ct.slot c f = some i → C.ct.slot c g = some i → f = g
  inn : ∀ c f g, C.ct.fld c f = true → C.ct.fld c g = true → S.nm f = S.nm g → f = g
  cst : ∀ x d, S.cst.lookup x = some d → ∃ u v, X.mg x = some u ∧ RelV v u ∧ ∀ φ H, RepV G φ H d v
  blt : ∀ x, S.blts.contains x = true → X.mg x = none
section
variable {S : Sg} {G : Gc} {C : Orc} {k : Nat} {X : Cx}
theorem Glob.blk (g : Glob S G C k X) {s : Shared} {H : Hp} {sc : Scope} {cl : List (Str × Addr)} {A : Addr} {fp : List Addr} (hk : sc.kind = .function) : Glob S G C k (X.blk s H sc (compEnvC sc cl A X.env) fp) :=
  ⟨g.K, g.mg, g.nm, g.P, g.w, g.sl, g.slo, g.fdl, g.nd, g.calm, g.room, hk, g.fns, g.mks, g.scl, g.sls, g.pcl, g.inj, g.inn, g.cst, g.blt⟩
theorem lookup_rel {env : Env} : ∀ {names : Nms} {x : Str} {kd : NameKind}, names.lookup x = some kd →
    (names.map fun (n, k) => if (k == NameKind.free && env.scope.kind == .function && env.kindOf n == some .cell) then (n, NameKind.cell) else (n, k)).lookup x = some kd ∨
    (kd = .free ∧ (names.map fun (n, k) => if (k == NameKind.free && env.scope.kind == .function && env.kindOf n == some .cell) then (n, NameKind.cell) else (n, k)).lookup x = some .cell)
  | [], _, _, h => by simp at h
  | (n, k) :: r, x, kd, h => by
    have ih := @lookup_rel env r x kd
    rw [List.map_cons, List.lookup_cons] at *
    by_cases e : x == n
    · rw [e] at h
      cases h
      by_cases c : (k == NameKind.free && env.scope.kind == .function && env.kindOf n == some .cell) = true
      · right
        simp only [c, if_true, e]
        simp only [Bool.and_eq_true, beq_iff_eq] at c
        exact ⟨c.1.1, trivial⟩
      · left
        simp only [c, Bool.false_eq_true, if_false, e]
    · have e' : (x == n) = false := by simpa using e
      rw [e'] at h
      have z : ∀ (q : Bool), (x == (if q = true then (n, NameKind.cell) else (n, k)).1) = false := fun q => by cases q <;> exact e'
      rw [z]
      exact ih h
theorem Scp.blk {s : Shared} {H : Hp} {sc : Scope} {cl : List (Str × Addr)} {A : Addr} {fp : List Addr} : Scp sc.names (X.blk s H sc (compEnvC sc cl A X.env) fp) where
  loc := fun x h => by
    have h : sc.names.lookup x = some .local := by simpa [isK] using h
    rcases lookup_rel (env := X.env) h with z | ⟨z, _⟩
    · exact z
    · cases z
  cel := fun x h => by
    have h : sc.names.lookup x = some .cell := by simpa [isK] using h
    refine ⟨?_, by show (sc.names.lookup x == some .cell) = true; rw [h]; rfl⟩
    rcases lookup_rel (env := X.env) h with z | ⟨z, _⟩
    · exact z
    · cases z
  gl := fun x h => by
    have h : sc.names.lookup x = some .globalImplicit := by simpa [isK] using h
    rcases lookup_rel (env := X.env) h with z | ⟨z, _⟩
    · exact z
    · cases z
  cf := fun x h => by
    rcases h with h | h
    · rcases lookup_rel (env := X.env) h with z | ⟨z, _⟩
      · exact .inl z
      · cases z
    · rcases lookup_rel (env := X.env) h with z | ⟨_, z⟩
      · exact .inr z
      · exact .inl z
  vis := fun x h => by
    simp only [isVis, isK, Bool.or_eq_true, beq_iff_eq] at h
    rcases h with (h | h) | h
    · rcases lookup_rel (env := X.env) h with z | ⟨z, _⟩
      · exact .inl z
      · cases z
    · rcases lookup_rel (env := X.env) h with z | ⟨z, _⟩
      · exact .inr (.inl z)
      · cases z
    · rcases lookup_rel (env := X.env) h with z | ⟨_, z⟩
      · exact .inr (.inr z)
      · exact .inr (.inl z)
end
end Zed
end
section
set_option Elab.async false
set_option linter.all false
set_option maxRecDepth 100000
namespace Zed
open PySem L2
section
variable {G : Gc} {W : WX} {X : Cx}
/-! ### syntax: small facts -/
theorem starEach_cons {e : Expr} {es : List Expr} {env : Env} (h : noStar e = true) : starEach (e :: es) env = (false, eval e env) :: starEach es env := by
  cases e <;> first | rfl | (cases h)
theorem isTrue_pl {e : Expr} {env : Env} (h1 : ∀ x p, e ≠ .UnaryOp .Not x p) (h2 : ∀ o v p, e ≠ .BoolOp o v p) (h3 : ∀ a b c p, e ≠ .IfExp a b c p) (h4 : ∀ a b c p, e ≠ .Compare a b c p) (whole : Sem Value) :
    PySem.isTrue e env whole = (do let v ← whole; standAt e.pos; holding [v] (truthy v)) := by
  cases e with
  | UnaryOp op x p => cases op <;> first | rfl | exact absurd rfl (h1 _ _)
  | BoolOp o v p => exact absurd rfl (h2 _ _ _)
  | IfExp a b c p => exact absurd rfl (h3 _ _ _ _)
  | Compare a b c p => exact absurd rfl (h4 _ _ _ _)
  | _ => rfl
theorem pw_of_pt {op : BoolOp} {vs : List Expr} {pos : Pos} {t : TT} (h : PT X (.BoolOp op vs pos) t) : PW X (.BoolOp op vs pos) t := ⟨fun whole pins s σ H Q I q => h.run pins s σ H Q I q⟩
theorem noSlice_plain {i : Expr} (h : noSlice i = true) : PlainIx i := by
  intro o j
  cases i <;> first | rfl | (cases h)
/-! ### from readings by functions to the layer's readings -/
theorem tVar_ev {C : Orc} {i : Nat} (σ : St) (H : Hp) (Q : VK) (t : tEv G W (evE C (.loc i)) σ H Q) : tVar i σ H Q := by
  obtain ⟨φ, l, h, rh, rl, p⟩ := t
  unfold evE at p
  split at p
  · rename_i d e
    obtain ⟨v, e1, e2⟩ := rl.2 i d e
    exact ⟨v, e1, p φ H v .refl rh e2⟩
  · exact p.elim
theorem tC_ev {C : Orc} {d : PV} {v : V} (r : ∀ φ H, RepV G φ H d v) (σ : St) (H : Hp) (Q : VK) (t : tEv G W (evE C (.con d)) σ H Q) : tC v σ H Q := by
  obtain ⟨φ, l, h, rh, rl, p⟩ := t
  unfold evE at p
  exact p φ H v .refl rh (r φ H)
theorem tNeg_ev {C : Orc} {a : Ex} (σ : St) (H : Hp) (Q : VK) (t : tEv G W (evE C (.neg a)) σ H Q) : tUn (rU fun i => V.int (-i)) (tEv G W (evE C a)) σ H Q := by
  obtain ⟨φ, l, h, rh, rl, p⟩ := t
  unfold evE at p
  refine ⟨φ, l, h, rh, rl, Post.mono (Post.bind p) fun v H1 ⟨φ1, h1, d1, x1, rh1, rv1, p1⟩ => ?_⟩
  cases rv1 <;> simp only at p1 <;> first | exact p1.elim | skip
  exact ⟨_, rfl, (Post.ext x1 p1) φ1 H1 _ .refl rh1 (.int _)⟩
theorem truthR_post {r : R PV} {φ : List Addr} {H : Hp} {Q : Bool → Hp → Prop} {E : XK} (p : PostT G φ H (truthR r) Q E) :
    Post G φ H r (fun v H1 => ∃ φ1 h1 d1 b, Ext φ H φ1 H1 ∧ RelH G φ1 h1 H1 ∧ RepV G φ1 H1 d1 v ∧ truthF h1 d1 = some b ∧ Q b H1) E := by
  refine Post.mono (Post.bindT p) fun v H1 ⟨φ1, h1, d1, x1, rh1, rv1, p1⟩ => ?_
  cases z : truthF h1 d1 with
  | none => simp only [z] at p1; exact p1.elim
  | some b => simp only [z] at p1; exact ⟨φ1, h1, d1, b, x1, rh1, rv1, z, p1 φ1 H1 x1 rh1⟩
/-- an expression as a test -/
theorem tTru_ev {f : Loc → PHeap → R PV} (σ : St) (H : Hp) (Q : Bool → Hp → Prop) (t : tEvT G W (fun l h => truthR (f l h)) σ H Q) : tEv G W f σ H fun x H' => ∃ k, TruV G.K x H' k ∧ Q k H' := by
  obtain ⟨φ, l, h, rh, rl, p⟩ := t
  exact ⟨φ, l, h, rh, rl, Post.mono (truthR_post p) fun v H1 ⟨φ1, h1, d1, b, x1, rh1, rv1, z, q⟩ => ⟨b, truth_Z rh1 rv1 z, q⟩⟩
theorem tTest_ev {f : Loc → PHeap → R PV} (hb : ∀ l h d h', f l h = .ok d h' → ∃ b, d = .bl b) (σ : St) (H : Hp) (Q : Bool → Hp → Prop) (t : tEvT G W (fun l h => truthR (f l h)) σ H Q) : tTest (tEv G W f) σ H Q := by
  obtain ⟨φ, l, h, rh, rl, p⟩ := t
  refine ⟨φ, l, h, rh, rl, ?_⟩
  have p : PostT G φ H (truthR (f l h)) Q (fun c d H' => W c d σ H') := p
  cases e : f l h with
  | ok d h' =>
    obtain ⟨b, rfl⟩ := hb _ _ _ _ e
    rw [e] at p
    intro φ' H' v x rh' rv
    cases rv
    exact ⟨b, rfl, p φ' H' x rh'⟩
  | exc c fs h' => rw [e] at p; exact p
  | stuck => rw [e] at p; exact p
theorem cmp_bl {fa fb : Loc → PHeap → R PV} {op : Cop} (l : Loc) (h : PHeap) (d : PV) (h' : PHeap) (e : ev2 fa fb (cmpF op) l h = .ok d h') : ∃ b, d = .bl b := by
  unfold ev2 at e
  cases e1 : fa l h with
  | ok x h1 =>
    rw [e1] at e
    simp only [R.bind_ok] at e
    cases e2 : fb l h1 with
    | ok y h2 =>
      rw [e2] at e
      simp only [R.bind_ok, cmpF] at e
      cases z : cmpB op h2 x y with
      | none => rw [z] at e; cases e
      | some b => rw [z] at e; cases e; exact ⟨b, rfl⟩
    | exc c fs h' => rw [e2] at e; cases e
    | stuck => rw [e2] at e; cases e
  | exc c fs h' => rw [e1] at e; cases e
  | stuck => rw [e1] at e; cases e
theorem tNot_ev {C : Orc} {a : Ex} (σ : St) (H : Hp) (Q : VK) (t : tEv G W (evE C (.not a)) σ H Q) : tNotT G.K (tEv G W (evE C a)) σ H Q := by
  obtain ⟨φ, l, h, rh, rl, p⟩ := t
  unfold evE at p
  have p2 : PostT G φ H (truthR (evE C a l h)) (fun b H1 => Q (.bl !b) H1) (fun c d H' => W c d σ H') := PostT.mono (PostT.bind p) fun b H1 ⟨φ1, h1, x1, rh1, p1⟩ => (Post.ext x1 p1) φ1 H1 _ .refl rh1 (.bl _)
  exact tTru_ev (f := evE C a) σ H (fun b H1 => Q (.bl !b) H1) ⟨φ, l, h, rh, rl, p2⟩
theorem tAnd_ev {C : Orc} {a b : Ex} (σ : St) (H : Hp) (Q : VK) (t : tEv G W (evE C (.and a b)) σ H Q) : tAndT G.K (tEv G W (evE C a)) (tEv G W (evE C b)) σ H Q := by
  obtain ⟨φ, l, h, rh, rl, p⟩ := t
  unfold evE at p
  refine ⟨φ, l, h, rh, rl, Post.mono (Post.bind p) fun v H1 ⟨φ1, h1, d1, x1, rh1, rv1, p1⟩ => ?_⟩
  split at p1
  · rename_i z
    exact ⟨true, truth_Z rh1 rv1 z, by rw [if_pos rfl]; exact ⟨φ1, l, h1, rh1, repL_ext rh x1 rl, Post.ext x1 p1⟩⟩
  · rename_i z
    refine ⟨false, truth_Z rh1 rv1 z, ?_⟩
    rw [if_neg Bool.false_ne_true]
    exact (Post.ext x1 p1) φ1 H1 _ .refl rh1 rv1
  · exact p1.elim
theorem tOr_ev {C : Orc} {a b : Ex} (σ : St) (H : Hp) (Q : VK) (t : tEv G W (evE C (.or a b)) σ H Q) : tOrT G.K (tEv G W (evE C a)) (tEv G W (evE C b)) σ H Q := by
  obtain ⟨φ, l, h, rh, rl, p⟩ := t
  unfold evE at p
  refine ⟨φ, l, h, rh, rl, Post.mono (Post.bind p) fun v H1 ⟨φ1, h1, d1, x1, rh1, rv1, p1⟩ => ?_⟩
  split at p1
  · rename_i z
    refine ⟨true, truth_Z rh1 rv1 z, ?_⟩
    rw [if_pos rfl]
    exact (Post.ext x1 p1) φ1 H1 _ .refl rh1 rv1
  · rename_i z
    refine ⟨false, truth_Z rh1 rv1 z, ?_⟩
    rw [if_neg Bool.false_ne_true]
    exact ⟨φ1, l, h1, rh1, repL_ext rh x1 rl, Post.ext x1 p1⟩
  · exact p1.elim
theorem tIte_ev {C : Orc} {c a b : Ex} (σ : St) (H : Hp) (Q : VK) (t : tEv G W (evE C (.ite c a b)) σ H Q) : tIf (tEvT G W (fun l h => truthR (evE C c l h))) (tEv G W (evE C a)) (tEv G W (evE C b)) σ H Q := by
  obtain ⟨φ, l, h, rh, rl, p⟩ := t
  unfold evE at p
  refine ⟨φ, l, h, rh, rl, PostT.mono (PostT.bind p) fun k H1 ⟨φ1, h1, x1, rh1, p1⟩ => ?_⟩
  cases k with
  | true => rw [if_pos rfl]; exact ⟨φ1, l, h1, rh1, repL_ext rh x1 rl, Post.ext x1 p1⟩
  | false => rw [if_neg Bool.false_ne_true]; exact ⟨φ1, l, h1, rh1, repL_ext rh x1 rl, Post.ext x1 p1⟩
theorem tChn_ev {C : Orc} {op op' : Cop} {a b c : Ex} (σ : St) (H : Hp) (Q : VK) (t : tEv G W (evE C (.chn op op' a b c)) σ H Q) :
    tChain (r2 G (cmpF op)) (r2 G (cmpF op')) (tEv G W (evE C a)) (tEv G W (evE C b)) (tEv G W (evE C c)) σ H Q := by
  obtain ⟨φ, l, h, rh, rl, p⟩ := t
  unfold evE at p
  refine ⟨φ, l, h, rh, rl, Post.mono (Post.bind p) fun v H1 ⟨φ1, h1, d1, x1, rh1, rv1, p1⟩ => ?_⟩
  refine ⟨φ1, l, h1, rh1, repL_ext rh x1 rl, Post.mono (Post.bind (Post.ext x1 p1)) fun w H2 ⟨φ2, h2, d2, x2, rh2, rv2, p2⟩ => ?_⟩
  have p3 := Post.bind (Post.ext x2 p2)
  obtain ⟨d3, h3, e3, q3⟩ := Post.lift p3
  refine ⟨φ2, h2, [d1, d2], d3, h3, rh2, .cons (repV_ext rh1 x2 rv1) (.cons rv2 .nil), e3, fun φ' H' z x rh' rz => ?_⟩
  obtain ⟨φ4, h4, d4, x4, rh4, rv4, p4⟩ := q3 φ' H' z x rh' rz
  clear q3
  split at p4
  · cases rv4
    refine ⟨true, rfl, ?_⟩
    rw [if_pos rfl]
    refine ⟨φ4, l, h4, rh4, repL_ext rh2 x4 (repL_ext rh1 x2 (repL_ext rh x1 rl)), Post.mono (Post.bind (Post.ext x4 p4)) fun y H5 ⟨φ5, h5, d5, x5, rh5, rv5, p5⟩ => ?_⟩
    obtain ⟨d6, h6, e6, q6⟩ := Post.lift (Post.ext x5 p5)
    exact ⟨φ5, h5, [d2, d5], d6, h6, rh5, .cons (repV_ext rh4 x5 (repV_ext rh2 x4 rv2)) (.cons rv5 .nil), e6, q6⟩
  · cases rv4
    refine ⟨false, rfl, ?_⟩
    rw [if_neg Bool.false_ne_true]
    exact (Post.ext x4 p4) φ4 H' _ .refl rh4 (.bl _)
  · exact p4.elim
theorem tTup_ev {C : Orc} {es : Exs} (σ : St) (H : Hp) (Q : VK) (t : tEv G W (evE C (.tup es)) σ H Q) : tTup (tEvA G W (evA C es)) σ H Q := by
  obtain ⟨φ, l, h, rh, rl, p⟩ := t
  unfold evE at p
  refine ⟨φ, l, h, rh, rl, PostA.mono (PostA.bind p) fun vs H1 ⟨φ1, h1, ds, x1, rh1, rv1, p1⟩ => ?_⟩
  split at p1
  · rename_i hz
    refine ⟨by rw [← rv1.length]; exact hz, ?_⟩
    exact new_tup rh1 rv1 (Post.ext x1 p1)
  · exact p1.elim
theorem tLst_ev {C : Orc} {es : Exs} (σ : St) (H : Hp) (Q : VK) (t : tEv G W (evE C (.lst es)) σ H Q) : tLst (tEvA G W (evA C es)) σ H Q := by
  obtain ⟨φ, l, h, rh, rl, p⟩ := t
  unfold evE at p
  refine ⟨φ, l, h, rh, rl, PostA.mono (PostA.bind p) fun vs H1 ⟨φ1, h1, ds, x1, rh1, rv1, p1⟩ => ?_⟩
  split at p1
  · rename_i hz
    refine ⟨by rw [← rv1.length]; exact hz, ?_⟩
    exact new_lst rh1 rv1 (Post.ext x1 p1)
  · exact p1.elim
theorem tCall_ev {C : Orc} {f : Nat} {es : Exs} (σ : St) (H : Hp) (Q : VK) (t : tEv G W (evE C (.call f es)) σ H Q) : tCallS (spF G (C.call f)) (WE W) (tEvA G W (evA C es)) σ H Q := by
  obtain ⟨φ, l, h, rh, rl, p⟩ := t
  unfold evE at p
  refine ⟨φ, l, h, rh, rl, PostA.mono (PostA.bind p) fun vs H1 ⟨φ1, h1, ds, x1, rh1, rv1, p1⟩ => ?_⟩
  exact ⟨φ1, h1, ds, rh1, rv1, Post.ext x1 p1⟩
theorem tBlt_ev {C : Orc} {b : Bi} {es : Exs} (σ : St) (H : Hp) (Q : VK) (t : tEv G W (evE C (.blt b es)) σ H Q) : tCB (rP G (bltF b)) (tEvA G W (evA C es)) σ H Q := tCB_ev (fa := evA C es) (F := bltF b) σ H Q t
def PostO (G : Gc) (φ : List Addr) (H : Hp) (r : R (Option Int)) (Q : Option Int → Hp → Prop) (E : XK) : Prop :=
  match r with
  | .ok d h' => ∀ φ' H', Ext φ H φ' H' → RelH G φ' h' H' → Q d H'
  | .exc c fs h' => ∀ φ' H' cls dd, Ext φ H φ' H' → RelH G φ' h' H' → RepX G φ' H' c fs cls dd → E cls dd H'
  | .stuck => False
def tEvO (G : Gc) (W : WX) (f : Loc → PHeap → R (Option Int)) : TO := fun σ H Q =>
  ∃ φ l h, RelH G φ h H ∧ RepL G φ H l σ ∧ PostO G φ H (f l h) Q (fun c d H' => W c d σ H')
theorem PostO.bind {φ : List Addr} {H : Hp} {r : R (Option Int)} {k : Option Int → PHeap → R PV} {Q : VK} {E : XK} (p : Post G φ H (r.bind k) Q E) :
    PostO G φ H r (fun b H1 => ∃ φ1 h1, Ext φ H φ1 H1 ∧ RelH G φ1 h1 H1 ∧ Post G φ H (k b h1) Q E) E := by
  cases r with
  | ok d h' => exact fun φ' H' x rh => ⟨φ', h', x, rh, p⟩
  | exc c fs h' => exact p
  | stuck => exact p
theorem PostO.mono {φ : List Addr} {H : Hp} {r : R (Option Int)} {Q Q' : Option Int → Hp → Prop} {E : XK} (p : PostO G φ H r Q E) (hq : ∀ v H', Q v H' → Q' v H') : PostO G φ H r Q' E := by
  cases r with
  | ok d h' => exact fun φ' H' x1 rh => hq _ _ (p φ' H' x1 rh)
  | exc c fs h' => exact p
  | stuck => exact p
theorem tNoPart_ev {C : Orc} (σ : St) (H : Hp) (Q : Option Int → Hp → Prop) (t : tEvO G W (evOp C .no) σ H Q) : tNoPart σ H Q := by
  obtain ⟨φ, l, h, rh, rl, p⟩ := t
  unfold evOp at p
  exact p φ H .refl rh
theorem tPart_ev {C : Orc} {e : Ex} (σ : St) (H : Hp) (Q : Option Int → Hp → Prop) (t : tEvO G W (evOp C (.yes e)) σ H Q) : tPart (tEv G W (evE C e)) σ H Q := by
  obtain ⟨φ, l, h, rh, rl, p⟩ := t
  unfold evOp at p
  refine ⟨φ, l, h, rh, rl, ?_⟩
  cases z : evE C e l h with
  | ok d h' =>
    rw [z] at p
    intro φ' H' v x rh' rv
    cases rv <;> simp only [optI] at p <;> first | exact p.elim | skip
    exact ⟨_, rfl, p φ' H' x rh'⟩
  | exc c fs h' => rw [z] at p; exact p
  | stuck => rw [z] at p; exact p
theorem tSlc_ev {C : Orc} {o : Ex} {lo hi : Op} (σ : St) (H : Hp) (Q : VK) (t : tEv G W (evE C (.slc o lo hi)) σ H Q) : tSl (rSlZ G) (tEv G W (evE C o)) (tEvO G W (evOp C lo)) (tEvO G W (evOp C hi)) σ H Q := by
  obtain ⟨φ, l, h, rh, rl, p⟩ := t
  unfold evE at p
  refine ⟨φ, l, h, rh, rl, Post.mono (Post.bind p) fun v H1 ⟨φ1, h1, d1, x1, rh1, rv1, p1⟩ => ?_⟩
  have rl1 := repL_ext rh x1 rl
  refine ⟨φ1, l, h1, rh1, rl1, PostO.mono (PostO.bind (Post.ext x1 p1)) fun a H2 ⟨φ2, h2, x2, rh2, p2⟩ => ?_⟩
  have rl2 := repL_ext rh1 x2 rl1
  refine ⟨φ2, l, h2, rh2, rl2, PostO.mono (PostO.bind (Post.ext x2 p2)) fun b H3 ⟨φ3, h3, x3, rh3, p3⟩ => ?_⟩
  obtain ⟨d4, h4, e4, q4⟩ := Post.lift (Post.ext x3 p3)
  exact ⟨φ3, h3, d1, d4, h4, rh3, repV_ext rh2 x3 (repV_ext rh1 x2 rv1), e4, q4⟩
end
end Zed
end
section
set_option Elab.async false
set_option linter.all false
set_option maxRecDepth 100000
namespace Zed
open PySem L2
section
variable {G : Gc} {W : WX} {X : Cx} {φ φ' : List Addr} {h h' : PHeap} {H H' : Hp} {l : Loc} {σ : St} {D : Addr}
/-! ### targets -/
def Upd (is : List Nat) (σ σ' : St) : Prop := σ'.length = σ.length ∧ ∀ i, i ∉ is → σ'[i]? = σ[i]?
theorem wipe_upd {is : List Nat} {σ σ' : St} (u : Upd is σ σ') : ∀ {vs : List Nat}, (∀ i, i ∈ is → i ∈ vs) → wipe σ' vs = wipe σ vs := by
  have get : ∀ (vs : List Nat) (τ : St) (i : Nat), (wipe τ vs)[i]? = if i ∈ vs then (if i < τ.length then some none else none) else τ[i]? := by
    intro vs τ
    induction vs with
    | nil => intro i; simp [wipe]
    | cons v vs ih =>
      intro i
      show ((wipe τ vs).set v none)[i]? = _
      by_cases e : v = i
      · subst e
        rw [if_pos List.mem_cons_self, List.getElem?_set_self', ih]
        by_cases hm : v ∈ vs
        · rw [if_pos hm]; split <;> rfl
        · rw [if_neg hm]
          by_cases hv : v < τ.length
          · rw [if_pos hv, List.getElem?_eq_getElem hv]; rfl
          · rw [if_neg hv, List.getElem?_eq_none (by omega)]; rfl
      · rw [List.getElem?_set_ne e, ih]
        by_cases hm : i ∈ vs
        · rw [if_pos hm, if_pos (List.mem_cons_of_mem _ hm)]
        · rw [if_neg hm, if_neg (by simp only [List.mem_cons, not_or]; exact ⟨fun q => e q.symm, hm⟩)]
  intro vs hs
  apply List.ext_getElem?
  intro i
  rw [get, get]
  by_cases hm : i ∈ vs
  · rw [if_pos hm, if_pos hm, u.1]
  · rw [if_neg hm, if_neg hm]
    exact u.2 i fun q => hm (hs i q)
def gEv (G : Gc) (t : Tg) : TG := fun v σ H Q => ∃ φ h l d l', RelH G φ h H ∧ RepL G φ H l σ ∧ RepV G φ H d v ∧ bindT t d l = some l' ∧ ∀ σ', RepL G φ H l' σ' → Upd (slotsT t) σ σ' → Q σ' H
def gEvs (G : Gc) (t : Tgs) : TGs := fun vs σ H Q => ∃ φ h l ds l', RelH G φ h H ∧ RepL G φ H l σ ∧ RepVs G φ H ds vs ∧ bindTs t ds l = some l' ∧ ∀ σ', RepL G φ H l' σ' → Upd (slotsTs t) σ σ' → Q σ' H
theorem assignEach_cons {e : Expr} {es : List Expr} {env : Env} (h : noStar e = true) : assignEach (e :: es) env = (false, assign e env) :: assignEach es env := by
  cases e <;> first | rfl | (cases h)
theorem assignEach_noStar {ns : Nms} {N : List Str} : ∀ {ts : Tgs} {es : List Expr} {env : Env}, chkGs N ns ts es = true → (assignEach es env).findIdx? (fun x => x.1) = none ∧ (assignEach es env).length = es.length
  | .nil, [], env, _ => ⟨rfl, rfl⟩
  | .nil, _ :: _, _, c => by simp [chkGs] at c
  | .cons _ _, [], _, c => by simp [chkGs] at c
  | .cons t ts, e :: es, env, c => by
    simp only [chkGs, Bool.and_eq_true] at c
    obtain ⟨i1, i2⟩ := assignEach_noStar (env := env) c.2
    rw [assignEach_cons c.1.1]
    refine ⟨?_, by simp [i2]⟩
    rw [List.findIdx?_cons]
    simp [i1]
theorem Upd.trans {is js : List Nat} {σ σ1 σ2 : St} (a : Upd is σ σ1) (b : Upd js σ1 σ2) : Upd (is ++ js) σ σ2 :=
  ⟨b.1.trans a.1, fun i hi => by
    rw [List.mem_append, not_or] at hi
    exact (b.2 i hi.2).trans (a.2 i hi.1)⟩
theorem lenT : ∀ {ts : Tgs} {ds : List PV} {l l' : Loc}, bindTs ts ds l = some l' → ∀ {N : List Str} {ns : Nms} {es : List Expr}, chkGs N ns ts es = true → ds.length = es.length
  | .nil, [], _, _, _, _, _, [], _ => rfl
  | .nil, [], _, _, _, _, _, _ :: _, c => by simp [chkGs] at c
  | .nil, _ :: _, _, _, e, _, _, _, _ => by simp [bindTs] at e
  | .cons _ _, [], _, _, e, _, _, _, _ => by simp [bindTs] at e
  | .cons _ _, _ :: _, _, _, _, _, _, [], c => by simp [chkGs] at c
  | .cons t ts, d :: ds, l, l', e, N, ns, x :: es, c => by
    simp only [bindTs] at e
    simp only [chkGs, Bool.and_eq_true] at c
    split at e
    · rename_i l1 h1
      have := lenT e c.2
      simp [this]
    · cases e
mutual
theorem soundG : ∀ (t : Tg) {X : Cx} {ns : Nms} {e : Expr}, G.K = X.K → X.N.Nodup → X.calm = true → Scp ns X → chkG X.N ns t e = true → PG X e (gEv G t)
  | .nm i, X, ns, e, hK, nd, hc, sp, c => by
    unfold chkG at c
    split at c
    · rename_i i' x pos hh
      cases hh
      simp only [Bool.and_eq_true, beq_iff_eq] at c
      have lc : L2.Loc X.env.scope x ∧ (X.fn x = true ∨ X.env.scope.names.lookup x = some .local) := by
        rcases Bool.or_eq_true _ _ ▸ c.2 with z | z
        · exact ⟨.inl (sp.loc x z), .inr (sp.loc x z)⟩
        · exact ⟨.inr (sp.cel x z).1, .inl (sp.cel x z).2⟩
      have g := pg_name (pos := pos) nd c.1 lc.1 lc.2
      refine ⟨fun pins s σ H v u Q I rv q => g.run pins s σ H v u Q I rv ?_⟩
      obtain ⟨φ, h, l, d, l', rh, rl, rd, eb, q⟩ := q
      simp only [bindT] at eb
      split at eb
      · cases eb
        refine q _ (rl.set rd) ⟨by simp, fun j hj => ?_⟩
        have : i ≠ j := fun z => hj (by simp [slotsT, z])
        exact List.getElem?_set_ne this
      · cases eb
    · rename_i hh; cases hh
    · cases c
  | .tp ts, X, ns, e, hK, nd, hc, sp, c => by
    unfold chkG at c
    split at c
    · rename_i hh; cases hh
    · rename_i ts' es kk pos hh
      cases hh
      obtain ⟨i1, i2⟩ := assignEach_noStar (env := X.env) c
      have g := pg_tup (pos := pos) (k := kk) (n := es.length) hc (soundGs ts hK nd hc sp c) i2 i1
      refine ⟨fun pins s σ H v u Q I rv q => g.run pins s σ H v u Q I rv ?_⟩
      obtain ⟨φ, h, l, d, l', rh, rl, rd, eb, q⟩ := q
      cases rd <;> simp only [bindT] at eb <;> first | (cases eb; done) | skip
      rename_i a vs ds s1 q1
      refine ⟨a, vs, rfl, hK ▸ s1, ?_, φ, h, l, ds, l', rh, rl, q1, eb, q⟩
      rw [← q1.length]
      exact lenT eb c
    · cases c
theorem soundGs : ∀ (t : Tgs) {X : Cx} {ns : Nms} {es : List Expr}, G.K = X.K → X.N.Nodup → X.calm = true → Scp ns X → chkGs X.N ns t es = true → PGs X es (gEvs G t)
  | .nil, X, ns, es, hK, nd, hc, sp, c => by
    cases es with
    | cons _ _ => simp [chkGs] at c
    | nil =>
      have g := pgs_nil (X := X)
      refine ⟨fun pins s σ H v u Q I rv q => g.run pins s σ H v u Q I rv ?_⟩
      obtain ⟨φ, h, l, ds, l', rh, rl, rd, eb, q⟩ := q
      cases ds with
      | cons _ _ => simp [bindTs] at eb
      | nil =>
        simp only [bindTs] at eb
        cases eb
        cases rd
        exact ⟨rfl, q σ rl ⟨rfl, fun _ _ => rfl⟩⟩
  | .cons t ts, X, ns, es, hK, nd, hc, sp, c => by
    cases es with
    | nil => simp [chkGs] at c
    | cons e es =>
      simp only [chkGs, Bool.and_eq_true] at c
      have g := pgs_cons (soundG t hK nd hc sp c.1.2) (soundGs ts hK nd hc sp c.2) (by rw [assignEach_cons c.1.1]; rfl)
      refine ⟨fun pins s σ H v u Q I rv q => g.run pins s σ H v u Q I rv ?_⟩
      obtain ⟨φ, h, l, ds, l', rh, rl, rd, eb, q⟩ := q
      cases ds with
      | nil => simp [bindTs] at eb
      | cons d ds =>
        cases rd with
        | cons r1 r2 =>
          simp only [bindTs] at eb
          split at eb
          · rename_i l1 e1
            refine ⟨_, _, rfl, φ, h, l, d, l1, rh, rl, r1, e1, fun σ1 rl1 u1 => ?_⟩
            exact ⟨φ, h, l1, ds, l', rh, rl1, r2, eb, fun σ2 rl2 u2 => q σ2 rl2 (u1.trans u2)⟩
          · cases eb
end
end
end Zed
end
section
set_option Elab.async false
set_option linter.all false
set_option maxRecDepth 100000
namespace Zed
open PySem L2
section
variable {G : Gc} {W : WX} {X : Cx} {φ φ' : List Addr} {h h' : PHeap} {H H' : Hp} {l : Loc} {σ : St} {D : Addr}
/-! ### what is walked -/
def ItOk (G : Gc) (φ0 : List Addr) (H0 : Hp) (src : Src) (J : It) : Prop :=
  ∀ φ h H, Ext φ0 H0 φ H → RelH G φ h H → ∀ i, (srcAt h i src = some none → J.stop i H) ∧ ∀ d, srcAt h i src = some (some d) → J.go i H ∧ ∀ x H', J.yld i H x H' → Ext φ H φ H' ∧ RelH G φ h H' ∧ RepV G φ H' d x
def PostI (G : Gc) (φ : List Addr) (H : Hp) (r : R Src) (Q : It → Hp → Prop) (E : XK) : Prop :=
  match r with
  | .ok src h' => ∀ φ' H' J, Ext φ H φ' H' → RelH G φ' h' H' → ItOk G φ' H' src J → Q J H'
  | .exc c fs h' => ∀ φ' H' cls dd, Ext φ H φ' H' → RelH G φ' h' H' → RepX G φ' H' c fs cls dd → E cls dd H'
  | .stuck => False
def iEv (G : Gc) (W : WX) (f : Loc → PHeap → R Src) : TI := fun σ H R =>
  ∃ φ l h, RelH G φ h H ∧ RepL G φ H l σ ∧ PostI G φ H (f l h) R (fun c d H' => W c d σ H')
theorem PostI.ext {φ1 : List Addr} {H1 : Hp} {r : R Src} {Q : It → Hp → Prop} {E : XK} (x : Ext φ H φ1 H1) (p : PostI G φ H r Q E) : PostI G φ1 H1 r Q E := by
  cases r with
  | ok d h' => exact fun φ' H' v x1 rh rv => p φ' H' v (x.trans x1) rh rv
  | exc c fs h' => exact fun φ' H' cls dd x1 rh rx => p φ' H' cls dd (x.trans x1) rh rx
  | stuck => exact p
theorem it_tup {a : Addr} {ds : List PV} {vs : List V} (rh : RelH G φ h H) (s : SqT G.K H a vs) (q : RepVs G φ H ds vs) : ItOk G φ H (.seq ds) (Itt G.K a) := by
  intro φ1 h1 H1 x rh1 i
  have s1 := sqT_ext rh x s
  have q1 := repVs_ext rh x q
  refine ⟨fun e => ?_, fun d e => ?_⟩
  · simp only [srcAt, Option.some.injEq] at e
    exact ⟨vs, s1, by rw [← q1.length]; exact List.getElem?_eq_none_iff.mp e⟩
  · simp only [srcAt, Option.some.injEq] at e
    obtain ⟨v, e1, r⟩ := q1.get e
    refine ⟨⟨vs, v, s1, e1⟩, fun y H' ⟨hh, f⟩ => ?_⟩
    subst hh
    have := f vs s1
    rw [e1] at this
    cases this
    exact ⟨.refl, rh1, r⟩
theorem it_fl {a : Addr} {ds : List PV} {vs : List V} (rh : RelH G φ h H) (s : FzL G.K H a vs) (q : RepVs G φ H ds vs) : ItOk G φ H (.seq ds) (Itl G.K a) := by
  intro φ1 h1 H1 x rh1 i
  have s1 := (fzL_ext rh x s).sq
  have q1 := repVs_ext rh x q
  refine ⟨fun e => ?_, fun d e => ?_⟩
  · simp only [srcAt, Option.some.injEq] at e
    exact ⟨vs, s1, by rw [← q1.length]; exact List.getElem?_eq_none_iff.mp e⟩
  · simp only [srcAt, Option.some.injEq] at e
    obtain ⟨v, e1, r⟩ := q1.get e
    refine ⟨⟨vs, v, s1, e1⟩, fun y H' ⟨hh, f⟩ => ?_⟩
    subst hh
    have := f vs s1
    rw [e1] at this
    cases this
    exact ⟨.refl, rh1, r⟩
theorem it_lst {a : Addr} {r : Nat} (hr : φ[r]? = some a) : ItOk G φ H (.lst r) (Itl G.K a) := by
  intro φ1 h1 H1 x rh1 i
  have hr1 := pre_get x.pre hr
  refine ⟨fun e => ?_, fun d e => ?_⟩
  · simp only [srcAt] at e
    split at e
    · rename_i ds hx
      obtain ⟨vs, e1, q⟩ := rh1.obj r _ a hx hr1
      simp only [Option.some.injEq] at e
      exact ⟨vs, SqL.of e1, by rw [← q.length]; exact List.getElem?_eq_none_iff.mp e⟩
    · cases e
  · simp only [srcAt] at e
    split at e
    · rename_i ds hx
      obtain ⟨vs, e1, q⟩ := rh1.obj r _ a hx hr1
      simp only [Option.some.injEq] at e
      obtain ⟨v, e2, r⟩ := q.get e
      refine ⟨⟨vs, v, SqL.of e1, e2⟩, fun y H' ⟨hh, f⟩ => ?_⟩
      subst hh
      have := f vs (SqL.of e1)
      rw [e2] at this
      cases this
      exact ⟨.refl, rh1, r⟩
    · cases e
theorem it_str {x : Str} : ItOk G φ H (.seq (x.cps.toList.map fun c => .str ⟨#[c]⟩)) (Its x) := by
  intro φ1 h1 H1 x1 rh1 i
  have g : ∀ i : Nat, (x.cps.toList.map fun c => PV.str ⟨#[c]⟩)[i]? = x.cps[i]?.map fun c => PV.str ⟨#[c]⟩ := fun i => by
    rw [List.getElem?_map, Array.getElem?_toList]
  refine ⟨fun e => ?_, fun d e => ?_⟩
  · simp only [srcAt, Option.some.injEq] at e
    rw [g] at e
    cases z : x.cps[i]? with
    | none => exact Array.getElem?_eq_none_iff.mp z
    | some c => rw [z] at e; cases e
  · simp only [srcAt, Option.some.injEq] at e
    rw [g] at e
    cases z : x.cps[i]? with
    | none => rw [z] at e; cases e
    | some c =>
      rw [z] at e
      cases e
      refine ⟨(Array.getElem?_eq_some_iff.mp z).1, fun y H' ⟨hh, c', e2, e3⟩ => ?_⟩
      subst hh
      rw [z] at e2
      cases e2
      rw [e3]
      exact ⟨.refl, rh1, .str _⟩
theorem it_rng {lo : Int} {n : Nat} : ItOk G φ H (.seq ((List.range n).map fun (i : Nat) => .int (lo + i))) (L2.Itr lo n) := by
  intro φ1 h1 H1 x1 rh1 i
  have g : ∀ i : Nat, ((List.range n).map fun (i : Nat) => PV.int (lo + i))[i]? = if i < n then some (PV.int (lo + i)) else none := fun i => by
    rw [List.getElem?_map]
    by_cases z : i < n
    · rw [if_pos z, List.getElem?_range z]; rfl
    · rw [if_neg z, List.getElem?_eq_none (by simp; omega)]; rfl
  refine ⟨fun e => ?_, fun d e => ?_⟩
  · simp only [srcAt, Option.some.injEq] at e
    rw [g] at e
    split at e
    · cases e
    · show n ≤ i; omega
  · simp only [srcAt, Option.some.injEq] at e
    rw [g] at e
    split at e
    · rename_i hz
      cases e
      refine ⟨hz, fun y H' ⟨hh, e3⟩ => ?_⟩
      subst hh
      rw [e3]
      exact ⟨.refl, rh1, .int _⟩
    · cases e
theorem postI_val {f : Loc → PHeap → R PV} {R' : It → Hp → Prop} {E : XK} (p : PostI G φ H ((f l h).bind fun d h1 => srcR (srcOf h1 d) h1) R' E) :
    Post G φ H (f l h) (fun v H1 => ∃ φ1 h1 d1 src, Ext φ H φ1 H1 ∧ RelH G φ1 h1 H1 ∧ RepV G φ1 H1 d1 v ∧ f l h = .ok d1 h1 ∧ srcOf h1 d1 = some src ∧ ∀ J, ItOk G φ1 H1 src J → R' J H1) E := by
  cases e : f l h with
  | ok d h' =>
    rw [e] at p
    simp only [R.bind_ok] at p
    intro φ' H' v x rh rv
    cases z : srcOf h' d with
    | none => rw [z] at p; exact p.elim
    | some src => rw [z] at p; exact ⟨φ', h', d, src, x, rh, rv, rfl, z, fun J hj => p φ' H' J x rh hj⟩
  | exc c fs h' => rw [e] at p; exact p
  | stuck => rw [e] at p; exact p
/-- a walked value: by what it is -/
theorem pi_valZ {tg e : Expr} {f : Loc → PHeap → R PV} (hK : G.K = X.K) (he : PE X e (tEv G W f)) : PI X tg e (iEv G W fun l h => (f l h).bind fun d h1 => srcR (srcOf h1 d) h1) := by
  refine ⟨fun pins s σ H R' I q => ?_⟩
  obtain ⟨φ, l, h, rh, rl, p⟩ := q
  have p2 := postI_val p
  -- by the value's kind
  cases ev : f l h with
  | stuck => rw [ev] at p2; exact p2.elim
  | exc c fs h' =>
    rw [ev] at p2
    refine (pi_tup he).run pins s σ H R' I ⟨φ, l, h, rh, rl, ?_⟩
    rw [ev]; exact p2
  | ok d h1 =>
    cases z : srcOf h1 d with
    | none =>
      have p : PostI G φ H ((f l h).bind fun d h1 => srcR (srcOf h1 d) h1) R' (fun c d H' => W c d σ H') := p
      rw [ev] at p
      simp only [R.bind_ok] at p
      rw [z] at p
      exact p.elim
    | some src =>
      cases d with
      | tup ds =>
        refine (pi_tup he).run pins s σ H R' I ⟨φ, l, h, rh, rl, ?_⟩
        refine Post.mono p2 fun v H1 ⟨φ1, h2, d1, src1, x, rh1, rv, e1, e2, k⟩ => ?_
        rw [ev] at e1; cases e1
        simp only [srcOf] at e2; cases e2
        cases rv with
        | tup s1 q1 => exact ⟨_, rfl, ⟨_, hK ▸ s1⟩, hK ▸ k _ (it_tup rh1 s1 q1)⟩
      | fl ds =>
        refine (pi_list he).run pins s σ H R' I ⟨φ, l, h, rh, rl, ?_⟩
        refine Post.mono p2 fun v H1 ⟨φ1, h2, d1, src1, x, rh1, rv, e1, e2, k⟩ => ?_
        rw [ev] at e1; cases e1
        simp only [srcOf] at e2; cases e2
        cases rv with
        | fl s1 q1 => exact ⟨_, rfl, ⟨_, hK ▸ s1.sq⟩, hK ▸ k _ (it_fl rh1 s1 q1)⟩
      | str y =>
        refine (pi_str he).run pins s σ H R' I ⟨φ, l, h, rh, rl, ?_⟩
        refine Post.mono p2 fun v H1 ⟨φ1, h2, d1, src1, x, rh1, rv, e1, e2, k⟩ => ?_
        rw [ev] at e1; cases e1
        simp only [srcOf] at e2; cases e2
        cases rv
        exact ⟨_, rfl, k _ it_str⟩
      | ref r =>
        refine (pi_list he).run pins s σ H R' I ⟨φ, l, h, rh, rl, ?_⟩
        refine Post.mono p2 fun v H1 ⟨φ1, h2, d1, src1, x, rh1, rv, e1, e2, k⟩ => ?_
        rw [ev] at e1; cases e1
        simp only [srcOf] at e2
        split at e2
        · rename_i ds hx
          cases e2
          cases rv with
          | ref hr =>
            obtain ⟨vs, e3, q3⟩ := rh1.obj r _ _ hx hr
            exact ⟨_, rfl, ⟨vs, SqL.of e3⟩, hK ▸ k _ (it_lst hr)⟩
        · cases e2
      | _ => simp only [srcOf] at z; cases z
theorem iRng1_ev {C : Orc} {e : Ex} (σ : St) (H : Hp) (R' : It → Hp → Prop) (t : iEv G W (evI C (.rng1 e)) σ H R') : iRng1 (tEvA G W (evCons (evE C e) evNil)) σ H R' := by
  obtain ⟨φ, l, h, rh, rl, p⟩ := t
  unfold evI at p
  refine ⟨φ, l, h, rh, rl, ?_⟩
  unfold evCons evNil
  cases z : evE C e l h with
  | ok d h1 =>
    rw [z] at p
    simp only [R.bind_ok] at p ⊢
    intro φ' H' vs x rh' rv
    obtain ⟨v, rfl, r⟩ := repVs_one rv
    split at p
    · rename_i j
      cases r
      unfold rngOf srcR at p
      split at p
      · rename_i s1 hs
        split at hs
        · rename_i hz
          cases hs
          refine ⟨j, rfl, hz.2.2.1, hz.2.2.2, p φ' H' _ x rh' ?_⟩
          have := it_rng (G := G) (φ := φ') (H := H') (lo := 0) (n := j.toNat)
          simpa using this
        · cases hs
      · exact p.elim
    · exact p.elim
  | exc c fs h' => rw [z] at p; exact p
  | stuck => rw [z] at p; exact p
theorem iRng2_ev {C : Orc} {a b : Ex} (σ : St) (H : Hp) (R' : It → Hp → Prop) (t : iEv G W (evI C (.rng2 a b)) σ H R') : iRng2 (tEvA G W (evCons (evE C a) (evCons (evE C b) evNil))) σ H R' := by
  obtain ⟨φ, l, h, rh, rl, p⟩ := t
  unfold evI at p
  refine ⟨φ, l, h, rh, rl, ?_⟩
  unfold evCons evNil
  cases z : evE C a l h with
  | ok d h1 =>
    rw [z] at p
    simp only [R.bind_ok] at p ⊢
    cases z2 : evE C b l h1 with
    | ok e h2 =>
      rw [z2] at p
      simp only [R.bind_ok] at p ⊢
      intro φ' H' vs x rh' rv
      obtain ⟨v, w, rfl, r, r'⟩ := repVs_two rv
      split at p
      · rename_i i j
        cases r; cases r'
        unfold rngOf srcR at p
        split at p
        · rename_i s1 hs
          split at hs
          · rename_i hz
            cases hs
            exact ⟨i, j, rfl, hz, p φ' H' _ x rh' it_rng⟩
          · cases hs
        · exact p.elim
      · exact p.elim
    | exc c fs h' => rw [z2] at p; exact p
    | stuck => rw [z2] at p; exact p
  | exc c fs h' => rw [z] at p; exact p
  | stuck => rw [z] at p; exact p
/-! ### comprehensions -/
mutual
theorem repV_pre (pr : φ <+: φ') : ∀ {d : PV} {v : V}, RepV G φ H d v → RepV G φ' H d v
  | _, _, .non => .non
  | _, _, .bl b => .bl b
  | _, _, .int i => .int i
  | _, _, .str s => .str s
  | _, _, .ty n => .ty n
  | _, _, .tup s q => .tup s (repVs_pre pr q)
  | _, _, .fl s q => .fl s (repVs_pre pr q)
  | _, _, .ref e => .ref (pre_get pr e)
  | _, _, .gl e => .gl e
theorem repVs_pre (pr : φ <+: φ') : ∀ {ds : List PV} {vs : List V}, RepVs G φ H ds vs → RepVs G φ' H ds vs
  | _, _, .nil => .nil
  | _, _, .cons a b => .cons (repV_pre pr a) (repVs_pre pr b)
end
theorem repO_pre (pr : φ <+: φ') {a : Addr} {o : PObj} (ro : RepO G φ H a o) : RepO G φ' H a o := repO_imp (repV_pre pr) (repVs_pre pr) (fun _ _ q => q) (fun _ _ q => .inl q) rfl ro
structure Stay (H H' : Hp) : Prop where
  tups : ∀ a xs, H a = some (.tup xs) → H' a = some (.tup xs)
  frzs : ∀ a o u, H a = some (.frz o u) → H' a = some (.frz o u)
  xds : ∀ a fs, H a = some (.xd fs) → H' a = some (.xd fs)
  owns : ∀ a x, H a = some (.own x) → H' a = some (.own x)
mutual
theorem repV_stay (k : Stay H H') : ∀ {d : PV} {v : V}, RepV G φ H d v → RepV G φ H' d v
  | _, _, .non => .non
  | _, _, .bl b => .bl b
  | _, _, .int i => .int i
  | _, _, .str s => .str s
  | _, _, .ty n => .ty n
  | _, _, .tup s q => .tup (match s with | .inl (.inl s) => .inl (.inl (k.tups _ _ s)) | .inl (.inr ⟨o, s⟩) => .inl (.inr ⟨o, k.frzs _ _ _ s⟩) | .inr s => .inr s) (repVs_stay k q)
  | _, _, .fl s q => .fl (match s with | .inl ⟨o, s⟩ => .inl ⟨o, k.frzs _ _ _ s⟩ | .inr s => .inr s) (repVs_stay k q)
  | _, _, .ref e => .ref e
  | _, _, .gl e => .gl e
theorem repVs_stay (k : Stay H H') : ∀ {ds : List PV} {vs : List V}, RepVs G φ H ds vs → RepVs G φ H' ds vs
  | _, _, .nil => .nil
  | _, _, .cons a b => .cons (repV_stay k a) (repVs_stay k b)
end
theorem repO_stay (k : Stay H H') {a : Addr} {o : PObj} (e : H' a = H a) (ro : RepO G φ H a o) : RepO G φ H' a o := repO_imp (repV_stay k) (repVs_stay k) k.xds (fun b x q => .inl (k.owns b x q)) e ro
theorem stay_lst {a : Addr} {xs : List V} {u : HO} (e : H a = some (.lst xs)) : Stay H (upd H a u) :=
  ⟨fun b ys q => by rw [upd_ne (ne_of q e (fun z => nomatch z))]; exact q, fun b o w q => by rw [upd_ne (ne_of q e (fun z => nomatch z))]; exact q, fun b fs q => by rw [upd_ne (ne_of q e (fun z => nomatch z))]; exact q, fun b x q => by rw [upd_ne (ne_of q e (fun z => nomatch z))]; exact q⟩
/-- a tracked list outside changes -/
theorem RelH.out (r : RelH G φ h H) {a : Addr} {xs : List V} {u : HO} (e : H a = some (.lst xs)) (na : a ∉ φ) : RelH G φ h (upd H a u) where
  len := r.len
  nd := r.nd
  obj := fun j o b e1 e2 => repO_stay (stay_lst e) (upd_ne fun z => na (by rw [← z]; exact List.mem_of_getElem? e2)) (r.obj j o b e1 e2)
/-- a tracked thing comes into the heap -/
theorem RelH.adopt (r : RelH G φ h H) {o : PObj} (hD : D ∉ φ) (ro : RepO G (φ ++ [D]) H D o) : RelH G (φ ++ [D]) (h ++ [o]) H where
  len := by simp [r.len]
  nd := by
    refine List.nodup_append.mpr ⟨r.nd, by simp, fun b hb c hc => ?_⟩
    rw [List.mem_singleton.mp hc]
    intro e
    rw [e] at hb
    exact hD hb
  obj := fun j o' b e1 e2 => by
    have hl := r.len
    by_cases hj : j < h.length
    · rw [List.getElem?_append_left hj] at e1
      rw [List.getElem?_append_left (by omega)] at e2
      exact repO_pre (List.prefix_append _ _) (r.obj j o' b e1 e2)
    · rw [List.getElem?_append_right (by omega)] at e1 e2
      have z1 : j - h.length = 0 := by
        have := (List.getElem?_eq_some_iff.mp e1).1
        simp at this; omega
      have z2 : j - φ.length = 0 := by omega
      rw [z1] at e1; rw [z2] at e2
      simp at e1 e2
      subst e1; subst e2
      exact ro
theorem wipeP_len (l : Loc) : ∀ vs, (wipeP l vs).length = l.length
  | [] => rfl
  | v :: vs => by unfold wipeP; rw [List.length_set, wipeP_len l vs]
theorem repL_wipe (rl : RepL G φ H l σ) : ∀ vs, RepL G φ H (wipeP l vs) (wipe σ vs)
  | [] => rl
  | v :: vs => by
    have ih := repL_wipe rl vs
    unfold wipeP wipe
    refine ⟨by simpa using ih.1, fun i d e => ?_⟩
    by_cases z : v = i
    · subst z
      by_cases hl : v < (wipeP l vs).length
      · rw [List.getElem?_set_self hl] at e; cases e
      · rw [List.getElem?_eq_none (by simpa using hl)] at e; cases e
    · rw [List.getElem?_set_ne z] at e ⊢
      exact ih.2 i d e
abbrev W0 : WX := fun _ _ _ _ => False
/-- one for; the ifs' test tt, the element el: functions -/
theorem tLc_ev {tg : Tg} {fi : Loc → PHeap → R Src} {tt : Loc → PHeap → R Bool} {el : Loc → PHeap → R PV} {own : List Nat} (hs : ∀ i, i ∈ slotsT tg → i ∈ own) (σ : St) (H : Hp) (Q : VK)
    (t : tEv G W (fun l h => (fi l h).bind fun src h1 => (lcLoop tg src tt el (wipeP l own) (srcLen h1 src + 1) 0 [] h1).bind fun ds h2 => liftP (some (newO (.lst ds) h2))) σ H Q) :
    tLc (iEv G W fi) (gEv G tg) (tEvT G W0 tt) (tEv G W0 el) own σ H Q := by
  obtain ⟨φ, l, h, rh, rl, p⟩ := t
  refine ⟨φ, l, h, rh, rl, ?_⟩
  have p : Post G φ H ((fi l h).bind fun src h1 => (lcLoop tg src tt el (wipeP l own) (srcLen h1 src + 1) 0 [] h1).bind fun ds h2 => liftP (some (newO (.lst ds) h2))) Q (fun c d H' => W c d σ H') := p
  cases e0 : fi l h with
  | exc c fs h' => rw [e0] at p; exact p
  | stuck => rw [e0] at p; exact p
  | ok src h1 =>
    rw [e0] at p
    simp only [R.bind_ok] at p
    intro φ1 H1 J x1 rh1 hj D hD
    -- the loop ends well
    cases e1 : lcLoop tg src tt el (wipeP l own) (srcLen h1 src + 1) 0 [] h1 with
    | stuck => rw [e1] at p; exact p.elim
    | exc c fs h' =>
      exfalso
      have no : ∀ n i acc h, lcLoop tg src tt el (wipeP l own) n i acc h ≠ .exc c fs h' := by
        intro n
        induction n with
        | zero => intro i acc h q; simp [lcLoop] at q
        | succ n ih =>
          intro i acc h q
          unfold lcLoop at q
          split at q
          · cases q
          · cases q
          · split at q
            · cases q
            · split at q
              · exact ih _ _ _ q
              · split at q
                · split at q
                  · exact ih _ _ _ q
                  · cases q
                · cases q
              · cases q
      exact no _ _ _ _ e1
    | ok ds h2 =>
      rw [e1] at p
      simp only [R.bind_ok, liftP, newO] at p
      refine ⟨fun i m H' => ∃ φ' h' accP accV, Ext φ1 H1 φ' H' ∧ RelH G φ' h' H' ∧ D ∉ φ' ∧ H' D = some (.lst accV) ∧ RepVs G φ' H' accP accV ∧ lcLoop tg src tt el (wipeP l own) m i accP h' = .ok ds h2,
        ⟨srcLen h1 src + 1, φ1, h1, [], [], ext_tup hD, rh1.tup hD, rh1.free hD, upd_same, .nil, e1⟩, ?_⟩
      rintro i m H2 ⟨φ2, h', accP, accV, x2, rh2, nD, eD, racc, ev⟩
      cases m with
      | zero => simp [lcLoop] at ev
      | succ m =>
        unfold lcLoop at ev
        have J2 := hj φ2 h' H2 x2 rh2 i
        cases es : srcAt h' i src with
        | none => rw [es] at ev; cases ev
        | some so =>
          rw [es] at ev
          cases so with
          | none =>
            simp only [R.ok.injEq] at ev
            obtain ⟨rfl, rfl⟩ := ev
            refine .inl ⟨J2.1 es, ?_⟩
            have ad := rh2.adopt (o := .lst accP) nD ⟨accV, eD, repVs_pre (List.prefix_append _ _) racc⟩
            refine p (φ2 ++ [D]) H2 (.ref D) (x1.trans ⟨x2.pre.trans (List.prefix_append _ _), fun a ha na => ?_, x2.keep, x2.own⟩) ad (.ref ?_)
            · rcases List.mem_append.mp ha with z | z
              · exact x2.new a z na
              · rw [List.mem_singleton.mp z]; exact hD
            · rw [← rh2.len, List.getElem?_append_right (Nat.le_refl _)]; simp
          | some d =>
            refine .inr ⟨(J2.2 d es).1, _, fun H' hn => ⟨m, Nat.lt_succ_self _, hn⟩, fun x H3 hy => ?_⟩
            obtain ⟨x3, rh3, rx⟩ := (J2.2 d es).2 x H3 hy
            have eD3 : H3 D = some (.lst accV) := x3.keep D _ eD nD (fun _ q => (nomatch q))
            simp only at ev
            cases eb : bindT tg d (wipeP l own) with
            | none => rw [eb] at ev; cases ev
            | some l1 =>
              rw [eb] at ev
              simp only at ev
              have rlw : RepL G φ2 H3 (wipeP l own) (wipe σ own) := repL_ext rh2 x3 (repL_ext rh1 x2 (repL_ext rh x1 (repL_wipe rl own)))
              refine ⟨φ2, h', wipeP l own, d, l1, rh3, rlw, rx, eb, fun σ2 rl2 u2 => ⟨?_, ?_⟩⟩
              · have := wipe_upd u2 hs
                rw [this]
                exact wipe_upd (is := own) ⟨by rw [wipe_length], fun i hi => by
                  have get : ∀ (vs : List Nat), i ∉ vs → (wipe σ vs)[i]? = σ[i]? := by
                    intro vs
                    induction vs with
                    | nil => intro _; rfl
                    | cons v vs ih =>
                      intro hv
                      rw [List.mem_cons, not_or] at hv
                      show ((wipe σ vs).set v none)[i]? = _
                      rw [List.getElem?_set_ne (fun q => hv.1 q.symm)]
                      exact ih hv.2
                  exact get own hi⟩ (fun i hi => hi)
              · refine ⟨φ2, l1, h', rh3, rl2, ?_⟩
                cases et : tt l1 h' with
                | stuck => rw [et] at ev; cases ev
                | exc c fs h'' => rw [et] at ev; cases ev
                | ok b h3 =>
                  rw [et] at ev
                  intro φ4 H4 x4 rh4
                  have nD4 : D ∉ φ4 := fun hm => by
                    have := x4.new D hm nD
                    rw [eD3] at this; cases this
                  have eD4 : H4 D = some (.lst accV) := x4.keep D _ eD3 nD (fun _ q => (nomatch q))
                  have racc4 : RepVs G φ4 H4 accP accV := repVs_ext rh3 x4 (repVs_ext rh2 x3 racc)
                  have x14 : Ext φ1 H1 φ4 H4 := x2.trans (x3.trans x4)
                  cases b with
                  | false =>
                    rw [if_neg Bool.false_ne_true]
                    exact ⟨φ4, h3, accP, accV, x14, rh4, nD4, eD4, racc4, ev⟩
                  | true =>
                    rw [if_pos rfl]
                    refine ⟨φ4, l1, h3, rh4, repL_ext rh3 x4 rl2, ?_⟩
                    simp only at ev
                    cases ee : el l1 h3 with
                    | stuck => rw [ee] at ev; cases ev
                    | exc c fs h'' => rw [ee] at ev; cases ev
                    | ok y h4 =>
                      rw [ee] at ev
                      simp only at ev
                      intro φ5 H5 v x5 rh5 rv5
                      have nD5 : D ∉ φ5 := fun hm => by
                        have := x5.new D hm nD4
                        rw [eD4] at this; cases this
                      have eD5 : H5 D = some (.lst accV) := x5.keep D _ eD4 nD4 (fun _ q => (nomatch q))
                      have racc5 := repVs_ext rh4 x5 racc4
                      split at ev
                      · rename_i hz
                        refine ⟨accV, eD5, by rw [← racc5.length]; exact hz, ?_⟩
                        -- the list under construction grows
                        have x15 : Ext φ1 H1 φ5 H5 := x14.trans x5
                        refine ⟨φ5, h4, accP ++ [y], accV ++ [v], ⟨x15.pre, x15.new, fun a o ea na no => ?_, fun a o ea na => ?_⟩, rh5.out eD5 nD5, nD5, upd_same, repVs_stay (stay_lst eD5) (racc5.append (.cons rv5 .nil)), ev⟩
                        · rw [upd_ne (ne_of_none ea hD)]
                          exact x15.keep a o ea na no
                        · rw [upd_ne (ne_of_none ea hD)]
                          exact x15.own a o ea na
                      · cases ev
end
end Zed
end
section
set_option Elab.async false
set_option linter.all false
set_option maxRecDepth 100000
set_option maxHeartbeats 1000000
namespace Zed
open PySem L2
section
variable {S : Sg} {G : Gc} {C : Orc} {k : Nat}
theorem bop_ok {X : Cx} (g : Glob S G C k X) {op : Bop} {o : Operator} (h : bopIs op o = true) : OpR X (binaryOp o) (r2 G (bopF op)) := by
  cases op <;> cases o <;> first | (cases h; done) | skip
  · exact op_addZ g.K
  · exact op_subZ
  · exact op_mulZ g.K
  · exact op_fdivZ
  · exact op_modZ
  · exact op_powZ
theorem cop_ok {X : Cx} (g : Glob S G C k X) {op : Cop} {o : CmpOp} (h : copIs op o = true) : OpR X (compareOp o) (r2 G (cmpF op)) := by
  have hu := g.room.units
  cases op <;> cases o <;> first | (cases h; done) | skip
  · exact op_ltZ
  · exact op_leZ
  · exact op_gtZ
  · exact op_geZ
  · exact op_eqZ g.K hu
  · exact op_neZ g.K hu
  · exact op_inZ g.K
  · exact op_notinZ g.K
  · exact op_isZ
  · exact op_isnotZ
theorem bi_boot (b : Bi) : (∃ id, bootBuiltins (biName b) = some (.builtin id) ∧ biV b = .builtin id) ∨ ∃ T, bootBuiltins (biName b) = some (.type T) ∧ biV b = .type T := by
  cases b
  all_goals first
    | exact .inl ⟨_, by decide +kernel, rfl⟩
    | exact .inr ⟨_, by decide +kernel, rfl⟩
theorem bi_nm (b : Bi) : biName b ≠ "__name__" ∧ (biName b == ("__debug__" : Str)) = false := by
  cases b <;> exact ⟨by decide +kernel, by decide +kernel⟩
theorem ty_boot : ∀ n, tyB.contains n = true → bootBuiltins (Str.ofString n) = some (.type n) ∧ Str.ofString n ≠ "__name__" ∧ (Str.ofString n == ("__debug__" : Str)) = false := by
  intro n h
  simp only [tyB, List.contains_cons, List.contains_nil, Bool.or_false, Bool.or_eq_true, beq_iff_eq] at h
  rcases h with rfl | rfl | rfl | rfl | rfl | rfl <;> exact ⟨by decide +kernel, by decide +kernel, by decide +kernel⟩
theorem okNm_dbg {x : Str} (h : okNm x = true) : (x == ("__debug__" : Str)) = false ∧ (x == ("__classdict__" : Str)) = false ∧ x ≠ "__name__" := by
  unfold okNm at h
  simp only [Bool.and_eq_true, Bool.not_eq_true'] at h
  exact ⟨h.1.1, h.1.2, fun e => by rw [e] at h; simp at h⟩
theorem noStars {N : List Str} {sc : Scope} : ∀ {es : Exs} {l : List Expr} {env : Env} {pos : Pos}, plainX es = true → chkA S N sc es l = true → (backTo pos (starEach l env)).any (·.1) = false ∧ (backTo pos (starEach l env)).all (fun x => !x.1) = true
  | .nil, [], _, _, _, _ => ⟨rfl, rfl⟩
  | .nil, _ :: _, _, _, _, c => by simp [chkA] at c
  | .cons _ _, [], _, _, _, c => by simp [chkA] at c
  | .star _ _, _, _, _, p, c => by simp [plainX] at p
  | .cons e es, x :: l, env, pos, p, c => by
    simp only [chkA, Bool.and_eq_true] at c
    obtain ⟨i1, i2⟩ := noStars (env := env) (pos := pos) (by simpa [plainX] using p) c.2
    rw [starEach_cons c.1.1]
    unfold backTo at *
    rw [List.map_cons, List.any_cons, List.all_cons, i1, i2]
    exact ⟨rfl, rfl⟩
theorem noSuper_base {o : Expr} {m : Str} {env : Env} (h : noSuper o = true) : attributeBase o m env (eval o env) = eval o env := by
  unfold attributeBase
  split
  · cases h
  · rfl
theorem foldedSet {e : Expr} {env : Env} (h : noSet e = true) : ∀ x, foldedSetIterable e env x = pure x := by
  intro x
  cases e <;> first | rfl | (cases h)
theorem mt_app {X : Cx} : MtR X "list.append" (fun x vs H Q => rP G appP (x :: vs) H Q) := by
  intro pins s σ H x xs v us Q I rx rxs ⟨φ, h, ds, z, h', rh, rv, e, q⟩
  unfold appP at e
  split at e
  · split at e
    · rename_i hx
      split at e
      · rename_i hz
        obtain ⟨rfl, rfl⟩ := some2 e
        obtain ⟨w1, w2, ew, r1, r2⟩ := repVs_two rv
        cases ew
        cases r1 with
        | ref hr =>
          obtain ⟨vs, e1, q1⟩ := rh.obj _ _ _ hx hr
          refine mt_append pins s σ H _ _ v us Q I rx rxs ⟨_, _, _, rfl, rfl, e1, by rw [← q1.length]; exact hz, ?_⟩
          have x := ext_put (H := H) (u := HO.lst (vs ++ [w2])) hr
          exact q φ _ _ x (rh.put hr ⟨_, upd_same, repVs_ext rh x (q1.append (.cons r2 .nil))⟩) .non
      · cases e
    · cases e
  · cases e
theorem mt_ext {X : Cx} : MtR X "list.extend" (fun x vs H Q => rP G extP (x :: vs) H Q) := by
  intro pins s σ H x xs v us Q I rx rxs ⟨φ, h, ds, z, h', rh, rv, e, q⟩
  unfold extP at e
  split at e
  · split at e
    · rename_i hx hy
      split at e
      · rename_i hz
        obtain ⟨rfl, rfl⟩ := some2 e
        obtain ⟨w1, w2, ew, r1, r2⟩ := repVs_two rv
        cases ew
        cases r1 with
        | ref hr =>
          cases r2 with
          | ref hr2 =>
            obtain ⟨vs, e1, q1⟩ := rh.obj _ _ _ hx hr
            obtain ⟨ws, e2, q2⟩ := rh.obj _ _ _ hy hr2
            refine mt_extend pins s σ H _ _ v us Q I rx rxs ⟨_, _, _, _, rfl, rfl, e1, e2, by rw [← q1.length, ← q2.length]; exact hz.2, ?_⟩
            have x := ext_put (H := H) (u := HO.lst (vs ++ ws)) hr
            exact q φ _ _ x (rh.put hr ⟨_, upd_same, repVs_ext rh x (q1.append q2)⟩) .non
      · cases e
    · cases e
  · cases e
theorem rcv_ty {φ : List Addr} {h : PHeap} {H : Hp} {d : PV} {v : V} {m : Mi} {K : PySem.W.Frag} (rh : RelH G φ h H) (rv : RepV G φ H d v) (e : rcvOk m d h = true) : tyV K "list" v H := by
  unfold rcvOk at e
  split at e
  · split at e
    · rename_i hx
      cases rv with
      | ref hr =>
        obtain ⟨vs, e1, _⟩ := rh.obj _ _ _ hx hr
        exact .inl ⟨rfl, _, SqL.of e1⟩
    · cases e
  · cases e
theorem tMeth_ev {W : WX} {K : PySem.W.Frag} {m : Mi} {o : Ex} {es : Exs} (σ : St) (H : Hp) (Q : VK) (t : tEv G W (evE C (.meth m o es)) σ H Q) :
    tBM K "list" (fun x vs H Q => rP G (methF m) (x :: vs) H Q) (tEv G W (evE C o)) (tEvA G W (evA C es)) σ H Q := by
  obtain ⟨φ, l, h, rh, rl, p⟩ := t
  unfold evE at p
  refine ⟨φ, l, h, rh, rl, Post.mono (Post.bind p) fun v H1 ⟨φ1, h1, d1, x1, rh1, rv1, p1⟩ => ?_⟩
  split at p1
  · rename_i hr
    refine ⟨rcv_ty rh1 rv1 hr, φ1, l, h1, rh1, repL_ext rh x1 rl, PostA.mono (PostA.bind (Post.ext x1 p1)) fun vs H2 ⟨φ2, h2, ds, x2, rh2, rv2, p2⟩ => ?_⟩
    obtain ⟨d3, h3, e3, q3⟩ := Post.lift (Post.ext x2 p2)
    exact ⟨φ2, h2, d1 :: ds, d3, h3, rh2, .cons (repV_ext rh1 x2 rv1) rv2, e3, q3⟩
  · exact p1.elim
/-- a test, from an expression's truth -/
theorem pt_of {X : Cx} {W : WX} {e : Expr} {f : Loc → PHeap → R PV} (hK : G.K = X.K) (h : PE X e (tEv G W f)) (h1 : ∀ x p, e ≠ .UnaryOp .Not x p) (h2 : ∀ o v p, e ≠ .BoolOp o v p) (h3 : ∀ a b c p, e ≠ .IfExp a b c p) (h4 : ∀ a b c p, e ≠ .Compare a b c p) :
    PT X e (tEvT G W fun l h => truthR (f l h)) := by
  refine pt_imp (pt_truth h (isTrue_pl h1 h2 h3 h4)) fun σ H Q q => ?_
  have z := tTru_ev (f := f) σ H Q q
  rw [hK] at z
  exact z
theorem truthR_bl {r : R Bool} : truthR (r.bind fun b h1 => .ok (.bl !b) h1) = r.bind fun b h1 => .ok (!b) h1 := by
  cases r <;> rfl
theorem truthR_and {a b : Ex} {l : Loc} {h : PHeap} : truthR (evE C (.and a b) l h) = (truthR (evE C a l h)).bind fun k h1 => match k with | true => truthR (evE C b l h1) | false => .ok false h1 := by
  conv => lhs; unfold evE
  cases evE C a l h with
  | ok x h1 =>
    unfold truthR
    simp only [R.bind_ok]
    cases z : truthF h1 x with
    | none => rfl
    | some b =>
      cases b
      · simp only [R.bind_ok, z]
      · rfl
  | exc => rfl
  | stuck => rfl
theorem truthR_or {a b : Ex} {l : Loc} {h : PHeap} : truthR (evE C (.or a b) l h) = (truthR (evE C a l h)).bind fun k h1 => match k with | true => .ok true h1 | false => truthR (evE C b l h1) := by
  conv => lhs; unfold evE
  cases evE C a l h with
  | ok x h1 =>
    unfold truthR
    simp only [R.bind_ok]
    cases z : truthF h1 x with
    | none => rfl
    | some b =>
      cases b
      · rfl
      · simp only [R.bind_ok, z]
  | exc => rfl
  | stuck => rfl
theorem ttNot_ev {W : WX} {a : Ex} (σ : St) (H : Hp) (Q : Bool → Hp → Prop) (t : tEvT G W (fun l h => truthR (evE C (.not a) l h)) σ H Q) : tNot (tEvT G W fun l h => truthR (evE C a l h)) σ H Q := by
  obtain ⟨φ, l, h, rh, rl, p⟩ := t
  have p : PostT G φ H (truthR (evE C (.not a) l h)) Q (fun c d H' => W c d σ H') := p
  unfold evE at p
  rw [truthR_bl] at p
  exact ⟨φ, l, h, rh, rl, PostT.mono (PostT.bindT p) fun b H1 ⟨φ1, h1, x1, rh1, p1⟩ => (PostT.ext x1 p1) φ1 H1 .refl rh1⟩
theorem ttAnd_ev {W : WX} {a b : Ex} (σ : St) (H : Hp) (Q : Bool → Hp → Prop) (t : tEvT G W (fun l h => truthR (evE C (.and a b) l h)) σ H Q) :
    tAnd (tEvT G W fun l h => truthR (evE C a l h)) (tEvT G W fun l h => truthR (evE C b l h)) σ H Q := by
  obtain ⟨φ, l, h, rh, rl, p⟩ := t
  have p : PostT G φ H (truthR (evE C (.and a b) l h)) Q (fun c d H' => W c d σ H') := p
  rw [truthR_and] at p
  refine ⟨φ, l, h, rh, rl, PostT.mono (PostT.bindT p) fun k H1 ⟨φ1, h1, x1, rh1, p1⟩ => ?_⟩
  cases k with
  | true => rw [if_pos rfl]; exact ⟨φ1, l, h1, rh1, repL_ext rh x1 rl, PostT.ext x1 p1⟩
  | false => rw [if_neg Bool.false_ne_true]; exact (PostT.ext x1 p1) φ1 H1 .refl rh1
theorem ttOr_ev {W : WX} {a b : Ex} (σ : St) (H : Hp) (Q : Bool → Hp → Prop) (t : tEvT G W (fun l h => truthR (evE C (.or a b) l h)) σ H Q) :
    tOr (tEvT G W fun l h => truthR (evE C a l h)) (tEvT G W fun l h => truthR (evE C b l h)) σ H Q := by
  obtain ⟨φ, l, h, rh, rl, p⟩ := t
  have p : PostT G φ H (truthR (evE C (.or a b) l h)) Q (fun c d H' => W c d σ H') := p
  rw [truthR_or] at p
  refine ⟨φ, l, h, rh, rl, PostT.mono (PostT.bindT p) fun k H1 ⟨φ1, h1, x1, rh1, p1⟩ => ?_⟩
  cases k with
  | true => rw [if_pos rfl]; exact (PostT.ext x1 p1) φ1 H1 .refl rh1
  | false => rw [if_neg Bool.false_ne_true]; exact ⟨φ1, l, h1, rh1, repL_ext rh x1 rl, PostT.ext x1 p1⟩
theorem chn_bl {op op' : Cop} {a b c : Ex} (l : Loc) (h : PHeap) (d : PV) (h' : PHeap) (e : evE C (.chn op op' a b c) l h = .ok d h') : ∃ b, d = .bl b := by
  unfold evE at e
  cases e1 : evE C a l h with
  | ok x h1 =>
    rw [e1] at e
    simp only [R.bind_ok] at e
    cases e2 : evE C b l h1 with
    | ok y h2 =>
      rw [e2] at e
      simp only [R.bind_ok] at e
      simp only [cmpF] at e
      cases z : cmpB op h2 x y with
      | none => rw [z] at e; cases e
      | some k =>
        rw [z] at e
        simp only [Option.map_some, liftP, R.bind_ok] at e
        cases k with
        | false => simp only [R.ok.injEq] at e; exact ⟨false, e.1.symm⟩
        | true =>
          simp only at e
          cases e3 : evE C c l h2 with
          | ok w h3 =>
            rw [e3] at e
            simp only [R.bind_ok] at e
            cases z2 : cmpB op' h3 y w with
            | none => rw [z2] at e; cases e
            | some k2 => rw [z2] at e; cases e; exact ⟨k2, rfl⟩
          | exc c fs h' => rw [e3] at e; cases e
          | stuck => rw [e3] at e; cases e
    | exc c fs h' => rw [e2] at e; cases e
    | stuck => rw [e2] at e; cases e
  | exc c fs h' => rw [e1] at e; cases e
  | stuck => rw [e1] at e; cases e
/-! ### instances -/
theorem lookup_setFl {fs : List (Nat × PV)} {f g : Nat} {v : PV} : (setFl fs f v).lookup g = if g = f then some v else fs.lookup g := by
  induction fs with
  | nil =>
    simp only [setFl, List.lookup_cons, List.lookup_nil]
    by_cases e : g = f
    · simp [e]
    · have : (g == f) = false := by simpa using e
      rw [this]; simp [e]
  | cons p r ih =>
    obtain ⟨k, w⟩ := p
    simp only [setFl]
    by_cases e : k = f
    · rw [if_pos e, List.lookup_cons, List.lookup_cons]
      by_cases e2 : g = f
      · subst e; subst e2; simp
      · have : (g == k) = false := by rw [e]; simpa using e2
        rw [this, if_neg e2]
    · rw [if_neg e, List.lookup_cons, List.lookup_cons]
      by_cases e3 : g = k
      · subst e3; simp [e]
      · have : (g == k) = false := by simpa using e3
        rw [this]; exact ih
theorem len_setFl {fs : List (Nat × PV)} {f : Nat} {v : PV} (h : fs.lookup f = none) : (setFl fs f v).length = fs.length + 1 := by
  induction fs with
  | nil => rfl
  | cons p r ih =>
    obtain ⟨k, w⟩ := p
    rw [List.lookup_cons] at h
    by_cases e : f = k
    · subst e; simp at h
    · have z : (f == k) = false := by simpa using e
      rw [z] at h
      simp only [setFl]
      rw [if_neg (Ne.symm e)]
      simp [ih h]
theorem len_setFl' {fs : List (Nat × PV)} {f : Nat} {v : PV} : fs.length ≤ (setFl fs f v).length := by
  induction fs with
  | nil => simp
  | cons p r ih =>
    obtain ⟨k, w⟩ := p
    simp only [setFl]
    split
    · simp
    · simp only [List.length_cons]; omega
theorem len_putF {f : Str} {v : V} : ∀ {fs : List (Str × V)}, (L2.putF f v fs).length ≤ fs.length + 1 ∧ ((fs.lookup f).isSome = true → (L2.putF f v fs).length = fs.length)
  | [] => ⟨by simp [L2.putF], fun h => by simp at h⟩
  | (k, w) :: r => by
    have ih := len_putF (f := f) (v := v) (fs := r)
    by_cases e : k = f
    · have z : L2.putF f v ((k, w) :: r) = (k, v) :: r := by
        show (if k = f then (k, v) :: r else (k, w) :: L2.putF f v r) = _
        rw [if_pos e]
      rw [z]; simp
    · have z : L2.putF f v ((k, w) :: r) = (k, w) :: L2.putF f v r := by
        show (if k = f then (k, v) :: r else (k, w) :: L2.putF f v r) = _
        rw [if_neg e]
      rw [z]
      refine ⟨by simp only [List.length_cons]; omega, fun h => ?_⟩
      have z2 : (f == k) = false := by simpa using fun q => e q.symm
      rw [List.lookup_cons, z2] at h
      simp only [List.length_cons]
      rw [ih.2 h]
/-- reading an attribute -/
theorem attr_post {φ : List Addr} {H : Hp} {W : WX} {f : Loc → PHeap → R PV} {l : Loc} {h : PHeap} {ct : Ct} {n : Nat} {Q : VK} {E : XK} (p : Post G φ H (ev1 f (attrF ct n) l h) Q E) :
    Post G φ H (f l h) (fun v H1 => ∃ φ1 h1 i c fs d, Ext φ H φ1 H1 ∧ RelH G φ1 h1 H1 ∧ RepV G φ1 H1 (.ref i) v ∧ f l h = .ok (.ref i) h1 ∧ h1[i]? = some (.ins c fs) ∧ ownF ct c n = true ∧ fs.lookup n = some d ∧ ∀ w, RepV G φ1 H1 d w → Q w H1) E := by
  unfold ev1 at p
  cases e : f l h with
  | ok x h1 =>
    rw [e] at p
    simp only [R.bind_ok] at p
    obtain ⟨d, h2, e2, q⟩ := Post.lift p
    intro φ1 H1 v x1 rh1 rv
    unfold attrF at e2
    split at e2
    · rename_i i hl
      cases hl
      split at e2
      · rename_i c fs hx
        split at e2
        · rename_i ow
          obtain ⟨d', e3, e4⟩ := omap e2
          cases e4
          exact ⟨φ1, _, i, c, fs, d, x1, rh1, rv, rfl, hx, ow, e3, fun w rw => q φ1 H1 w x1 rh1 rw⟩
        · cases e2
      · cases e2
    · cases e2
  | exc c fs h' => rw [e] at p; exact p
  | stuck => rw [e] at p; exact p
theorem pe_attrZ {X : Cx} {W : WX} {e : Expr} {n : Nat} {f : Loc → PHeap → R PV} {pos : Pos} (g : Glob S G C k X) (he : PE X e (tEv G W f)) (hb : attributeBase e (S.nm n) X.env (eval e X.env) = eval e X.env) :
    PE X (.Attribute e (S.nm n) pos) (tEv G W (ev1 f (attrF C.ct n))) := by
  refine ⟨fun pins s σ H Q I q => ?_⟩
  obtain ⟨φ, l, h, rh, rl, p⟩ := q
  have p2 := attr_post (W := W) p
  cases ev : f l h with
  | stuck => rw [ev] at p2; exact p2.elim
  | exc c fs h' =>
    rw [ev] at p2
    refine (pe_fld he hb).run pins s σ H Q I ⟨φ, l, h, rh, rl, ?_⟩
    rw [ev]; exact p2
  | ok x h1 =>
    by_cases sl : ∃ i c fs, x = .ref i ∧ h1[i]? = some (.ins c fs) ∧ C.ct.isSl c = true
    · obtain ⟨i, c, fs, rfl, hx, sl⟩ := sl
      refine (SlX.pe_sl he hb).run pins s σ H Q I ⟨φ, l, h, rh, rl, ?_⟩
      refine Post.mono p2 fun v H1 ⟨φ1, h2, i2, c2, fs2, d, x1, rh1, rv, e1, e2, ow, e3, q⟩ => ?_
      rw [ev] at e1
      cases e1
      rw [hx] at e2
      cases e2
      cases rv with
      | ref hr =>
        obtain ⟨D, dx, hD, ⟨z, _⟩ | ⟨z, vs, hs, _, qf⟩⟩ := rh1.obj _ _ _ hx hr
        · rw [g.sl, sl] at z; cases z
        · obtain ⟨j, w, a1, a2, a3⟩ := qf n d e3
          rw [g.slo] at a1
          rw [g.mg, g.nm] at hD
          obtain ⟨pp, s1⟩ := g.sls c n j D a1 hD
          exact ⟨_, D, dx, pp, vs, j, w, rfl, hs, g.scl c D sl hD, s1, a2, q w a3⟩
    · refine (pe_fld he hb).run pins s σ H Q I ⟨φ, l, h, rh, rl, ?_⟩
      refine Post.mono p2 fun v H1 ⟨φ1, h2, i2, c2, fs2, d, x1, rh1, rv, e1, e2, ow, e3, q⟩ => ?_
      rw [ev] at e1
      cases e1
      have nsl : C.ct.isSl c2 = false := by
        cases zz : C.ct.isSl c2 with
        | false => rfl
        | true => exact absurd ⟨i2, c2, fs2, rfl, e2, zz⟩ sl
      cases rv with
      | ref hr =>
        obtain ⟨D, dx, hD, ⟨z, ws, a0, al, qf, q2⟩ | ⟨z, _⟩⟩ := rh1.obj _ _ _ e2 hr
        · obtain ⟨b0, w, b1, b2⟩ := qf n d e3
          rw [g.mg, g.nm] at hD
          rw [g.fdl] at b0
          obtain ⟨c1, c3⟩ := g.pcl c2 n D nsl b0 hD
          rw [g.nm] at b1
          exact ⟨_, D, dx, ws, w, rfl, a0, c1, c3, b1, q w b2⟩
        · rw [g.sl, nsl] at z; cases z
end
end Zed
end
section
set_option Elab.async false
set_option linter.all false
set_option maxRecDepth 100000
set_option maxHeartbeats 4000000
namespace Zed
open PySem L2
section
variable {S : Sg} {G : Gc} {C : Orc} {k : Nat}
theorem conIs_rep {d : PV} {c : Const} {X : Cx} {j : Nat} {pos : Pos} (h : conIs d c = true) : ∃ v, PE X (.Constant c j pos) (tC v) ∧ ∀ φ H, RepV G φ H d v := by
  unfold conIs at h
  split at h
  · exact ⟨.non, pe_non, fun _ _ => .non⟩
  · rw [beq_iff_eq] at h; subst h; exact ⟨.bl _, pe_bl, fun _ _ => .bl _⟩
  · rw [beq_iff_eq] at h; subst h; exact ⟨.int _, pe_int, fun _ _ => .int _⟩
  · rw [beq_iff_eq] at h; subst h; exact ⟨.str _, pe_str, fun _ _ => .str _⟩
  · cases h
def isTst : Expr → Bool
  | .UnaryOp .Not _ _ => true
  | .BoolOp .. => true
  | .IfExp .. => true
  | .Compare .. => true
  | _ => false
theorem pt_pl {X : Cx} {W : WX} {e : Expr} {f : Loc → PHeap → R PV} (hK : G.K = X.K) (h : PE X e (tEv G W f)) (ht : isTst e = false) : PT X e (tEvT G W fun l h => truthR (f l h)) :=
  pt_of hK h (fun x p e => by subst e; cases ht) (fun o v p e => by subst e; cases ht) (fun a b c p e => by subst e; cases ht) (fun a b c p e => by subst e; cases ht)
theorem evE_attr {a : Ex} {f : Nat} : evE C (.attr a f) = ev1 (evE C a) (attrF C.ct f) := by funext l h; simp only [evE]
theorem pass_no {X : Cx} : Passes (L2.CX X.prog X.w) X (fun _ _ _ => False) := fun pins σ H s e s' I hc => by
  obtain ⟨_, _, _, _, _, _, _, _, _, _, _, _, z⟩ := hc
  exact z.elim
theorem tStar_ev {W : WX} {e : Ex} {r : Exs} (σ : St) (H : Hp) (Q : List V → Hp → Prop) (t : tEvA G W (evA C (.star e r)) σ H Q) : StX.tStar G.K (tEv G W (evE C e)) (tEvA G W (evA C r)) σ H Q := by
  obtain ⟨φ, l, h, rh, rl, p⟩ := t
  unfold evA at p
  refine ⟨φ, l, h, rh, rl, Post.mono (Post.bindA p) fun v H1 ⟨φ1, h1, d1, x1, rh1, rv1, p1⟩ => ?_⟩
  cases z : seqOf h1 d1 with
  | none => rw [z] at p1; exact p1.elim
  | some ds =>
    rw [z] at p1
    obtain ⟨a, vs, rfl, sq, q⟩ := rep_seq rh1 rv1 z
    refine ⟨a, vs, rfl, sq.symm, φ1, l, h1, rh1, repL_ext rh x1 rl, PostA.mono (PostA.bindA (PostA.ext x1 p1)) fun ws H2 ⟨φ2, h2, es, x2, rh2, rv2, p2⟩ => ?_⟩
    exact (PostA.ext x2 p2) φ2 H2 _ .refl rh2 ((repVs_ext rh1 x2 q).append rv2)
theorem tMake_ev {X : Cx} {W : WX} {c f : Nat} {es : Exs} {D : Addr} (g : Glob S G C k X) (hD : X.mg (S.nm c) = some (.ref D)) (σ : St) (H : Hp) (Q : VK) (t : tEv G W (evE C (.make c f es)) σ H Q) :
    tMake D (spF G (C.call f)) [] (fun _ _ _ => False) (tEvA G W (evA C es)) σ H Q := by
  obtain ⟨φ, l, h, rh, rl, p⟩ := t
  unfold evE at p
  refine ⟨φ, l, h, rh, rl, PostA.mono (PostA.bind p) fun vs H1 ⟨φ1, h1, ds, x1, rh1, rv1, p1⟩ => ?_⟩
  intro x dx hx hdx ne
  rw [List.append_nil]
  unfold makeF at p1
  -- the new object
  have hx2 : upd H1 dx (.own x) x = none := by rw [upd_ne (Ne.symm ne)]; exact hx
  have e1 : Ext φ1 H1 φ1 (upd H1 dx (.own x)) := ext_tup hdx
  have rh2 := rh1.tup (u := HO.own x) hdx
  have e2 := ext_alloc (u := HO.ins D dx []) rh2 hx2
  have hD' : G.mg (G.nm c) = some (.ref D) := by rw [g.mg, g.nm]; exact hD
  have ro : RepO G (φ1 ++ [x]) (upd (upd H1 dx (.own x)) x (.ins D dx [])) x (.ins c []) := by
    refine ⟨D, dx, hD', ?_⟩
    cases z : G.isSl c with
    | false => exact .inl ⟨rfl, [], upd_same, Nat.le_refl _, (fun f d hf => by cases hf), (fun y v hy => by cases hy)⟩
    | true => exact .inr ⟨rfl, [], .inl ⟨upd_same, rfl⟩, ⟨ne, .inl (by rw [upd_ne ne, upd_same])⟩, (fun f d hf => by cases hf)⟩
  have rh3 := rh2.alloc hx2 ro
  have x13 : Ext φ1 H1 (φ1 ++ [x]) (upd (upd H1 dx (.own x)) x (.ins D dx [])) := e1.trans e2
  have hix : (φ1 ++ [x])[h1.length]? = some x := by rw [← rh1.len, List.getElem?_append_right (Nat.le_refl _)]; simp
  refine ⟨φ1 ++ [x], h1 ++ [.ins c []], .ref h1.length :: ds, rh3, .cons (.ref hix) (repVs_ext rh1 x13 rv1), ?_⟩
  cases z : C.call f (.ref h1.length :: ds) (h1 ++ [.ins c []]) with
  | stuck => rw [z] at p1; exact p1.elim
  | exc c fs h' => rw [z] at p1; exact p1.elim
  | ok d h2 =>
    rw [z] at p1
    intro φ4 H4 v x4 rh4 rv4
    cases rv4 <;> simp only at p1 <;> first | exact p1.elim | skip
    exact ⟨rfl, p1 φ4 H4 _ (x1.trans (x13.trans x4)) rh4 (.ref (pre_get x4.pre hix))⟩
theorem evE_bin {op : Bop} {a b : Ex} : evE C (.bin op a b) = ev2 (evE C a) (evE C b) (bopF op) := by funext l h; simp only [evE]
theorem evE_cmp {op : Cop} {a b : Ex} : evE C (.cmp op a b) = ev2 (evE C a) (evE C b) (cmpF op) := by funext l h; simp only [evE]
theorem evE_sub {a b : Ex} : evE C (.sub a b) = ev2 (evE C a) (evE C b) subF := by funext l h; simp only [evE]
theorem evE_lc {elt : Ex} {tg : Tg} {it : Itr} {ifs : Op} {own : List Nat} : evE C (.lc elt tg it ifs own) = fun l h => (evI C it l h).bind fun src h1 => (lcLoop tg src (evT1 C ifs) (evE C elt) (wipeP l own) (srcLen h1 src + 1) 0 [] h1).bind fun ds h2 => liftP (some (newO (.lst ds) h2)) := by funext l h; simp only [evE]
theorem evA_nil : evA C .nil = evNil := by funext l h; simp only [evA, evNil]
theorem evA_cons {e : Ex} {es : Exs} : evA C (.cons e es) = evCons (evE C e) (evA C es) := by funext l h; simp only [evA]
theorem evI_val {e : Ex} : evI C (.val e) = fun l h => (evE C e l h).bind fun d h1 => srcR (srcOf h1 d) h1 := by funext l h; simp only [evI]
theorem pt_ifExp {X : Cx} {c a b : Expr} {tc ta tb : TT} {pos : Pos} (hc : PT X c tc) (ha : PT X a ta) (hb : PT X b tb) : PT X (.IfExp c a b pos) (fun σ H Q => tc σ H fun k H1 => if k = true then ta σ H1 Q else tb σ H1 Q) := ⟨fun pins s σ H Q I q => by
  have e : PySem.isTrue (.IfExp c a b pos) X.env (eval (.IfExp c a b pos) X.env) = (do let k ← PySem.isTrue c X.env (eval c X.env); if k = true then PySem.isTrue a X.env (eval a X.env) else PySem.isTrue b X.env (eval b X.env)) := by
    rw [PySem.isTrue]
  rw [e]
  refine wpAny_bind (thn (hc.run pins s σ H _ I q) fun k s1 ⟨H1, I1, q1⟩ => ?_)
  cases k with
  | true => rw [if_pos rfl] at q1 ⊢; exact ha.run pins s1 σ H1 Q I1 q1
  | false => rw [if_neg Bool.false_ne_true] at q1 ⊢; exact hb.run pins s1 σ H1 Q I1 q1⟩
theorem truthR_ite {c a b : Ex} {l : Loc} {h : PHeap} : truthR (evE C (.ite c a b) l h) = (truthR (evE C c l h)).bind fun k h1 => match k with | true => truthR (evE C a l h1) | false => truthR (evE C b l h1) := by
  conv => lhs; unfold evE
  cases truthR (evE C c l h) with
  | ok k h1 => cases k <;> rfl
  | exc => rfl
  | stuck => rfl
theorem ttIte_ev {W : WX} {c a b : Ex} (σ : St) (H : Hp) (Q : Bool → Hp → Prop) (t : tEvT G W (fun l h => truthR (evE C (.ite c a b) l h)) σ H Q) :
    (tEvT G W fun l h => truthR (evE C c l h)) σ H fun k H1 => if k = true then (tEvT G W fun l h => truthR (evE C a l h)) σ H1 Q else (tEvT G W fun l h => truthR (evE C b l h)) σ H1 Q := by
  obtain ⟨φ, l, h, rh, rl, p⟩ := t
  have p : PostT G φ H (truthR (evE C (.ite c a b) l h)) Q (fun c d H' => W c d σ H') := p
  rw [truthR_ite] at p
  refine ⟨φ, l, h, rh, rl, PostT.mono (PostT.bindT p) fun k H1 ⟨φ1, h1, x1, rh1, p1⟩ => ?_⟩
  cases k with
  | true => rw [if_pos rfl]; exact ⟨φ1, l, h1, rh1, repL_ext rh x1 rl, PostT.ext x1 p1⟩
  | false => rw [if_neg Bool.false_ne_true]; exact ⟨φ1, l, h1, rh1, repL_ext rh x1 rl, PostT.ext x1 p1⟩
mutual
theorem soundE : ∀ (ir : Ex) {X : Cx} {W : WX} {sc : Scope} {e : Expr}, Glob S G C k X → Scp sc.names X → Takes X W → chkE S X.N sc ir e = true → PE X e (tEv G W (evE C ir))
  | .loc i, X, W, sc, e, g, sp, tk, c => by
    simp only [chkE] at c
    split at c
    · simp only [Bool.and_eq_true, beq_iff_eq] at c
      have z := okNm_dbg c.2
      exact pe_imp (pe_var c.1.1 (sp.vis _ c.1.2) z.1 z.2.1) tVar_ev
    · cases c
  | .con d, X, W, sc, e, g, sp, tk, c => by
    simp only [chkE] at c
    split at c
    · obtain ⟨v, p, r⟩ := conIs_rep (G := G) (X := X) c
      exact pe_imp p (tC_ev r)
    · simp only [Bool.and_eq_true] at c
      have z := okNm_dbg c.1.2
      have gl := sp.gl _ c.1.1
      have c2 := c.2
      split at c2
      · rename_i e0 hl
        obtain ⟨u, v, e1, e2, e3⟩ := g.cst _ _ hl
        have := PV.eqb_eq _ _ c2
        subst this
        exact pe_imp (pe_glob gl e1 e2 z.1) (tC_ev e3)
      · split at c2
        · rename_i n
          simp only [Bool.and_eq_true, beq_iff_eq] at c2
          obtain ⟨⟨c3, c4⟩, c5⟩ := c2
          subst c4
          have b := ty_boot n c3
          exact pe_imp (pe_bltn (v := .ty n) gl (g.blt _ c5) b.1 rfl b.2.1 b.2.2) (tC_ev fun _ _ => .ty n)
        · cases c2
    · cases c
  | .bin op a b, X, W, sc, e, g, sp, tk, c => by
    simp only [chkE] at c
    split at c
    · simp only [Bool.and_eq_true] at c
      exact pe_imp (pe_op (bop_ok g c.1.1) (soundE a g sp tk c.1.2) (soundE b g sp tk c.2)) fun σ H Q t => tOp_ev σ H Q (by rw [evE_bin] at t; exact t)
    · cases c
  | .neg a, X, W, sc, e, g, sp, tk, c => by
    simp only [chkE] at c
    split at c
    · exact pe_imp (pe_un un_neg (soundE a g sp tk c)) tNeg_ev
    · cases c
  | .not a, X, W, sc, e, g, sp, tk, c => by
    simp only [chkE] at c
    split at c
    · exact pe_imp (pe_notT (soundE a g sp tk c)) fun σ H Q t => by
        have := tNot_ev σ H Q t
        rw [g.K] at this; exact this
    · cases c
  | .cmp op a b, X, W, sc, e, g, sp, tk, c => by
    simp only [chkE] at c
    split at c
    · simp only [Bool.and_eq_true, Bool.not_eq_true'] at c
      exact pe_imp (pe_cmpR (cop_ok g c.1.1.1) (soundE a g sp tk c.1.2) (soundE b g sp tk c.2) c.1.1.2) fun σ H Q t => tOp_ev σ H Q (by rw [evE_cmp] at t; exact t)
    · cases c
  | .chn op p a b d, X, W, sc, e, g, sp, tk, c => by
    simp only [chkE] at c
    split at c
    · simp only [Bool.and_eq_true, Bool.not_eq_true'] at c
      exact pe_imp (pe_chain (cop_ok g c.1.1.1.1.1) (cop_ok g c.1.1.1.1.2) (soundE a g sp tk c.1.1.2) (soundE b g sp tk c.1.2) (soundE d g sp tk c.2) c.1.1.1.2) tChn_ev
    · cases c
  | .and a b, X, W, sc, e, g, sp, tk, c => by
    simp only [chkE] at c
    split at c
    · simp only [Bool.and_eq_true] at c
      exact pe_imp (pe_andT (soundE a g sp tk c.1) (pe_one (soundE b g sp tk c.2))) fun σ H Q t => by
        have := tAnd_ev σ H Q t
        rw [g.K] at this; exact this
    · simp only [Bool.and_eq_true] at c
      exact pe_imp (pe_andT (soundE a g sp tk c.1) (soundE b g sp tk c.2)) fun σ H Q t => by
        have := tAnd_ev σ H Q t
        rw [g.K] at this; exact this
    · cases c
  | .or a b, X, W, sc, e, g, sp, tk, c => by
    simp only [chkE] at c
    split at c
    · simp only [Bool.and_eq_true] at c
      exact pe_imp (pe_orT (soundE a g sp tk c.1) (pe_one (soundE b g sp tk c.2))) fun σ H Q t => by
        have := tOr_ev σ H Q t
        rw [g.K] at this; exact this
    · simp only [Bool.and_eq_true] at c
      exact pe_imp (pe_orT (soundE a g sp tk c.1) (soundE b g sp tk c.2)) fun σ H Q t => by
        have := tOr_ev σ H Q t
        rw [g.K] at this; exact this
    · cases c
  | .ite d a b, X, W, sc, e, g, sp, tk, c => by
    simp only [chkE] at c
    split at c
    · simp only [Bool.and_eq_true] at c
      exact pe_imp (pe_ifExp (soundT d g sp tk c.1.1) (soundE a g sp tk c.1.2) (soundE b g sp tk c.2)) tIte_ev
    · cases c
  | .tup es, X, W, sc, e, g, sp, tk, c => by
    simp only [chkE] at c
    split at c
    · exact pe_imp (pe_tup (soundA es g sp tk c)) tTup_ev
    · cases c
  | .lst es, X, W, sc, e, g, sp, tk, c => by
    simp only [chkE] at c
    split at c
    · exact pe_imp (pe_lst (soundA es g sp tk c)) tLst_ev
    · cases c
  | .call f es, X, W, sc, e, g, sp, tk, c => by
    simp only [chkE] at c
    split at c
    · simp only [Bool.and_eq_true, beq_iff_eq] at c
      obtain ⟨⟨⟨⟨⟨⟨c1, c2⟩, c3⟩, c30⟩, c4⟩, cp⟩, c5⟩ := c
      subst c3
      obtain ⟨⟨ps, fd⟩, hf⟩ := Option.isSome_iff_exists.mp c4
      obtain ⟨a, fdt, e1, e2, e3, F⟩ := g.fns f ps fd hf c30
      have c6 := c5
      cases es with
      | nil => simp [chkA] at c6
      | star _ _ => simp [plainX] at cp
      | cons x xs =>
        simp only [chkA, Bool.and_eq_true] at c6
        exact pe_imp (pe_callS F (g.room.mono (Nat.le_succ _)) (sp.gl _ c1) e1 e2 e3 (fun σ => passAt tk σ) (soundA _ g sp tk c5) (okNm_dbg c2).1 (starEach_cons c6.1.1) (noStars (by simpa [plainX] using cp) c6.2).1) tCall_ev
    · cases c
  | .make d f es, X, W, sc, e, g, sp, tk, c => by
    simp only [chkE] at c
    split at c
    · simp only [Bool.and_eq_true, beq_iff_eq] at c
      obtain ⟨⟨⟨⟨⟨⟨c1, c2⟩, c3⟩, c30⟩, c4⟩, cp⟩, c5⟩ := c
      subst c3
      obtain ⟨⟨ps, fd⟩, hf⟩ := Option.isSome_iff_exists.mp c4
      obtain ⟨D, a, fdt, e1, e2, e3, F⟩ := g.mks d f ps fd hf c30
      have c6 := c5
      cases es with
      | nil => simp [chkA] at c6
      | star _ _ => simp [plainX] at cp
      | cons x xs =>
        simp only [chkA, Bool.and_eq_true] at c6
        exact pe_imp (pe_make (E := fun _ _ _ => False) e2 F g.room (sp.gl _ c1) e1 e3 .nil pass_no (soundA _ g sp tk c5) (okNm_dbg c2).1 (starEach_cons c6.1.1) (noStars (by simpa [plainX] using cp) c6.2).1) (tMake_ev g e1)
    · cases c
  | .blt b es, X, W, sc, e, g, sp, tk, c => by
    simp only [chkE] at c
    split at c
    · simp only [Bool.and_eq_true, beq_iff_eq] at c
      obtain ⟨⟨⟨⟨c1, c2⟩, c3⟩, cp⟩, c5⟩ := c
      subst c2
      have c6 := c5
      cases es with
      | nil => simp [chkA] at c6
      | star _ _ => simp [plainX] at cp
      | cons x xs =>
        simp only [chkA, Bool.and_eq_true] at c6
        have nm := bi_nm b
        have cz := call_Z (b := b) g.K g.w g.calm
        rcases bi_boot b with ⟨id, e1, e2⟩ | ⟨T, e1, e2⟩
        · rw [e2] at cz
          exact pe_imp (pe_callB cz (sp.gl _ c1) (g.blt _ c3) e1 (soundA _ g sp tk c5) nm.1 nm.2 (starEach_cons c6.1.1) (noStars (by simpa [plainX] using cp) c6.2).1) tBlt_ev
        · rw [e2] at cz
          exact pe_imp (pe_callTy cz (sp.gl _ c1) (g.blt _ c3) e1 (soundA _ g sp tk c5) nm.1 nm.2 (starEach_cons c6.1.1) (noStars (by simpa [plainX] using cp) c6.2).1) tBlt_ev
    · cases c
  | .meth m o es, X, W, sc, e, g, sp, tk, c => by
    simp only [chkE] at c
    split at c
    · simp only [Bool.and_eq_true, decide_eq_true_eq] at c
      obtain ⟨⟨⟨⟨⟨⟨c1, c2⟩, c3⟩, c4⟩, c5⟩, cp⟩, c6⟩ := c
      have c7 := c6
      cases es with
      | nil => simp [chkA] at c7
      | star _ _ => simp [plainX] at cp
      | cons x xs =>
        simp only [chkA, Bool.and_eq_true] at c7
        cases m with
        | append =>
          have e1 := beq_iff_eq.mp c1
          subst e1
          exact pe_imp (pe_bm PySem.F.plainAttrs_list PySem.F.slot_list_append PySem.F.type_list_append mt_app (soundE o g sp tk c5) (soundA _ g sp tk c6) (noSuper_base c2) (by simp only [Bool.and_eq_true, decide_eq_true_eq]; exact ⟨⟨(noStars cp c6).2, rfl⟩, c4⟩) c3 (starEach_cons c7.1.1) (noStars (by simpa [plainX] using cp) c7.2).1) tMeth_ev
        | extend =>
          have e1 := beq_iff_eq.mp c1
          subst e1
          exact pe_imp (pe_bm PySem.F.plainAttrs_list PySem.F.slot_list_extend PySem.F.type_list_extend mt_ext (soundE o g sp tk c5) (soundA _ g sp tk c6) (noSuper_base c2) (by simp only [Bool.and_eq_true, decide_eq_true_eq]; exact ⟨⟨(noStars cp c6).2, rfl⟩, c4⟩) c3 (starEach_cons c7.1.1) (noStars (by simpa [plainX] using cp) c7.2).1) tMeth_ev
    · cases c
  | .sub o i, X, W, sc, e, g, sp, tk, c => by
    simp only [chkE] at c
    split at c
    · simp only [Bool.and_eq_true] at c
      exact pe_imp (pe_ix (ix_subZ g.K g.P g.w g.room.units) (soundE o g sp tk c.1.2) (soundE i g sp tk c.2) (noSlice_plain c.1.1)) fun σ H Q t => tOp_ev σ H Q (by rw [evE_sub] at t; exact t)
    · cases c
  | .slc o lo hi, X, W, sc, e, g, sp, tk, c => by
    simp only [chkE] at c
    split at c
    · simp only [Bool.and_eq_true] at c
      exact pe_imp (pe_slice (sl_Z g.K) (soundE o g sp tk c.1.1) (soundO lo g sp tk c.1.2) (soundO hi g sp tk c.2)) tSlc_ev
    · cases c
  | .attr o f, X, W, sc, e, g, sp, tk, c => by
    simp only [chkE] at c
    split at c
    · simp only [Bool.and_eq_true, beq_iff_eq] at c
      obtain ⟨⟨c1, c2⟩, c3⟩ := c
      subst c1
      exact pe_imp (pe_attrZ g (soundE o g sp tk c3) (noSuper_base c2)) fun σ H Q t => by rw [evE_attr] at t; exact t
    · cases c
  | .lc elt tg it ifs own, X, W, sc, e, g, sp, tk, c => by
    simp only [chkE] at c
    split at c
    · simp only [Bool.and_eq_true, beq_iff_eq] at c
      obtain ⟨⟨⟨⟨⟨⟨⟨c1, c2⟩, c3⟩, c4⟩, c5⟩, c6⟩, c7⟩, c8⟩ := c
      have ok0 := blkOk_by c2
      have ok : BlkOk X.N X.env.scope _ (ownOf X.N own) := ⟨ok0.kind, ok0.uniq, ok0.ix, fun y hy e => sp.cf y.1 (ok0.free y hy e), ok0.own⟩
      have gB := fun (s : Shared) (H : Hp) (A : Addr) (cl : List (Str × Addr)) (fp : List Addr) => g.blk (s := s) (H := H) (cl := cl) (A := A) (fp := fp) ok.kind
      have hs : ∀ i, i ∈ slotsT tg → i ∈ own := fun i hi => by
        have := List.all_eq_true.mp c5 i hi
        simpa using this
      refine pe_imp (t := tLc (iEv G W (evI C it)) (gEv G tg) (tEvT G W0 (evT1 C ifs)) (tEv G W0 (evE C elt)) own) ?_ fun σ H Q t => tLc_ev hs σ H Q (by rw [evE_lc] at t; exact t)
      rw [← c3]
      refine pe_lc g.calm g.nd (soundI it g sp tk c1) ok (fun s H A cl fp => soundG tg g.K g.nd g.calm .blk c4) (fun s H A cl fp => ?_) (fun s H A cl fp => soundE elt (gB s H A cl fp) .blk takes0 c8) (foldedSet c6)
      split at c7
      · split at c7
        · refine ⟨fun pins s σ H Q I q => pts_nil.run pins s σ H Q I ?_⟩
          obtain ⟨φ, l, h, rh, rl, p⟩ := q
          unfold evT1 at p
          exact p φ H .refl rh
        · cases c7
      · simp only [Bool.and_eq_true] at c7
        cases ifs with
        | no => simp at c7
        | yes cd =>
          simp only [chkOp] at c7
          have := pts_one (soundT cd (gB s H A cl fp) .blk (takes0 (X := X.blk s H _ (compEnvC _ cl A X.env) fp)) c7.2)
          refine ⟨fun pins s σ H Q I q => this.run pins s σ H Q I ?_⟩
          obtain ⟨φ, l, h, rh, rl, p⟩ := q
          unfold evT1 at p
          exact ⟨φ, l, h, rh, rl, p⟩
      · cases c7
    · cases c
  | .dic0, X, W, sc, e, g, sp, tk, c => by
    simp only [chkE] at c
    split at c
    · refine pe_imp pe_dnewK fun σ H Q t => ?_
      obtain ⟨φ, l, h, rh, rl, p⟩ := t
      unfold evE at p
      exact new_dic rh p
    · cases c
theorem soundT : ∀ (ir : Ex) {X : Cx} {W : WX} {sc : Scope} {e : Expr}, Glob S G C k X → Scp sc.names X → Takes X W → chkE S X.N sc ir e = true → PT X e (tEvT G W fun l h => truthR (evE C ir l h))
  | .not a, X, W, sc, e, g, sp, tk, c => by
    simp only [chkE] at c
    split at c
    · exact pt_imp (pt_not (soundT a g sp tk c)) ttNot_ev
    · cases c
  | .cmp op a b, X, W, sc, e, g, sp, tk, c => by
    simp only [chkE] at c
    split at c
    · simp only [Bool.and_eq_true, Bool.not_eq_true'] at c
      refine pt_imp (pt_cmpR (cop_ok g c.1.1.1) (soundE a g sp tk c.1.2) (soundE b g sp tk c.2) c.1.1.2) fun σ H Q t => ?_
      have z := tTest_ev (f := evE C (.cmp op a b)) (fun l h d h' e => cmp_bl l h d h' (by unfold evE at e; exact e)) σ H Q t
      exact tOp_ev (W := W) (F := cmpF op) σ H _ (by rw [evE_cmp] at z; exact z)
    · cases c
  | .chn op p a b d, X, W, sc, e, g, sp, tk, c => by
    simp only [chkE] at c
    split at c
    · simp only [Bool.and_eq_true, Bool.not_eq_true'] at c
      refine pt_imp (pt_chain (cop_ok g c.1.1.1.1.1) (cop_ok g c.1.1.1.1.2) (soundE a g sp tk c.1.1.2) (soundE b g sp tk c.1.2) (soundE d g sp tk c.2) c.1.1.1.2) fun σ H Q t => ?_
      exact tChn_ev σ H _ (tTest_ev chn_bl σ H Q t)
    · cases c
  | .and a b, X, W, sc, e, g, sp, tk, c => by
    simp only [chkE] at c
    split at c
    · simp only [Bool.and_eq_true] at c
      exact pt_imp (pw_and (soundT a g sp tk c.1) (pw_and1 (soundT b g sp tk c.2))).pt ttAnd_ev
    · simp only [Bool.and_eq_true] at c
      exact pt_imp (pw_and (soundT a g sp tk c.1) (pw_of_pt (soundT b g sp tk c.2))).pt ttAnd_ev
    · cases c
  | .or a b, X, W, sc, e, g, sp, tk, c => by
    simp only [chkE] at c
    split at c
    · simp only [Bool.and_eq_true] at c
      exact pt_imp (pw_or (soundT a g sp tk c.1) (pw_or1 (soundT b g sp tk c.2))).pt ttOr_ev
    · simp only [Bool.and_eq_true] at c
      exact pt_imp (pw_or (soundT a g sp tk c.1) (pw_of_pt (soundT b g sp tk c.2))).pt ttOr_ev
    · cases c
  | .ite d a b, X, W, sc, e, g, sp, tk, c => by
    simp only [chkE] at c
    split at c
    · simp only [Bool.and_eq_true] at c
      exact pt_imp (pt_ifExp (soundT d g sp tk c.1.1) (soundT a g sp tk c.1.2) (soundT b g sp tk c.2)) ttIte_ev
    · cases c
  | .loc i, X, W, sc, e, g, sp, tk, c => by
    have h := soundE (.loc i) g sp tk c
    simp only [chkE] at c
    split at c
    · exact pt_pl g.K h rfl
    · cases c
  | .con d, X, W, sc, e, g, sp, tk, c => by
    have h := soundE (.con d) g sp tk c
    simp only [chkE] at c
    split at c
    · exact pt_pl g.K h rfl
    · exact pt_pl g.K h rfl
    · cases c
  | .bin op a b, X, W, sc, e, g, sp, tk, c => by
    have h := soundE (.bin op a b) g sp tk c
    simp only [chkE] at c
    split at c
    · exact pt_pl g.K h rfl
    · cases c
  | .neg a, X, W, sc, e, g, sp, tk, c => by
    have h := soundE (.neg a) g sp tk c
    simp only [chkE] at c
    split at c
    · exact pt_pl g.K h rfl
    · cases c
  | .tup es, X, W, sc, e, g, sp, tk, c => by
    have h := soundE (.tup es) g sp tk c
    simp only [chkE] at c
    split at c
    · exact pt_pl g.K h rfl
    · cases c
  | .lst es, X, W, sc, e, g, sp, tk, c => by
    have h := soundE (.lst es) g sp tk c
    simp only [chkE] at c
    split at c
    · exact pt_pl g.K h rfl
    · cases c
  | .call f es, X, W, sc, e, g, sp, tk, c => by
    have h := soundE (.call f es) g sp tk c
    simp only [chkE] at c
    split at c
    · exact pt_pl g.K h rfl
    · cases c
  | .make d f es, X, W, sc, e, g, sp, tk, c => by
    have h := soundE (.make d f es) g sp tk c
    simp only [chkE] at c
    split at c
    · exact pt_pl g.K h rfl
    · cases c
  | .blt b es, X, W, sc, e, g, sp, tk, c => by
    have h := soundE (.blt b es) g sp tk c
    simp only [chkE] at c
    split at c
    · exact pt_pl g.K h rfl
    · cases c
  | .meth m o es, X, W, sc, e, g, sp, tk, c => by
    have h := soundE (.meth m o es) g sp tk c
    simp only [chkE] at c
    split at c
    · exact pt_pl g.K h rfl
    · cases c
  | .sub o i, X, W, sc, e, g, sp, tk, c => by
    have h := soundE (.sub o i) g sp tk c
    simp only [chkE] at c
    split at c
    · exact pt_pl g.K h rfl
    · cases c
  | .slc o lo hi, X, W, sc, e, g, sp, tk, c => by
    have h := soundE (.slc o lo hi) g sp tk c
    simp only [chkE] at c
    split at c
    · exact pt_pl g.K h rfl
    · cases c
  | .attr o f, X, W, sc, e, g, sp, tk, c => by
    have h := soundE (.attr o f) g sp tk c
    simp only [chkE] at c
    split at c
    · exact pt_pl g.K h rfl
    · cases c
  | .lc elt tg it ifs own, X, W, sc, e, g, sp, tk, c => by
    have h := soundE (.lc elt tg it ifs own) g sp tk c
    simp only [chkE] at c
    split at c
    · exact pt_pl g.K h rfl
    · cases c
  | .dic0, X, W, sc, e, g, sp, tk, c => by
    have h := soundE .dic0 g sp tk c
    simp only [chkE] at c
    split at c
    · exact pt_pl g.K h rfl
    · cases c
theorem soundA : ∀ (ir : Exs) {X : Cx} {W : WX} {sc : Scope} {es : List Expr}, Glob S G C k X → Scp sc.names X → Takes X W → chkA S X.N sc ir es = true → PA X es (tEvA G W (evA C ir))
  | .nil, X, W, sc, es, g, sp, tk, c => by
    cases es with
    | cons _ _ => simp [chkA] at c
    | nil => exact pa_imp pa_nil fun σ H Q t => tNil_ev (G := G) (W := W) σ H Q (by rw [evA_nil] at t; exact t)
  | .cons e r, X, W, sc, es, g, sp, tk, c => by
    cases es with
    | nil => simp [chkA] at c
    | cons x xs =>
      simp only [chkA, Bool.and_eq_true] at c
      exact pa_imp (pa_cons (soundE e g sp tk c.1.2) (soundA r g sp tk c.2) (starEach_cons c.1.1)) fun σ H Q t => tCons_ev σ H Q (by rw [evA_cons] at t; exact t)
  | .star e r, X, W, sc, es, g, sp, tk, c => by
    simp only [chkA] at c
    split at c
    · simp only [Bool.and_eq_true] at c
      exact pa_imp (StX.pa_star (soundE e g sp tk c.1) (soundA r g sp tk c.2) rfl) fun σ H Q t => by
        have := tStar_ev (e := e) (r := r) σ H Q t
        rw [g.K] at this; exact this
    · cases c
theorem soundO : ∀ (ir : Op) {X : Cx} {W : WX} {sc : Scope} {o : Option Expr}, Glob S G C k X → Scp sc.names X → Takes X W → chkOp S X.N sc ir o = true → PO X o (tEvO G W (evOp C ir))
  | .no, X, W, sc, o, g, sp, tk, c => by
    cases o with
    | some _ => simp [chkOp] at c
    | none => exact ⟨fun pins s σ H Q I q => po_none.run pins s σ H Q I (tNoPart_ev σ H Q q)⟩
  | .yes e, X, W, sc, o, g, sp, tk, c => by
    cases o with
    | none => simp [chkOp] at c
    | some x =>
      simp only [chkOp] at c
      exact ⟨fun pins s σ H Q I q => (po_some (soundE e g sp tk c)).run pins s σ H Q I (tPart_ev σ H Q q)⟩
theorem soundI : ∀ (ir : Itr) {X : Cx} {W : WX} {sc : Scope} {tg e : Expr}, Glob S G C k X → Scp sc.names X → Takes X W → chkI S X.N sc ir tg e = true → PI X tg e (iEv G W (evI C ir))
  | .val v, X, W, sc, tg, e, g, sp, tk, c => by
    simp only [chkI] at c
    have h := pi_valZ (tg := tg) g.K (soundE v g sp tk c)
    exact ⟨fun pins s σ H R' I q => h.run pins s σ H R' I (by rw [evI_val] at q; exact q)⟩
  | .rng1 v, X, W, sc, tg, e, g, sp, tk, c => by
    simp only [chkI] at c
    split at c
    · simp only [Bool.and_eq_true, beq_iff_eq] at c
      obtain ⟨⟨⟨⟨c1, c2⟩, c3⟩, c4⟩, c5⟩ := c
      subst c2
      rename_i _ p1 _ p2
      have h := pi_range1 (tg := tg) (p := p1) (pos := p2) (sp.gl _ c1) (g.blt _ c3) (pa_cons (soundE v g sp tk c5) (pa_imp pa_nil (tNil_ev (G := G) (W := W))) (starEach_cons c4)) (starEach_cons c4)
      exact ⟨fun pins s σ H R' I q => h.run pins s σ H R' I (by
        obtain ⟨φ, l, h0, rh, rl, p⟩ := iRng1_ev σ H R' q
        exact tCons_ev σ H _ ⟨φ, l, h0, rh, rl, p⟩)⟩
    · cases c
  | .rng2 a b, X, W, sc, tg, e, g, sp, tk, c => by
    simp only [chkI] at c
    split at c
    · simp only [Bool.and_eq_true, beq_iff_eq] at c
      obtain ⟨⟨⟨⟨⟨⟨c1, c2⟩, c3⟩, c4⟩, c5⟩, c6⟩, c7⟩ := c
      subst c2
      have pn := pa_cons (soundE b g sp tk c7) (pa_imp pa_nil (tNil_ev (G := G) (W := W))) (starEach_cons c5)
      have pn2 := pa_imp pn (t' := tEvA G W (evCons (evE C b) evNil)) (fun σ H Q t => tCons_ev σ H Q t)
      rename_i _ p1 _ _ p2
      have h := pi_range2 (tg := tg) (p := p1) (pos := p2) (sp.gl _ c1) (g.blt _ c3) (pa_cons (soundE a g sp tk c6) pn2 (starEach_cons c4)) (by rw [starEach_cons c4, starEach_cons c5]; rfl) (starEach_cons c5)
      exact ⟨fun pins s σ H R' I q => h.run pins s σ H R' I (by
        obtain ⟨φ, l, h0, rh, rl, p⟩ := iRng2_ev σ H R' q
        exact tCons_ev σ H _ ⟨φ, l, h0, rh, rl, p⟩)⟩
    · cases c
  | .enm _, X, W, sc, tg, e, g, sp, tk, c => by simp [chkI] at c
  | .zp _ _, X, W, sc, tg, e, g, sp, tk, c => by simp [chkI] at c
end
end
end Zed
end
section
set_option Elab.async false
set_option linter.all false
set_option maxRecDepth 100000
set_option maxHeartbeats 4000000
namespace Zed
open PySem L2
section
variable {S : Sg} {G : Gc} {C : Orc} {k : Nat} {φ φ' : List Addr} {h h' : PHeap} {H H' : Hp} {l : Loc} {σ : St}
def PostS (G : Gc) (φ : List Addr) (H : Hp) (r : RS) (D : Ends) (W : WX) : Prop :=
  match r with
  | .nx l' h' => ∀ φ' H' σ', Ext φ H φ' H' → RelH G φ' h' H' → RepL G φ' H' l' σ' → D.nx σ' H'
  | .rt d h' => ∀ φ' H' v, Ext φ H φ' H' → RelH G φ' h' H' → RepV G φ' H' d v → D.rt v H'
  | .bk l' h' => ∀ φ' H' σ', Ext φ H φ' H' → RelH G φ' h' H' → RepL G φ' H' l' σ' → D.bk σ' H'
  | .ct l' h' => ∀ φ' H' σ', Ext φ H φ' H' → RelH G φ' h' H' → RepL G φ' H' l' σ' → D.ct σ' H'
  | .exc c fs l' h' => ∀ φ' H' σ' cls dd, Ext φ H φ' H' → RelH G φ' h' H' → RepL G φ' H' l' σ' → RepX G φ' H' c fs cls dd → W cls dd σ' H'
  | .stuck => False
def tEvS (G : Gc) (W : WX) (f : Loc → PHeap → RS) : TS := fun D σ H => ∃ φ l h, RelH G φ h H ∧ RepL G φ H l σ ∧ PostS G φ H (f l h) D W
theorem PostS.ext {φ1 : List Addr} {H1 : Hp} {r : RS} {D : Ends} {W : WX} (x : Ext φ H φ1 H1) (p : PostS G φ H r D W) : PostS G φ1 H1 r D W := by
  cases r with
  | nx l' h' => exact fun φ' H' v x1 rh rv => p φ' H' v (x.trans x1) rh rv
  | rt l' h' => exact fun φ' H' v x1 rh rv => p φ' H' v (x.trans x1) rh rv
  | bk l' h' => exact fun φ' H' v x1 rh rv => p φ' H' v (x.trans x1) rh rv
  | ct l' h' => exact fun φ' H' v x1 rh rv => p φ' H' v (x.trans x1) rh rv
  | exc c fs l' h' => exact fun φ' H' s cls dd x1 rh rl rx => p φ' H' s cls dd (x.trans x1) rh rl rx
  | stuck => exact p
/-- an expression, then a statement's rest -/
theorem Post.toS {W : WX} {r : R PV} {kk : PV → PHeap → RS} {D : Ends} (rh : RelH G φ h H) (rl : RepL G φ H l σ) (p : PostS G φ H (r.toS l kk) D W) :
    Post G φ H r (fun v H1 => ∃ φ1 h1 d1, Ext φ H φ1 H1 ∧ RelH G φ1 h1 H1 ∧ RepV G φ1 H1 d1 v ∧ RepL G φ1 H1 l σ ∧ PostS G φ1 H1 (kk d1 h1) D W) (fun c d H' => W c d σ H') := by
  cases r with
  | ok d h' => exact fun φ' H' v x rh' rv => ⟨φ', h', d, x, rh', rv, repL_ext rh x rl, PostS.ext x p⟩
  | exc c fs h' => exact fun φ' H' cls dd x rh' rx => p φ' H' σ cls dd x rh' (repL_ext rh x rl) rx
  | stuck => exact p
theorem PostT.toS {W : WX} {r : R Bool} {kk : Bool → PHeap → RS} {D : Ends} (rh : RelH G φ h H) (rl : RepL G φ H l σ) (p : PostS G φ H (r.toS l kk) D W) :
    PostT G φ H r (fun b H1 => ∃ φ1 h1, Ext φ H φ1 H1 ∧ RelH G φ1 h1 H1 ∧ RepL G φ1 H1 l σ ∧ PostS G φ1 H1 (kk b h1) D W) (fun c d H' => W c d σ H') := by
  cases r with
  | ok d h' => exact fun φ' H' x rh' => ⟨φ', h', x, rh', repL_ext rh x rl, PostS.ext x p⟩
  | exc c fs h' => exact fun φ' H' cls dd x rh' rx => p φ' H' σ cls dd x rh' (repL_ext rh x rl) rx
  | stuck => exact p
theorem PostI.toS {W : WX} {r : R Src} {kk : Src → PHeap → RS} {D : Ends} (rh : RelH G φ h H) (rl : RepL G φ H l σ) (p : PostS G φ H (r.toS l kk) D W) :
    PostI G φ H r (fun J H1 => ∃ φ1 h1 src, Ext φ H φ1 H1 ∧ RelH G φ1 h1 H1 ∧ ItOk G φ1 H1 src J ∧ RepL G φ1 H1 l σ ∧ PostS G φ1 H1 (kk src h1) D W) (fun c d H' => W c d σ H') := by
  cases r with
  | ok d h' => exact fun φ' H' J x rh' hj => ⟨φ', h', d, x, rh', hj, repL_ext rh x rl, PostS.ext x p⟩
  | exc c fs h' => exact fun φ' H' cls dd x rh' rx => p φ' H' σ cls dd x rh' (repL_ext rh x rl) rx
  | stuck => exact p
theorem tDrop_ev {W : WX} {e : Ex} (D : Ends) (σ : St) (H : Hp) (t : tEvS G W (exS C (.ex e)) D σ H) : tDrop (tEv G W (evE C e)) D σ H := by
  obtain ⟨φ, l, h, rh, rl, p⟩ := t
  unfold exS at p
  refine ⟨φ, l, h, rh, rl, Post.mono (Post.toS rh rl p) fun v H1 ⟨φ1, h1, d1, x1, rh1, rv1, rl1, p1⟩ => p1 φ1 H1 σ .refl rh1 rl1⟩
theorem tRet_ev {W : WX} {e : Ex} (D : Ends) (σ : St) (H : Hp) (t : tEvS G W (exS C (.ret e)) D σ H) : tRet (tEv G W (evE C e)) D σ H := by
  obtain ⟨φ, l, h, rh, rl, p⟩ := t
  unfold exS at p
  refine ⟨φ, l, h, rh, rl, Post.mono (Post.toS rh rl p) fun v H1 ⟨φ1, h1, d1, x1, rh1, rv1, rl1, p1⟩ => p1 φ1 H1 v .refl rh1 rv1⟩
theorem tRetN_ev {W : WX} (D : Ends) (σ : St) (H : Hp) (t : tEvS G W (exS C .ret0) D σ H) : tRetN D σ H := by
  obtain ⟨φ, l, h, rh, rl, p⟩ := t
  unfold exS at p
  exact p φ H _ .refl rh .non
theorem asg_bind {W : WX} {t : Tg} {v : V} {d : PV} {D : Ends} (rh : RelH G φ h H) (rl : RepL G φ H l σ) (rv : RepV G φ H d v)
    (p : PostS G φ H (match bindT t d l with | some l1 => .nx l1 h | none => .stuck) D W) : gEv G t v σ H D.nx := by
  cases z : bindT t d l with
  | none => rw [z] at p; exact p.elim
  | some l1 => rw [z] at p; exact ⟨φ, h, l, d, l1, rh, rl, rv, z, fun σ' rl' _ => p φ H σ' .refl rh rl'⟩
theorem tAsg_ev {W : WX} {t : Tg} {e : Ex} (D : Ends) (σ : St) (H : Hp) (q : tEvS G W (exS C (.asg t e)) D σ H) : tAsg (tEv G W (evE C e)) (gEv G t) D σ H := by
  obtain ⟨φ, l, h, rh, rl, p⟩ := q
  unfold exS at p
  refine ⟨φ, l, h, rh, rl, Post.mono (Post.toS rh rl p) fun v H1 ⟨φ1, h1, d1, x1, rh1, rv1, rl1, p1⟩ => ?_⟩
  refine asg_bind (W := W) (h := h1) rh1 rl1 rv1 ?_
  cases z : bindT t d1 l with
  | none => rw [z] at p1; exact p1
  | some l1 => rw [z] at p1; exact p1
theorem tIff_ev {W : WX} {c : Ex} {a b : Sxs} (D : Ends) (σ : St) (H : Hp) (q : tEvS G W (exS C (.iff c a b)) D σ H) : tIfS (tEvT G W fun l h => truthR (evE C c l h)) (tEvS G W (exSs C a)) (tEvS G W (exSs C b)) D σ H := by
  obtain ⟨φ, l, h, rh, rl, p⟩ := q
  unfold exS at p
  refine ⟨φ, l, h, rh, rl, PostT.mono (PostT.toS rh rl p) fun k H1 ⟨φ1, h1, x1, rh1, rl1, p1⟩ => ?_⟩
  cases k with
  | true => rw [if_pos rfl]; exact ⟨φ1, l, h1, rh1, rl1, p1⟩
  | false => rw [if_neg Bool.false_ne_true]; exact ⟨φ1, l, h1, rh1, rl1, p1⟩
theorem tSeq_ev {W : WX} {s : Sx} {r : Sxs} (D : Ends) (σ : St) (H : Hp) (q : tEvS G W (exSs C (.cons s r)) D σ H) : tSeq (tEvS G W (exS C s)) (tEvS G W (exSs C r)) D σ H := by
  obtain ⟨φ, l, h, rh, rl, p⟩ := q
  unfold exSs at p
  refine ⟨φ, l, h, rh, rl, ?_⟩
  cases z : exS C s l h with
  | nx l1 h1 =>
    rw [z] at p
    exact fun φ' H' σ' x rh' rl' => ⟨φ', l1, h1, rh', rl', PostS.ext x p⟩
  | rt d h1 => rw [z] at p; exact p
  | bk l1 h1 => rw [z] at p; exact p
  | ct l1 h1 => rw [z] at p; exact p
  | exc c fs l1 h1 => rw [z] at p; exact p
  | stuck => rw [z] at p; exact p
theorem tNext_ev {W : WX} (D : Ends) (σ : St) (H : Hp) (q : tEvS G W (exSs C .nil) D σ H) : tNext D σ H := by
  obtain ⟨φ, l, h, rh, rl, p⟩ := q
  unfold exSs at p
  exact p φ H σ .refl rh rl
/-- a for: the loop from turn i on, by the fuel that is left -/
theorem tFor_ev {W : WX} {tg : Tg} {fi : Loc → PHeap → R Src} {fb : Loc → PHeap → RS} (D : Ends) (σ : St) (H : Hp)
    (q : tEvS G W (fun l h => (fi l h).toS l fun src h1 => forLoop tg src fb (srcLen h1 src + 1) 0 l h1) D σ H) : tFor (iEv G W fi) (gEv G tg) (tEvS G W fb) D σ H := by
  obtain ⟨φ, l, h, rh, rl, p⟩ := q
  refine ⟨φ, l, h, rh, rl, ?_⟩
  have p : PostS G φ H ((fi l h).toS l fun src h1 => forLoop tg src fb (srcLen h1 src + 1) 0 l h1) D W := p
  cases ei : fi l h with
  | stuck => rw [ei] at p; exact p.elim
  | exc c fs h' => rw [ei] at p; exact fun φ' H' cls dd x rh' rx => p φ' H' σ cls dd x rh' (repL_ext rh x rl) rx
  | ok src h1 =>
    intro φ1 H1 J x1 rh1 hj
    have p : PostS G φ H (forLoop tg src fb (srcLen h1 src + 1) 0 l h1) D W := by
      rw [ei] at p; exact p
    refine ⟨fun i m σ' H' => ∃ φ' l' h', Ext φ1 H1 φ' H' ∧ RelH G φ' h' H' ∧ RepL G φ' H' l' σ' ∧ PostS G φ' H' (forLoop tg src fb m i l' h') D W,
      ⟨srcLen h1 src + 1, φ1, l, h1, .refl, rh1, repL_ext rh x1 rl, PostS.ext x1 p⟩, ?_⟩
    rintro i m σ2 H2 ⟨φ2, l2, h2, x2, rh2, rl2, p2⟩
    cases m with
    | zero => simp only [forLoop] at p2; exact p2.elim
    | succ m =>
      unfold forLoop at p2
      have J2 := hj φ2 h2 H2 x2 rh2 i
      cases es : srcAt h2 i src with
      | none => rw [es] at p2; exact p2.elim
      | some so =>
        rw [es] at p2
        cases so with
        | none => exact .inl ⟨J2.1 es, p2 φ2 H2 σ2 .refl rh2 rl2⟩
        | some d =>
          refine .inr ⟨(J2.2 d es).1, _, fun σ' H' hn => ⟨m, Nat.lt_succ_self _, hn⟩, fun x H3 hy => ?_⟩
          obtain ⟨x3, rh3, rx⟩ := (J2.2 d es).2 x H3 hy
          simp only at p2
          cases eb : bindT tg d l2 with
          | none => rw [eb] at p2; exact p2.elim
          | some l3 =>
            rw [eb] at p2
            simp only at p2
            refine ⟨φ2, h2, l2, d, l3, rh3, repL_ext rh2 x3 rl2, rx, eb, fun σ3 rl3 _ => ⟨φ2, l3, h2, rh3, rl3, ?_⟩⟩
            cases ez : fb l3 h2 with
            | nx l4 h4 =>
              rw [ez] at p2
              exact fun φ' H' σ' x rh' rl' => ⟨φ', l4, h4, x2.trans (x3.trans x), rh', rl', PostS.ext (x3.trans x) p2⟩
            | ct l4 h4 =>
              rw [ez] at p2
              exact fun φ' H' σ' x rh' rl' => ⟨φ', l4, h4, x2.trans (x3.trans x), rh', rl', PostS.ext (x3.trans x) p2⟩
            | bk l4 h4 => rw [ez] at p2; exact fun φ' H' σ' x rh' rl' => p2 φ' H' σ' (x3.trans x) rh' rl'
            | rt d4 h4 => rw [ez] at p2; exact fun φ' H' σ' x rh' rl' => p2 φ' H' σ' (x3.trans x) rh' rl'
            | exc c fs l4 h4 => rw [ez] at p2; exact fun φ' H' σ' cls dd x rh' rl' rx => p2 φ' H' σ' cls dd (x3.trans x) rh' rl' rx
            | stuck => rw [ez] at p2; exact p2.elim
theorem tWhl_ev {W : WX} {fc : Loc → PHeap → R Bool} {fb : Loc → PHeap → RS} {n : Nat} (D : Ends) (σ : St) (H : Hp)
    (q : tEvS G W (whlLoop fc fb n) D σ H) : tWhile (tEvT G W fc) (tEvS G W fb) D σ H := by
  obtain ⟨φ, l, h, rh, rl, p⟩ := q
  refine ⟨fun m σ' H' => ∃ φ' l' h', RelH G φ' h' H' ∧ RepL G φ' H' l' σ' ∧ PostS G φ' H' (whlLoop fc fb m l' h') D W, ⟨n, φ, l, h, rh, rl, p⟩, ?_⟩
  rintro m σ2 H2 ⟨φ2, l2, h2, rh2, rl2, p2⟩
  cases m with
  | zero => simp only [whlLoop] at p2; exact p2.elim
  | succ m =>
    unfold whlLoop at p2
    refine ⟨φ2, l2, h2, rh2, rl2, PostT.mono (PostT.toS rh2 rl2 p2) fun b H3 ⟨φ3, h3, x3, rh3, rl3, p3⟩ => ?_⟩
    cases b with
    | false => rw [if_neg Bool.false_ne_true]; exact p3 φ3 H3 σ2 .refl rh3 rl3
    | true =>
      rw [if_pos rfl]
      refine ⟨_, fun σ' H' hn => ⟨m, Nat.lt_succ_self _, hn⟩, φ3, l2, h3, rh3, rl3, ?_⟩
      simp only at p3
      cases ez : fb l2 h3 with
      | nx l4 h4 =>
        rw [ez] at p3
        exact fun φ' H' σ' x rh' rl' => ⟨φ', l4, h4, rh', rl', PostS.ext x p3⟩
      | ct l4 h4 =>
        rw [ez] at p3
        exact fun φ' H' σ' x rh' rl' => ⟨φ', l4, h4, rh', rl', PostS.ext x p3⟩
      | bk l4 h4 => rw [ez] at p3; exact p3
      | rt d4 h4 => rw [ez] at p3; exact p3
      | exc c fs l4 h4 => rw [ez] at p3; exact p3
      | stuck => rw [ez] at p3; exact p3.elim
/-- o[i] = e -/
def rPut (G : Gc) : TSet := fun o i v H Q => ∃ φ h x y z h', RelH G φ h H ∧ RepV G φ H x o ∧ RepV G φ H y i ∧ RepV G φ H z v ∧ putF x y z h = some h' ∧ ∀ φ' H', Ext φ H φ' H' → RelH G φ' h' H' → Q H'
theorem RepVs.set {ds : List PV} {vs : List V} {d : PV} {v : V} : ∀ (j : Nat), RepVs G φ H ds vs → RepV G φ H d v → RepVs G φ H (ds.set j d) (vs.set j v)
  | _, .nil, _ => .nil
  | 0, .cons _ b, r => .cons r b
  | j + 1, .cons a b, r => .cons a (RepVs.set j b r)
theorem set_Z {X : Cx} (hK : G.K = X.K) (hP : G.P = X.prog) (hw : G.w = X.w) (hu : X.A.units + 64 < cLine) : PSet X (rPut G) := by
  intro pins s σ H o i v ov iv u Q I ro ri rv q
  obtain ⟨φ, h, x, y, z, h', rh, r1, r2, r3, e, q⟩ := q
  unfold putF at e
  split at e
  · split at e
    · rename_i ds hx
      split at e
      · obtain ⟨j, e1, e2⟩ := omap e
        cases e2
        cases r1 with
        | ref hr =>
          cases r2
          obtain ⟨vs, e3, q1⟩ := rh.obj _ _ _ hx hr
          refine set_list pins s σ H _ _ v ov iv u Q I ro ri rv ⟨_, _, _, j, rfl, rfl, e3, by rw [← q1.length]; exact e1, ?_⟩
          have x := ext_put (H := H) (u := HO.lst (vs.set j v)) hr
          exact q φ _ x (rh.put hr ⟨_, upd_same, repVs_ext rh x (RepVs.set j q1 r3)⟩)
      · cases e
    · rename_i kvs hx
      obtain ⟨kvs', e1, e2⟩ := omap e
      cases e2
      cases r1 with
      | ref hr =>
        cases ro
        exact dic_put hK hP hw hu I rh hr hx r2 ri r3 rv e1 q
    · cases e
  · cases e
theorem tPut_ev {W : WX} {o i e : Ex} (D : Ends) (σ : St) (H : Hp) (q : tEvS G W (exS C (.put o i e)) D σ H) : tAsg (tEv G W (evE C e)) (gSub (tEv G W (evE C o)) (tEv G W (evE C i)) (rPut G)) D σ H := by
  obtain ⟨φ, l, h, rh, rl, p⟩ := q
  unfold exS at p
  refine ⟨φ, l, h, rh, rl, Post.mono (Post.toS rh rl p) fun v H1 ⟨φ1, h1, d1, x1, rh1, rv1, rl1, p1⟩ => ?_⟩
  refine ⟨φ1, l, h1, rh1, rl1, Post.mono (Post.toS rh1 rl1 p1) fun vo H2 ⟨φ2, h2, d2, x2, rh2, rv2, rl2, p2⟩ => ?_⟩
  refine ⟨φ2, l, h2, rh2, rl2, Post.mono (Post.toS rh2 rl2 p2) fun vi H3 ⟨φ3, h3, d3, x3, rh3, rv3, rl3, p3⟩ => ?_⟩
  cases z : putF d2 d3 d1 h3 with
  | none => rw [z] at p3; exact p3.elim
  | some h4 =>
    rw [z] at p3
    exact ⟨φ3, h3, d2, d3, d1, h4, rh3, repV_ext rh2 x3 rv2, rv3, repV_ext rh2 x3 (repV_ext rh1 x2 rv1), z, fun φ' H' x rh' => p3 φ' H' σ x rh' (repL_ext rh3 x rl3)⟩
/-! ### o.f = e -/
theorem fld_inv {ct : Ct} {x : PV} {f : Nat} {v : PV} {h h' : PHeap} (e : fldF ct x f v h = some h') : ∃ i c fs, x = .ref i ∧ h[i]? = some (.ins c fs) ∧ ownF ct c f = true ∧ fs.length < 900 ∧ h' = h.set i (.ins c (setFl fs f v)) := by
  unfold fldF at e
  split at e
  · rename_i i
    split at e
    · rename_i c fs hx
      split at e
      · rename_i hc
        rw [Bool.and_eq_true] at hc
        cases e
        exact ⟨i, c, fs, rfl, hx, hc.1, of_decide_eq_true hc.2, rfl⟩
      · cases e
    · cases e
  · cases e
theorem ext_slH {C dx : Addr} {vs' : List (Option V)} {a : Addr} {i : Nat} (rh : RelH G φ h H) (hi : φ[i]? = some a) (hdx : dx ≠ a) (hown : H dx = some (.own a) ∨ H dx = some (.xd [])) : Ext φ H φ (SlX.slH H a C dx vs') := by
  have na : ∀ b, b ∉ φ → b ≠ a := fun b nb z => nb (by rw [z]; exact List.mem_of_getElem? hi)
  refine ⟨List.prefix_refl _, fun b hb nb => absurd hb nb, fun b o e nb no => ?_, fun b x e nb => ?_⟩
  · by_cases z : b = dx
    · subst z
      rcases hown with q | q
      · rw [q] at e; cases e; exact absurd rfl (no a)
      · rw [q] at e; cases e
        unfold SlX.slH
        rw [upd_ne (na b nb), upd_same]
    · rw [SlX.slH_ne (na b nb) z]; exact e
  · by_cases z : b = dx
    · subst z
      right
      unfold SlX.slH
      rw [upd_ne (na b nb), upd_same]
    · left
      rw [SlX.slH_ne (na b nb) z]; exact e
theorem RelH.slot {C dx : Addr} {vs' : List (Option V)} {a : Addr} {i : Nat} {o : PObj} (rh : RelH G φ h H) (hi : φ[i]? = some a) (x : Ext φ H φ (SlX.slH H a C dx vs')) (ndx : dx ∉ φ) (ro : RepO G φ (SlX.slH H a C dx vs') a o) : RelH G φ (h.set i o) (SlX.slH H a C dx vs') where
  len := by simp [rh.len]
  nd := rh.nd
  obj := fun j o' b e1 e2 => by
    by_cases hj : j = i
    · subst hj
      rw [hi] at e2; cases e2
      have hl : j < h.length := by
        have := (List.getElem?_eq_some_iff.mp e1).1
        simpa using this
      rw [List.getElem?_set_self hl] at e1
      cases e1
      exact ro
    · rw [List.getElem?_set_ne (Ne.symm hj)] at e1
      have nb : b ≠ a := fun (z : b = a) => by
        subst z
        exact hj (nodup_get rh.nd e2 hi)
      have nb2 : b ≠ dx := fun z => ndx (by rw [← z]; exact List.mem_of_getElem? e2)
      exact repO_ext rh x (SlX.slH_ne nb nb2) (rh.obj j o' b e1 e2)
theorem putS_get {i j : Nat} {y w : V} {vs : List (Option V)} (h : vs[j]? = some (some w)) (ne : j ≠ i) : (SlX.putS i y vs)[j]? = some (some w) := (SlX.putS_ne ne).mpr h
/-- an instance of a class with slots turns -/
theorem fld_slot {X : Cx} (g : Glob S G C k X) (rh : RelH G φ h H) {i c f : Nat} {fs : List (Nat × PV)} {a : Addr} {d : PV} {y : V} (hi : φ[i]? = some a) (hx : h[i]? = some (.ins c fs)) (sl : C.ct.isSl c = true) (ow : ownF C.ct c f = true) (rd : RepV G φ H d y)
    {Q : Hp → Prop} (q : ∀ φ' H', Ext φ H φ' H' → RelH G φ' (h.set i (.ins c (setFl fs f d))) H' → Q H') :
    ∃ D dx p vs j, SlX.Slt H a D dx vs ∧ SlX.SCls X.K D ∧ SlX.Slot1 X.K D (S.nm f) p j ∧ Q (SlX.slH H a D dx (SlX.putS j y vs)) := by
  obtain ⟨D, dx, hD, ⟨z, _⟩ | ⟨z, vs, hs, ⟨hne, hown⟩, qf⟩⟩ := rh.obj _ _ _ hx hi
  · rw [g.sl, sl] at z; cases z
  · have hD' := hD
    rw [g.mg, g.nm] at hD'
    unfold ownF at ow
    rw [sl, if_pos rfl] at ow
    obtain ⟨j, hj⟩ := Option.isSome_iff_exists.mp ow
    obtain ⟨p, s1⟩ := g.sls c f j D hj hD'
    refine ⟨D, dx, p, vs, j, hs, g.scl c D sl hD', s1, ?_⟩
    have ndx : dx ∉ φ := fun hm => by
      obtain ⟨_, o, _, _, ro⟩ := rh.at hm
      obtain ⟨u, eu, _, _, n1, n2⟩ := ro.some
      rcases hown with e | e
      · rw [eu] at e; cases e; exact n1 _ rfl
      · rw [eu] at e; cases e; exact n2 _ rfl
    have x := ext_slH (C := D) (vs' := SlX.putS j y vs) rh hi hne hown
    refine q φ _ x (rh.slot hi x ndx ⟨D, dx, hD, .inr ⟨z, _, SlX.slH_slt hne, ⟨hne, .inr (by unfold SlX.slH; rw [upd_ne hne, upd_same])⟩, fun f' d' hf => ?_⟩⟩)
    rw [lookup_setFl] at hf
    by_cases e : f' = f
    · subst e
      rw [if_pos rfl] at hf
      cases hf
      exact ⟨j, y, by rw [g.slo]; exact hj, SlX.putS_get _ _ _, repV_ext rh x rd⟩
    · rw [if_neg e] at hf
      obtain ⟨j', v', a1, a2, a3⟩ := qf f' d' hf
      have nj : j' ≠ j := fun z => e (g.inj c f' f j (by rw [← g.slo, a1, z]) hj)
      exact ⟨j', v', a1, putS_get a2 nj, repV_ext rh x a3⟩
/-- a plain instance turns -/
theorem fld_plain {X : Cx} (g : Glob S G C k X) (rh : RelH G φ h H) {i c f : Nat} {fs : List (Nat × PV)} {a : Addr} {d : PV} {y : V} (hi : φ[i]? = some a) (hx : h[i]? = some (.ins c fs)) (sl : C.ct.isSl c = false) (ow : ownF C.ct c f = true) (hl : fs.length < 900) (rd : RepV G φ H d y)
    {Q : Hp → Prop} (q : ∀ φ' H', Ext φ H φ' H' → RelH G φ' (h.set i (.ins c (setFl fs f d))) H' → Q H') :
    ∃ D dx ws, H a = some (.ins D dx ws) ∧ Cls X.K D ∧ NoAttr X.K D (S.nm f) ∧ ws.length < 1000 ∧ Q (upd H a (.ins D dx (L2.putF (S.nm f) y ws))) := by
  obtain ⟨D, dx, hD, ⟨z, ws, a0, al, qf, q2⟩ | ⟨z, _⟩⟩ := rh.obj _ _ _ hx hi
  · have hD' := hD
    rw [g.mg, g.nm] at hD'
    unfold ownF at ow
    rw [sl, if_neg Bool.false_ne_true] at ow
    obtain ⟨c1, c2⟩ := g.pcl c f D sl ow hD'
    refine ⟨D, dx, ws, a0, c1, c2, by omega, ?_⟩
    have x := ext_put (H := H) (u := HO.ins D dx (L2.putF (S.nm f) y ws)) hi
    have lp := len_putF (f := S.nm f) (v := y) (fs := ws)
    refine q φ _ x (rh.put hi ⟨D, dx, hD, .inl ⟨z, _, upd_same, ?_, fun f' d' hf => ?_, fun x' v' hv => ?_⟩⟩)
    · cases e : fs.lookup f with
      | none =>
        rw [len_setFl e]
        have := lp.1
        omega
      | some d0 =>
        obtain ⟨_, v0, e1, _⟩ := qf f d0 e
        rw [g.nm] at e1
        rw [lp.2 (by rw [e1]; rfl)]
        exact Nat.le_trans al len_setFl'
    · rw [lookup_setFl] at hf
      rw [g.nm, lookup_putF]
      by_cases e : f' = f
      · subst e
        rw [if_pos rfl] at hf
        cases hf
        exact ⟨by rw [g.fdl]; exact ow, y, by rw [if_pos rfl], repV_ext rh x rd⟩
      · rw [if_neg e] at hf
        obtain ⟨b0, v0, b1, b2⟩ := qf f' d' hf
        have nn : S.nm f' ≠ S.nm f := fun z => e (g.inn c f' f (by rw [← g.fdl]; exact b0) ow z)
        rw [g.nm] at b1
        exact ⟨b0, v0, by rw [if_neg nn]; exact b1, repV_ext rh x b2⟩
    · rw [lookup_putF] at hv
      by_cases e : x' = S.nm f
      · exact ⟨f, by rw [g.nm]; exact e.symm, by rw [lookup_setFl, if_pos rfl]; rfl⟩
      · rw [if_neg e] at hv
        obtain ⟨f0, e1, e2⟩ := q2 x' v' hv
        refine ⟨f0, e1, ?_⟩
        rw [lookup_setFl]
        split
        · rfl
        · exact e2
  · rw [g.sl, sl] at z; cases z
theorem ps_fldZ {X : Cx} {W : WX} {o value : Expr} {n : Nat} {fo fv : Loc → PHeap → R PV} {pos pos' : Pos} (g : Glob S G C k X) (ho : PE X o (tEv G W fo)) (hv : PE X value (tEv G W fv)) (hs : swapsWith value (some (.Attribute o (S.nm n) pos')) pos.line X.env = pure false) :
    PS X (.Assign [.Attribute o (S.nm n) pos'] value pos) (tEvS G W fun l h => (fv l h).toS l fun v h1 => (fo l h1).toS l fun x h2 => match fldF C.ct x n v h2 with | some h3 => .nx l h3 | none => .stuck) := by
  refine ⟨fun pins s σ H D I q => ?_⟩
  obtain ⟨φ, l, h, rh, rl, p⟩ := q
  have p : PostS G φ H ((fv l h).toS l fun v h1 => (fo l h1).toS l fun x h2 => match fldF C.ct x n v h2 with | some h3 => .nx l h3 | none => .stuck) D W := p
  -- which kind of class
  by_cases sl : ∃ v h1 i h2 c fs, fv l h = .ok v h1 ∧ fo l h1 = .ok (.ref i) h2 ∧ h2[i]? = some (.ins c fs) ∧ C.ct.isSl c = true
  · obtain ⟨v0, h10, i0, h20, c0, fs0, ev, eo, ex, sl⟩ := sl
    refine (SlX.ps_sl ho hv hs).run pins s σ H D I ⟨φ, l, h, rh, rl, ?_⟩
    rw [ev] at p ⊢
    intro φ1 H1 y x1 rh1 ry
    have p1 := PostS.ext x1 p
    simp only [R.toS] at p1
    refine ⟨φ1, l, h10, rh1, repL_ext rh x1 rl, ?_⟩
    rw [eo] at p1 ⊢
    intro φ2 H2 xo x2 rh2 rx
    have p2 := PostS.ext x2 p1
    simp only at p2
    cases e : fldF C.ct (.ref i0) n v0 h20 with
    | none => rw [e] at p2; exact p2.elim
    | some h3 =>
      rw [e] at p2
      obtain ⟨i, c, fs, q1, q2, q3, q4, q5⟩ := fld_inv e
      cases q1
      rw [ex] at q2
      cases q2
      subst q5
      cases rx with
      | ref hr =>
        obtain ⟨D', dx, pp, vs, j, a1, a2, a3, a4⟩ := fld_slot g rh2 hr ex sl q3 (repV_ext rh1 x2 ry) (Q := fun H' => D.nx σ H') fun φ' H' x rh' => p2 φ' H' σ x rh' (repL_ext rh2 x (repL_ext rh1 x2 (repL_ext rh x1 rl)))
        exact ⟨_, D', dx, pp, vs, j, rfl, a1, a2, a3, a4⟩
  · refine (ps_fld ho hv hs).run pins s σ H D I ⟨φ, l, h, rh, rl, ?_⟩
    cases ev : fv l h with
    | stuck => rw [ev] at p; exact p.elim
    | exc c fs h' => rw [ev] at p; exact fun φ' H' cls dd x rh' rx => p φ' H' σ cls dd x rh' (repL_ext rh x rl) rx
    | ok v0 h10 =>
      rw [ev] at p
      intro φ1 H1 y x1 rh1 ry
      have p1 := PostS.ext x1 p
      simp only [R.toS] at p1
      have rl1 := repL_ext rh x1 rl
      refine ⟨φ1, l, h10, rh1, rl1, ?_⟩
      cases eo : fo l h10 with
      | stuck => rw [eo] at p1; exact p1.elim
      | exc c fs h' => rw [eo] at p1; exact fun φ' H' cls dd x rh' rx => p1 φ' H' σ cls dd x rh' (repL_ext rh1 x rl1) rx
      | ok x0 h20 =>
        rw [eo] at p1
        intro φ2 H2 xo x2 rh2 rx
        have p2 := PostS.ext x2 p1
        simp only at p2
        cases e : fldF C.ct x0 n v0 h20 with
        | none => rw [e] at p2; exact p2.elim
        | some h3 =>
          rw [e] at p2
          obtain ⟨i, c, fs, q1, q2, q3, q4, q5⟩ := fld_inv e
          subst q1
          subst q5
          have nsl : C.ct.isSl c = false := by
            cases zz : C.ct.isSl c with
            | false => rfl
            | true => exact absurd ⟨v0, h10, i, h20, c, fs, ev, eo, q2, zz⟩ sl
          cases rx with
          | ref hr =>
            obtain ⟨D', dx, ws, a1, a2, a3, a4, a5⟩ := fld_plain g rh2 hr q2 nsl q3 q4 (repV_ext rh1 x2 ry) (Q := fun H' => D.nx σ H') fun φ' H' x rh' => p2 φ' H' σ x rh' (repL_ext rh2 x (repL_ext rh1 x2 rl1))
            exact ⟨_, D', dx, ws, rfl, a1, a2, a3, a4, a5⟩
end
end Zed
end
section
set_option Elab.async false
set_option linter.all false
set_option maxRecDepth 100000
set_option maxHeartbeats 4000000
namespace Zed
open PySem L2
/-! ### assignments: which form the machine takes -/
def isStar : Expr → Bool
  | .Starred .. => true
  | _ => false
def swpO (sc : Scope) (targets : List Expr) (value : Expr) : Option (Option (List Str)) :=
  match (match targets, value with
    | [.Tuple ts _ _], .Tuple vs _ _ | [.List ts _], .Tuple vs _ _ => some (ts, vs)
    | _, _ => none) with
  | none => some none
  | some (ts, vs) =>
    if (!(ts.length == 2 || ts.length == 3) || vs.length != ts.length) = true then some none
    else if (vs.any isStar) = true then some none
    else
      let names := ts.filterMap fun
        | .Name id pos => if (sc.names.lookup id == some .local && pos.line == (ts.head?.map (·.pos.line)).getD 0) = true then some id else none
        | _ => none
      if (names.length != ts.length || names.eraseDups.length != names.length) = true then some none
      else if (vs.all (foldedForSure 8)) = true then some none
      else if (vs.all (constantsAlone 8)) = true then none
      else some (some names)
theorem blockKind_fn {env : Env} (h : env.scope.kind = .function) : (env.blockKind != .function) = false ∧ (env.blockKind == .function) = true := by
  have : env.blockKind = .function := by
    unfold Env.blockKind
    rw [h]; rfl
  rw [this]; exact ⟨rfl, rfl⟩
theorem swp_core {env : Env} {ts vs : List Expr} {r : Option (List Str)} (h : (if (!(ts.length == 2 || ts.length == 3) || vs.length != ts.length) = true then some none
    else if (vs.any isStar) = true then some none
    else
      let names := ts.filterMap fun
        | .Name id pos => if (env.scope.names.lookup id == some .local && pos.line == (ts.head?.map (·.pos.line)).getD 0) = true then some id else none
        | _ => none
      if (names.length != ts.length || names.eraseDups.length != names.length) = true then some none
      else if (vs.all (foldedForSure 8)) = true then some none
      else if (vs.all (constantsAlone 8)) = true then none
      else some (some names)) = some r) {M : Sem (Option (List Str))}
    (hM : M = (if (!(ts.length == 2 || ts.length == 3) || vs.length != ts.length) = true then pure none
    else if (vs.any isStar) = true then pure none
    else
      let names := ts.filterMap fun
        | .Name id pos => if (env.scope.names.lookup id == some .local && pos.line == (ts.head?.map (·.pos.line)).getD 0) = true then some id else none
        | _ => none
      if (names.length != ts.length || names.eraseDups.length != names.length) = true then pure none
      else if (vs.all (foldedForSure 8)) = true then pure none
      else if (vs.all (constantsAlone 8)) = true then (do unsupported "assign.tuple-of-constant-expressions:order-of-the-stores"; pure (some names))
      else pure (some names))) : M = pure r := by
  rw [hM]
  split at h
  · rename_i c; cases h; rw [if_pos c]
  · rename_i c1
    rw [if_neg c1]
    split at h
    · rename_i c; cases h; rw [if_pos c]
    · rename_i c2
      rw [if_neg c2]
      simp only at h ⊢
      split at h
      · rename_i c; cases h; rw [if_pos c]
      · rename_i c3
        rw [if_neg c3]
        split at h
        · rename_i c; cases h; rw [if_pos c]
        · rename_i c4
          rw [if_neg c4]
          split at h
          · cases h
          · rename_i c5; cases h; rw [if_neg c5]
theorem swp_ok {env : Env} {ts : List Expr} {v : Expr} {r : Option (List Str)} (hk : env.scope.kind = .function) (h : swpO env.scope ts v = some r) : swappedStores ts v env = pure r := by
  have bk := (blockKind_fn hk).1
  unfold swpO at h
  split at h
  · rename_i hm
    cases h
    split at hm
    · cases hm
    · cases hm
    · rename_i n1 n2
      unfold swappedStores
      split
      · rename_i hq
        split at hq
        · exact absurd rfl (n1 _ _ _ _ _ _ rfl)
        · exact absurd rfl (n2 _ _ _ _ _ rfl)
        · cases hq
      · rfl
  · rename_i as vs hm
    split at hm
    · cases hm
      refine swp_core h ?_
      unfold swappedStores
      simp only [bk, Bool.or_false]
      rfl
    · cases hm
      refine swp_core h ?_
      unfold swappedStores
      simp only [bk, Bool.or_false]
      rfl
    · cases hm
def swO (sc : Scope) (tg value : Expr) : Bool :=
  match value with
  | .ListComp _ _ s vp => (match tg with
    | .Name t pos => sc.names.lookup t == some .local && pos.line == vp.line && !(s.names.any fun (n, k) => n == t && (k == .local || k == .cell))
    | _ => false)
  | .SetComp _ _ s vp => (match tg with
    | .Name t pos => sc.names.lookup t == some .local && pos.line == vp.line && !(s.names.any fun (n, k) => n == t && (k == .local || k == .cell))
    | _ => false)
  | .DictComp _ _ _ s vp => (match tg with
    | .Name t pos => sc.names.lookup t == some .local && pos.line == vp.line && !(s.names.any fun (n, k) => n == t && (k == .local || k == .cell))
    | _ => false)
  | _ => false
theorem sw_ok {env : Env} {tg v : Expr} {line : Nat} (hk : env.scope.kind = .function) : swapsWith v (some tg) line env = pure (swO env.scope tg v) := by
  have bk := (blockKind_fn hk).2
  unfold swapsWith swO
  cases v <;> first | rfl | (cases tg <;> first | rfl | (simp only [bk, Bool.true_and]; rfl))
mutual
def chkS (S : Sg) (N : List Str) (sc : Scope) : Sx → Stmt → Bool
  | .ex e, st => match st with
    | .Expr v _ => noComp v && chkE S N sc e v
    | _ => false
  | .asg t e, st => match st with
    | .Assign [tg] v _ =>
      if swO sc tg v then
        match t, e, tg, v with
        | .nm i, .lc _ _ _ _ _, .Name x _, .ListComp .. => (N[i]? == some x) && isK sc.names x .local && chkE S N sc e v
        | _, _, _, _ => false
      else match swpO sc [tg] v with
        | some none => chkG N sc.names t tg && chkE S N sc e v
        | some (some [x, y]) => (match t, e, tg, v with
          | .tp (.cons (.nm i) (.cons (.nm j) .nil)), .tup es, .Tuple [.Name x' _, .Name y' _] _ _, .Tuple [a, b] _ _ =>
            (x == x') && (y == y') && (N[i]? == some x) && (N[j]? == some y) && (i != j) && isK sc.names x .local && isK sc.names y .local && chkA S N sc es [a, b]
          | _, _, _, _ => false)
        | some (some [x, y, z]) => (match t, e, tg, v with
          | .tp (.cons (.nm i) (.cons (.nm j) (.cons (.nm m) .nil))), .tup es, .Tuple [.Name x' _, .Name y' _, .Name z' _] _ _, .Tuple [a, b, c] _ _ =>
            (x == x') && (y == y') && (z == z') && (N[i]? == some x) && (N[j]? == some y) && (N[m]? == some z) && (i != j) && (i != m) && (j != m) && isK sc.names x .local && isK sc.names y .local && isK sc.names z .local && chkA S N sc es [a, b, c]
          | _, _, _, _ => false)
        | _ => false
    | _ => false
  | .put o i e, st => match st with
    | .Assign [.Subscript o' i' _] v _ => noSlice i' && chkE S N sc e v && chkE S N sc o o' && chkE S N sc i i'
    | _ => false
  | .fld o f e, st => match st with
    | .Assign [.Attribute o' x _] v _ => (x == S.nm f) && !swO sc (.Attribute o' x ⟨0, 0, 0, 0⟩) v && chkE S N sc e v && chkE S N sc o o'
    | _ => false
  | .ret e, st => match st with
    | .Return (some v) _ => chkE S N sc e v
    | _ => false
  | .ret0, st => match st with
    | .Return none _ => true
    | _ => false
  | .iff c a b, st => match st with
    | .If c' a' b' _ => chkE S N sc c c' && chkSs S N sc a a' && chkSs S N sc b b'
    | _ => false
  | .for_ t it b, st => match st with
    | .For tg it' b' [] _ => chkI S N sc it tg it' && chkG N sc.names t tg && noSet it' && chkSs S N sc b b'
    | _ => false
  | .whl c b, st => match st with
    | .While c' b' [] _ => chkE S N sc c c' && chkSs S N sc b b'
    | _ => false
  | .pass, st => match st with
    | .Pass _ => true
    | _ => false
  | .brk, st => match st with
    | .Break _ => true
    | _ => false
  | .cnt, st => match st with
    | .Continue _ => true
    | _ => false
  | .rai _ _, st => match st with
    | .Raise .. => true
    | _ => false
def chkSs (S : Sg) (N : List Str) (sc : Scope) : Sxs → List Stmt → Bool
  | .nil, l => match l with
    | [] => true
    | _ => false
  | .cons s r, l => match l with
    | st :: sts => chkS S N sc s st && chkSs S N sc r sts
    | _ => false
end
section
variable {S : Sg} {G : Gc} {C : Orc} {k : Nat}
theorem chkG_noStar {N : List Str} {ns : Nms} {t : Tg} {e : Expr} (h : chkG N ns t e = true) : noStar e = true := by
  unfold chkG at h
  split at h
  · rfl
  · rfl
  · cases h
theorem soundLc {elt : Ex} {tg : Tg} {it : Itr} {ifs : Op} {own : List Nat} {X : Cx} {W : WX} {sc : Scope} {e : Expr} {i : Nat} {x : Str} {px spos : Pos} (g : Glob S G C k X) (sp : Scp sc.names X) (tk : Takes X W)
    (c : chkE S X.N sc (.lc elt tg it ifs own) e = true) (hi : X.N[i]? = some x) (hl : X.env.scope.names.lookup x = some .local) (sw : swapsWith e (some (.Name x px)) spos.line X.env = pure true) :
    PS X (.Assign [.Name x px] e spos) (tAsg (tEv G W (evE C (.lc elt tg it ifs own))) (gName i)) := by
  simp only [chkE] at c
  split at c
  · simp only [Bool.and_eq_true, beq_iff_eq] at c
    obtain ⟨⟨⟨⟨⟨⟨⟨c1, c2⟩, c3⟩, c4⟩, c5⟩, c6⟩, c7⟩, c8⟩ := c
    have ok0 := blkOk_by c2
    have ok : BlkOk X.N X.env.scope _ (ownOf X.N own) := ⟨ok0.kind, ok0.uniq, ok0.ix, fun y hy e => sp.cf y.1 (ok0.free y hy e), ok0.own⟩
    have gB := fun (s : Shared) (H : Hp) (A : Addr) (cl : List (Str × Addr)) (fp : List Addr) => g.blk (s := s) (H := H) (cl := cl) (A := A) (fp := fp) ok.kind
    have hs : ∀ i, i ∈ slotsT tg → i ∈ own := fun i hi => by
      have := List.all_eq_true.mp c5 i hi
      simpa using this
    refine ps_imp (t := tAsg (tLc (iEv G W (evI C it)) (gEv G tg) (tEvT G W0 (evT1 C ifs)) (tEv G W0 (evE C elt)) own) (gName i)) ?_ fun D σ H t => tLc_ev hs σ H _ (by unfold tAsg at t; rw [evE_lc] at t; exact t)
    rw [← c3]
    refine ps_setLc g.calm g.nd hi hl sw (soundI it g sp tk c1) ok (fun s H A cl fp => soundG tg g.K g.nd g.calm .blk c4) (fun s H A cl fp => ?_) (fun s H A cl fp => soundE elt (gB s H A cl fp) .blk takes0 c8) (foldedSet c6)
    split at c7
    · split at c7
      · refine ⟨fun pins s σ H Q I q => pts_nil.run pins s σ H Q I ?_⟩
        obtain ⟨φ, l, h, rh, rl, p⟩ := q
        unfold evT1 at p
        exact p φ H .refl rh
      · cases c7
    · simp only [Bool.and_eq_true] at c7
      cases ifs with
      | no => simp at c7
      | yes cd =>
        simp only [chkOp] at c7
        have := pts_one (soundT cd (gB s H A cl fp) .blk (takes0 (X := X.blk s H _ (compEnvC _ cl A X.env) fp)) c7.2)
        refine ⟨fun pins s σ H Q I q => this.run pins s σ H Q I ?_⟩
        obtain ⟨φ, l, h, rh, rl, p⟩ := q
        unfold evT1 at p
        exact ⟨φ, l, h, rh, rl, p⟩
    · cases c7
  · cases c
theorem gName_ev {t : Nat} {W : WX} {e : Ex} (D : Ends) (σ : St) (H : Hp) (q : tEvS G W (exS C (.asg (.nm t) e)) D σ H) : tAsg (tEv G W (evE C e)) (gName t) D σ H := by
  have z := tAsg_ev D σ H q
  obtain ⟨φ, l, h, rh, rl, p⟩ := z
  refine ⟨φ, l, h, rh, rl, Post.mono p fun v H1 ⟨φ1, h1, l1, d1, l2, rh1, rl1, rv1, eb, k⟩ => ?_⟩
  simp only [bindT] at eb
  split at eb
  · cases eb
    refine k _ (rl1.set rv1) ⟨by simp, fun j hj => ?_⟩
    have : t ≠ j := fun z => hj (by simp [slotsT, z])
    exact List.getElem?_set_ne this
  · cases eb
theorem postA_of_tup {W : WX} {es : Exs} {t : Tg} {φ : List Addr} {H : Hp} {l : Loc} {h : PHeap} {σ : St} {D : Ends} (rh : RelH G φ h H) (rl : RepL G φ H l σ) (p : PostS G φ H (exS C (.asg t (.tup es)) l h) D W) :
    PostA G φ H (evA C es l h) (fun vs H1 => ∃ φ1 h1 ds l1, RelH G φ1 h1 H1 ∧ RepVs G φ1 H1 ds vs ∧ RepL G φ1 H1 l σ ∧ bindT t (.tup ds) l = some l1 ∧ ∀ σ', RepL G φ1 H1 l1 σ' → D.nx σ' H1) (fun c d H' => W c d σ H') := by
  unfold exS at p
  unfold evE at p
  cases z : evA C es l h with
  | ok ds h1 =>
    rw [z] at p
    simp only [R.bind_ok] at p
    intro φ1 H1 vs x1 rh1 rv
    split at p
    · simp only [R.toS] at p
      cases z2 : bindT t (.tup ds) l with
      | none => rw [z2] at p; exact p.elim
      | some l1 => rw [z2] at p; exact ⟨φ1, h1, ds, l1, rh1, rv, repL_ext rh x1 rl, z2, fun σ' rl' => p φ1 H1 σ' x1 rh1 rl'⟩
    · exact p.elim
  | exc c fs h' => rw [z] at p; exact fun φ' H' cls dd x rh' rx => p φ' H' σ cls dd x rh' (repL_ext rh x rl) rx
  | stuck => rw [z] at p; exact p.elim
theorem repVs_three {φ : List Addr} {H : Hp} {ds : List PV} {v w x : V} (q : RepVs G φ H ds [v, w, x]) : ∃ a b c, ds = [a, b, c] ∧ RepV G φ H a v ∧ RepV G φ H b w ∧ RepV G φ H c x := by
  cases q with
  | cons r1 q => cases q with
    | cons r2 q => cases q with
      | cons r3 q => cases q; exact ⟨_, _, _, rfl, r1, r2, r3⟩
theorem tPar_ev {W : WX} {i j : Nat} {es : Exs} (D : Ends) (σ : St) (H : Hp) (q : tEvS G W (exS C (.asg (.tp (.cons (.nm i) (.cons (.nm j) .nil))) (.tup es))) D σ H) : tPar i j (tEvA G W (evA C es)) D σ H := by
  obtain ⟨φ, l, h, rh, rl, p⟩ := q
  refine ⟨φ, l, h, rh, rl, PostA.mono (postA_of_tup rh rl p) fun vs H1 ⟨φ1, h1, ds, l1, rh1, rv, rl1, eb, k⟩ => ?_⟩
  simp only [bindT] at eb
  cases rv with
  | nil => simp [bindTs] at eb
  | cons r1 rv =>
    cases rv with
    | nil => simp only [bindTs] at eb; split at eb <;> cases eb
    | cons r2 rv =>
      cases rv with
      | cons r3 rv =>
        simp only [bindTs, bindT] at eb
        split at eb
        · split at eb
          · cases eb
          · cases eb
        · cases eb
      | nil =>
        simp only [bindTs, bindT] at eb
        split at eb
        · rename_i l2 e2
          split at e2
          · cases e2
            split at eb
            · rename_i l3 e3
              split at e3
              · cases e3
                cases eb
                exact ⟨_, _, rfl, k _ ((rl1.set r1).set r2)⟩
              · cases e3
            · cases eb
          · cases e2
        · cases eb
theorem tPar3_ev {W : WX} {i j m : Nat} {es : Exs} (D : Ends) (σ : St) (H : Hp) (q : tEvS G W (exS C (.asg (.tp (.cons (.nm i) (.cons (.nm j) (.cons (.nm m) .nil)))) (.tup es))) D σ H) : tPar3 i j m (tEvA G W (evA C es)) D σ H := by
  obtain ⟨φ, l, h, rh, rl, p⟩ := q
  refine ⟨φ, l, h, rh, rl, PostA.mono (postA_of_tup rh rl p) fun vs H1 ⟨φ1, h1, ds, l1, rh1, rv, rl1, eb, k⟩ => ?_⟩
  simp only [bindT] at eb
  match ds, rv, eb with
  | [a, b, c], .cons r1 (.cons r2 (.cons r3 .nil)), eb =>
    simp only [bindTs, bindT] at eb
    split at eb
    · rename_i l2 e2
      split at e2
      · cases e2
        split at eb
        · rename_i l3 e3
          split at e3
          · cases e3
            split at eb
            · rename_i l4 e4
              split at e4
              · cases e4
                cases eb
                exact ⟨_, _, _, rfl, k _ (((rl1.set r1).set r2).set r3)⟩
              · cases e4
            · cases eb
          · cases e3
        · cases eb
      · cases e2
    · cases eb
  | [], _, eb => simp [bindTs] at eb
  | [a], _, eb => simp only [bindTs] at eb; split at eb <;> cases eb
  | [a, b], _, eb =>
    simp only [bindTs] at eb
    split at eb
    · split at eb <;> cases eb
    · cases eb
  | a :: b :: c :: d :: r, _, eb =>
    simp only [bindTs] at eb
    split at eb
    · split at eb
      · split at eb <;> cases eb
      · cases eb
    · cases eb
end
end Zed
end
section
set_option Elab.async false
set_option linter.all false
set_option maxRecDepth 100000
set_option maxHeartbeats 4000000
namespace Zed
open PySem L2
section
variable {S : Sg} {G : Gc} {C : Orc} {k : Nat}
theorem exS_for {t : Tg} {it : Itr} {b : Sxs} : exS C (.for_ t it b) = fun l h => (evI C it l h).toS l fun src h1 => forLoop t src (exSs C b) (srcLen h1 src + 1) 0 l h1 := by funext l h; simp only [exS]
theorem exS_fld {o : Ex} {f : Nat} {e : Ex} : exS C (.fld o f e) = fun l h => (evE C e l h).toS l fun v h1 => (evE C o l h1).toS l fun x h2 => match fldF C.ct x f v h2 with | some h3 => .nx l h3 | none => .stuck := by funext l h; first | (simp only [exS]; done) | (simp only [exS]; rfl)
theorem exS_whl {c : Ex} {b : Sxs} : exS C (.whl c b) = whlLoop (fun l h => truthR (evE C c l h)) (exSs C b) 1000000 := by funext l h; simp only [exS]
theorem noComp_sw {e : Expr} {line : Nat} {env : Env} (h : noComp e = true) : swapsWith e none line env = pure false := by
  cases e <;> first | rfl | (cases h)
mutual
theorem soundS : ∀ (ir : Sx) {X : Cx} {W : WX} {sc : Scope} {st : Stmt}, Glob S G C k X → X.env.scope = sc → Scp sc.names X → Takes X W → PassesOwn (model X.prog X.w) X.A X.env X.xe → chkS S X.N sc ir st = true → PS X st (tEvS G W (exS C ir))
  | .ex e, X, W, sc, st, g, es, sp, tk, po, c => by
    simp only [chkS] at c
    split at c
    · simp only [Bool.and_eq_true] at c
      exact ps_imp (ps_expr (soundE e g sp tk c.2) (noComp_sw c.1)) tDrop_ev
    · cases c
  | .asg t e, X, W, sc, st, g, es, sp, tk, po, c => by
    have hk := g.kind
    simp only [chkS] at c
    split at c
    · rename_i tg v pos
      split at c
      · rename_i sw
        split at c
        · rename_i sw1
          simp only [Bool.and_eq_true, beq_iff_eq] at c
          subst es
          refine ps_imp (soundLc g sp tk c.2 c.1.1 (sp.loc _ c.1.2) ?_) gName_ev
          rw [sw_ok hk, sw]
        · cases c
      · rename_i sw
        have sw' : swapsWithSole [tg] v pos.line X.env = pure false := by
          show swapsWith v (some tg) pos.line X.env = pure false
          rw [sw_ok hk, es]
          simp only [Bool.not_eq_true] at sw
          rw [sw]
        split at c
        · rename_i so
          simp only [Bool.and_eq_true] at c
          exact ps_imp (ps_asg (soundE e g sp tk c.2) (soundG t g.K g.nd g.calm sp c.1) sw' (swp_ok hk (by rw [es]; exact so)) (by rw [assignEach_cons (chkG_noStar c.1)]; rfl)) tAsg_ev
        · rename_i x y so
          split at c
          · simp only [Bool.and_eq_true, beq_iff_eq, bne_iff_ne] at c
            obtain ⟨⟨⟨⟨⟨⟨⟨c1, c2⟩, c3⟩, c4⟩, c5⟩, c6⟩, c7⟩, c8⟩ := c
            subst c1; subst c2
            exact ps_imp (ps_par g.calm g.nd c3 c4 c5 (sp.loc _ c6) (sp.loc _ c7) (soundA _ g sp tk c8) (swp_ok hk (by rw [es]; exact so)) sw') tPar_ev
          · cases c
        · rename_i x y z so
          split at c
          · simp only [Bool.and_eq_true, beq_iff_eq, bne_iff_ne] at c
            obtain ⟨⟨⟨⟨⟨⟨⟨⟨⟨⟨⟨⟨c1, c2⟩, c3⟩, c4⟩, c5⟩, c6⟩, c7⟩, c8⟩, c9⟩, c10⟩, c11⟩, c12⟩, c13⟩ := c
            subst c1; subst c2; subst c3
            exact ps_imp (ps_par3 g.calm g.nd c4 c5 c6 c7 c8 c9 (sp.loc _ c10) (sp.loc _ c11) (sp.loc _ c12) (soundA _ g sp tk c13) (swp_ok hk (by rw [es]; exact so)) sw') tPar3_ev
          · cases c
        · cases c
    · cases c
  | .put o i e, X, W, sc, st, g, es, sp, tk, po, c => by
    have hk := g.kind
    simp only [chkS] at c
    split at c
    · rename_i o' i' p1 v pos
      simp only [Bool.and_eq_true] at c
      refine ps_imp (ps_asg (soundE e g sp tk c.1.1.2) (pg_sub (soundE o g sp tk c.1.2) (soundE i g sp tk c.2) (set_Z g.K g.P g.w g.room.units) ?_) ?_ ?_ rfl) tPut_ev
      · intro u
        have c1 := c.1.1.1
        cases i' <;> first | rfl | (cases c1)
      · show swapsWith v (some (o'.Subscript i' p1)) pos.line X.env = pure false
        rw [sw_ok hk]
        unfold swO
        cases v <;> rfl
      · exact swp_ok hk rfl
    · cases c
  | .fld o f e, X, W, sc, st, g, es, sp, tk, po, c => by
    have hk := g.kind
    simp only [chkS] at c
    split at c
    · simp only [Bool.and_eq_true, beq_iff_eq, Bool.not_eq_true'] at c
      obtain ⟨⟨⟨c1, c2⟩, c3⟩, c4⟩ := c
      subst c1
      rename_i o' p1 v pos
      have := ps_fldZ (pos := pos) (pos' := p1) g (soundE o g sp tk c4) (soundE e g sp tk c3) (by
        rw [sw_ok hk, es]
        have z : swO sc (.Attribute o' (S.nm f) p1) v = swO sc (.Attribute o' (S.nm f) ⟨0, 0, 0, 0⟩) v := by cases v <;> rfl
        rw [z, c2])
      exact ps_imp this fun D σ H q => by rw [exS_fld] at q; exact q
    · cases c
  | .ret e, X, W, sc, st, g, es, sp, tk, po, c => by
    simp only [chkS] at c
    split at c
    · exact ps_imp (ps_ret (soundE e g sp tk c)) tRet_ev
    · cases c
  | .ret0, X, W, sc, st, g, es, sp, tk, po, c => by
    simp only [chkS] at c
    split at c
    · exact ps_imp ps_retN tRetN_ev
    · cases c
  | .iff d a b, X, W, sc, st, g, es, sp, tk, po, c => by
    simp only [chkS] at c
    split at c
    · simp only [Bool.and_eq_true] at c
      exact ps_imp (ps_if (soundT d g sp tk c.1.1) (soundSs a g es sp tk po c.1.2) (soundSs b g es sp tk po c.2)) tIff_ev
    · cases c
  | .for_ t it b, X, W, sc, st, g, es, sp, tk, po, c => by
    simp only [chkS] at c
    split at c
    · simp only [Bool.and_eq_true] at c
      exact ps_imp (ps_for po g.calm (soundI it g sp tk c.1.1.1) (soundG t g.K g.nd g.calm sp c.1.1.2) (soundSs b g es sp tk po c.2) (foldedSet c.1.2)) fun D σ H q => tFor_ev D σ H (by rw [exS_for] at q; exact q)
    · cases c
  | .whl d b, X, W, sc, st, g, es, sp, tk, po, c => by
    simp only [chkS] at c
    split at c
    · simp only [Bool.and_eq_true] at c
      exact ps_imp (ps_while po (soundT d g sp tk c.1) (soundSs b g es sp tk po c.2)) fun D σ H q => tWhl_ev D σ H (by rw [exS_whl] at q; exact q)
    · cases c
  | .pass, X, W, sc, st, g, es, sp, tk, po, c => by
    simp only [chkS] at c
    split at c
    · refine ps_imp ps_pass fun D σ H q => ?_
      obtain ⟨φ, l, h, rh, rl, p⟩ := q
      unfold exS at p
      exact p φ H σ .refl rh rl
    · cases c
  | .brk, X, W, sc, st, g, es, sp, tk, po, c => by
    simp only [chkS] at c
    split at c
    · refine ps_imp ps_break fun D σ H q => ?_
      obtain ⟨φ, l, h, rh, rl, p⟩ := q
      unfold exS at p
      exact p φ H σ .refl rh rl
    · cases c
  | .cnt, X, W, sc, st, g, es, sp, tk, po, c => by
    simp only [chkS] at c
    split at c
    · refine ps_imp ps_continue fun D σ H q => ?_
      obtain ⟨φ, l, h, rh, rl, p⟩ := q
      unfold exS at p
      exact p φ H σ .refl rh rl
    · cases c
  | .rai _ _, X, W, sc, st, g, es, sp, tk, po, c => ⟨fun pins s σ H D I q => by
      obtain ⟨φ, l, h, rh, rl, p⟩ := q
      unfold exS at p
      exact p.elim⟩
theorem soundSs : ∀ (ir : Sxs) {X : Cx} {W : WX} {sc : Scope} {sts : List Stmt}, Glob S G C k X → X.env.scope = sc → Scp sc.names X → Takes X W → PassesOwn (model X.prog X.w) X.A X.env X.xe → chkSs S X.N sc ir sts = true → PSs X sts (tEvS G W (exSs C ir))
  | .nil, X, W, sc, sts, g, es, sp, tk, po, c => by
    simp only [chkSs] at c
    split at c
    · exact pss_imp pss_nil tNext_ev
    · cases c
  | .cons s r, X, W, sc, sts, g, es, sp, tk, po, c => by
    simp only [chkSs] at c
    split at c
    · simp only [Bool.and_eq_true] at c
      exact pss_imp (pss_cons (soundS s g es sp tk po c.1) (soundSs r g es sp tk po c.2)) tSeq_ev
    · cases c
end
/-! ### defs -/
/-- what is written of a def -/
structure DefOk (S : Sg) (K : PySem.W.Frag) (mg : Str → Option Value) (f : Nat) (ps : List Str) (fd : Fd) (N : List Str) (st : Stmt) : Prop where
  nm : ∃ a fdt name qual, (S.glo f = true → mg (S.nm f) = some (.ref a)) ∧ (∀ c, S.init c = some f → ∃ D, mg (S.nm c) = some (.ref D) ∧ Mk K D a) ∧
    FunD K name qual (defArgs st) (defBody st) (defScope st) [] [] a fdt ∧ ∀ (s : Shared) (us : List Value), us.length = ps.length → BindsTo s fdt ⟨us, []⟩ (ps.zip us)
  sc : FnScope N ps (defScope st)
  np : fd.np = ps.length
  n : fd.n = N.length
  chk : chkSs S N (defScope st) fd.body (defBody st) = true
theorem spF_len {F : List PV → PHeap → R PV} {m : Nat} (h : ∀ ds h, ds.length ≠ m → F ds h = .stuck) {vs : List V} {H : Hp} {Q : VK} {E : XK} (q : spF G F vs H Q E) : vs.length = m := by
  obtain ⟨φ, h0, ds, rh, rv, p⟩ := q
  rw [← rv.length]
  by_cases e : ds.length = m
  · exact e
  · rw [h ds h0 e] at p; exact p.elim
theorem Scp.self {X : Cx} (hf : ∀ x, X.fn x = true) : Scp X.env.scope.names X where
  loc := fun x h => by simpa [isK] using h
  cel := fun x h => ⟨by simpa [isK] using h, hf x⟩
  vis := fun x h => by
    simp only [isVis, isK, Bool.or_eq_true, beq_iff_eq] at h
    rcases h with (h | h) | h
    · exact .inl h
    · exact .inr (.inl h)
    · exact .inr (.inr h)
  gl := fun x h => by
    have z : X.env.scope.names.lookup x = some .globalImplicit := by simpa [isK] using h
    exact z
  cf := fun x h => h
/-- what is written of the text -/
structure TxtOk (S : Sg) (G : Gc) (ct : Ct) (P : Program) (w : World) (K : PySem.W.Frag) (mg : Str → Option Value) : Prop where
  hP : G.P = P
  hw : G.w = w
  hK : G.K = K
  hmg : G.mg = mg
  nm : G.nm = S.nm
  sl : G.isSl = ct.isSl
  slo : G.slot = ct.slot
  fdl : G.fld = ct.fld
  fns : ∀ f ps fd, S.fn f = some (ps, fd) → ∃ N st, DefOk S K mg f ps fd N st
  scl : ∀ c D, ct.isSl c = true → mg (S.nm c) = some (.ref D) → SlX.SCls K D
  sls : ∀ c f i D, ct.slot c f = some i → mg (S.nm c) = some (.ref D) → ∃ p, SlX.Slot1 K D (S.nm f) p i
  pcl : ∀ c f D, ct.isSl c = false → ct.fld c f = true → mg (S.nm c) = some (.ref D) → Cls K D ∧ NoAttr K D (S.nm f)
  inj : ∀ c f g i, ct.slot c f = some i → ct.slot c g = some i → f = g
  inn : ∀ c f g, ct.fld c f = true → ct.fld c g = true → S.nm f = S.nm g → f = g
  cst : ∀ x d, S.cst.lookup x = some d → ∃ u v, mg x = some u ∧ RelV v u ∧ ∀ φ H, RepV G φ H d v
  blt : ∀ x, S.blts.contains x = true → mg x = none
def tabOf (S : Sg) : Nat → Option Fd := fun f => (S.fn f).map (·.2)
theorem rep_start {φ : List Addr} {H : Hp} {ds : List PV} {vs : List V} {n m : Nat} (q : RepVs G φ H ds vs) (hm : m = ds.length) (N : List Str) (hn : n = N.length) : RepL G φ H (ds.map some ++ List.replicate (n - m) none) (L2.start N vs) := by
  have l1 := q.length
  subst hm
  subst hn
  refine ⟨by simp [L2.start, l1], fun i d e => ?_⟩
  by_cases hi : i < ds.length
  · rw [List.getElem?_append_left (by simpa using hi), List.getElem?_map] at e
    cases z : ds[i]? with
    | none => rw [z] at e; cases e
    | some d' =>
      rw [z] at e
      cases e
      obtain ⟨v, e1, r⟩ := q.get z
      refine ⟨v, ?_, r⟩
      unfold L2.start
      rw [List.getElem?_append_left (by simp; omega), List.getElem?_map, e1]
      rfl
  · rw [List.getElem?_append_right (by simpa using hi), List.getElem?_replicate] at e
    split at e <;> cases e
theorem binds_of {K : PySem.W.Frag} {fdt : FuncData} {ps : List Str} (b : ∀ (s : Shared) (us : List Value), us.length = ps.length → BindsTo s fdt ⟨us, []⟩ (ps.zip us)) : Binds K fdt ps [] := fun s us _ hl => by
  rw [List.append_nil] at hl ⊢
  exact b s us hl
theorem all_sound {P : Program} {w : World} {K : PySem.W.Frag} {mg : Str → Option Value} {ct : Ct} (T : TxtOk S G ct P w K mg) : ∀ (n : Nat) (f : Nat) (ps : List Str) (fd : Fd), S.fn f = some (ps, fd) →
    ∃ a fdt, (S.glo f = true → mg (S.nm f) = some (.ref a)) ∧ (∀ c, S.init c = some f → ∃ D, mg (S.nm c) = some (.ref D) ∧ Mk K D a) ∧ PySem.W.keepIn K (.ref a) = true ∧
      (∀ (s : Shared) (us : List Value), us.length = ps.length → BindsTo s fdt ⟨us, []⟩ (ps.zip us)) ∧ ∀ base : Heap, FnOk P w K mg base (L2.CX P w) (2 * n) a fdt ps (spF G (callN ct (tabOf S) n f))
  | 0, f, ps, fd, hf => by
    obtain ⟨N, st, D⟩ := T.fns f ps fd hf
    obtain ⟨a, fdt, name, qual, e1, e2, F, b⟩ := D.nm
    have no : ∀ {vs H Q E}, ¬ spF G (callN ct (tabOf S) 0 f) vs H Q E := fun ⟨φ, h0, ds, rh, rv, p⟩ => p
    exact ⟨a, fdt, e1, e2, F.kp, b, fun base => ⟨fun vs H Q E q => (no q).elim, fun A outer s H args us vs Q E hr he hb hv hs => (no hs).elim⟩⟩
  | n + 1, f, ps, fd, hf => by
    obtain ⟨N, st, D⟩ := T.fns f ps fd hf
    obtain ⟨a, fdt, name, qual, e1, e2, F, b⟩ := D.nm
    refine ⟨a, fdt, e1, e2, F.kp, b, fun base => ?_⟩
    have ht : tabOf S f = some fd := by unfold tabOf; rw [hf]; rfl
    refine F.ok (CX := L2.CX P w) (k := 2 * n + 1) D.sc (fun vs H Q E q => ?_) (fun cdv A outer s H vs Q E hr q => ?_)
    · refine spF_len (fun ds h hne => ?_) q
      simp only [callN, ht, runFn]
      rw [if_neg (by rw [D.np]; exact hne)]
    · have g : Glob S G ⟨callN ct (tabOf S) n, ct⟩ (2 * n) (cxOf (L2.CX P w) P w K mg base N qual (defScope st) a cdv A outer s H E) :=
        { K := T.hK, mg := T.hmg, nm := T.nm, P := T.hP, w := T.hw, sl := T.sl, slo := T.slo, fdl := T.fdl, nd := D.sc.nd, calm := rfl, room := hr, kind := D.sc.kind,
          fns := fun f' ps' fd' hf' hg => (let ⟨a, fdt, e1, _, e2, e3, e4⟩ := all_sound T n f' ps' fd' hf'; ⟨a, fdt, e1 hg, e2, binds_of e3, e4 base⟩),
          mks := fun c f' ps' fd' hf' hc => (let ⟨a, fdt, _, e1, e2, e3, e4⟩ := all_sound T n f' ps' fd' hf'; let ⟨D, d1, d2⟩ := e1 c hc; ⟨D, a, fdt, d1, d2, binds_of e3, e4 base⟩),
          scl := T.scl, sls := T.sls, pcl := T.pcl, inj := T.inj, inn := T.inn, cst := T.cst, blt := T.blt }
      refine ⟨_, soundSs fd.body g rfl (Scp.self fun _ => rfl) (takes_of rfl rfl rfl rfl) (passes_of rfl) D.chk, ?_⟩
      obtain ⟨φ, h, ds, rh, rv, p⟩ := q
      simp only [callN, ht, runFn] at p
      split at p
      · rename_i hl
        refine ⟨φ, _, h, rh, rep_start rv hl.symm N D.n, ?_⟩
        cases z : exSs ⟨callN ct (tabOf S) n, ct⟩ fd.body (ds.map some ++ List.replicate (fd.n - fd.np) none) h with
        | nx l1 h1 => rw [z] at p; exact fun φ' H' σ' x rh' rl' => p φ' H' _ x rh' .non
        | rt d h1 => rw [z] at p; exact p
        | bk l1 h1 => rw [z] at p; exact p.elim
        | ct l1 h1 => rw [z] at p; exact p.elim
        | exc c fs l1 h1 => rw [z] at p; exact fun φ' H' σ' cls dd x rh' rl' rx => p φ' H' cls dd x rh' rx
        | stuck => rw [z] at p; exact p.elim
      · exact p.elim
/-- the law: the script goes in, True comes out -/
theorem law_post {F : List PV → PHeap → R PV} {K : PySem.W.Frag} {H : Hp} {a : Addr} {ns : List Int} (hK : G.K = K) (hO : Only H) (hS : SqL K H a (ns.map V.int)) (h : ∃ h', F [.fl (ns.map PV.int)] [] = .ok (.bl true) h') :
    spF G F [.ref a] H (fun v _ => v = .bl true) (fun _ _ _ => False) := by
  obtain ⟨h', e⟩ := h
  refine ⟨[], [], [.fl (ns.map PV.int)], ⟨rfl, List.nodup_nil, fun i o a h1 => by simp at h1⟩, .cons (.fl (vs := ns.map V.int) ?_ ?_) .nil, ?_⟩
  · rw [hK]
    rcases hS with (s | ⟨o, s⟩) | s
    · rcases hO a with z | ⟨o, xs, z⟩
      · rw [s] at z; cases z
      · rw [s] at z; cases z
    · exact .inl ⟨o, s⟩
    · exact .inr s
  · have all : ∀ ms : List Int, RepVs G [] H (ms.map PV.int) (ms.map V.int) := fun ms => by
      induction ms with
      | nil => exact .nil
      | cons n ms ih => exact .cons (.int n) ih
    exact all ns
  · rw [e]
    intro φ' H' v x rh rv
    cases rv
    rfl
end
end Zed
end
section
set_option Elab.async false
set_option linter.all false
set_option maxRecDepth 100000
set_option maxHeartbeats 4000000
namespace Zed
open PySem L2
/-! ### a law's table -/
/-- a def: its number, where it stands (a module's name; a class and its method), its name, qualified name, parameters, body, slots, text -/
structure Row where
  id : Nat
  at_ : Str × Option Str
  name : Str
  qual : Str
  ps : List Str
  fd : Fd
  N : List Str
  st : Stmt
/-- a class: its number, name, __init__'s number; with slots: the attributes' places; else the plain attributes -/
structure CRow where
  id : Nat
  name : Str
  init : Option Nat
  isSl : Bool
  slots : List (Nat × Nat)
  flds : List Nat
def sgOf (nms : List (Nat × Str)) (rows : List Row) (crs : List CRow) (cst : List (Str × PV)) (blts : List Str) : Sg where
  nm := fun k => (nms.lookup k).getD ""
  fn := fun k => (rows.find? (fun r => r.id == k)).map fun r => (r.ps, r.fd)
  glo := fun k => match rows.find? (fun r => r.id == k) with
    | some r => r.at_.2.isNone
    | none => false
  init := fun c => match crs.find? (fun r => r.id == c) with
    | some r => r.init
    | none => none
  cst := cst
  blts := blts
def ctOf (crs : List CRow) : Ct where
  isSl := fun c => match crs.find? (fun r => r.id == c) with
    | some r => r.isSl
    | none => false
  slot := fun c f => match crs.find? (fun r => r.id == c) with
    | some r => if r.isSl then r.slots.lookup f else none
    | none => none
  fld := fun c f => match crs.find? (fun r => r.id == c) with
    | some r => r.flds.contains f
    | none => false
def nodupB : List Str → Bool
  | [] => true
  | x :: r => !r.contains x && nodupB r
theorem nodupB_ok : ∀ {l : List Str}, nodupB l = true → l.Nodup
  | [], _ => List.nodup_nil
  | x :: r, h => by
    simp only [nodupB, Bool.and_eq_true, Bool.not_eq_true'] at h
    have nx : x ∉ r := fun q => by
      have z : r.contains x = true := by simpa using q
      rw [z] at h
      exact Bool.noConfusion h.1
    exact List.nodup_cons.mpr ⟨nx, nodupB_ok h.2⟩
def nodupN : List Nat → Bool
  | [] => true
  | x :: r => !r.contains x && nodupN r
theorem slots_inj : ∀ {l : List (Nat × Nat)}, nodupN (l.map (·.2)) = true → ∀ {f g i : Nat}, l.lookup f = some i → l.lookup g = some i → f = g
  | [], _, f, g, i, h1, _ => by cases h1
  | (k, j) :: r, h, f, g, i, h1, h2 => by
    simp only [List.map_cons, nodupN, Bool.and_eq_true, Bool.not_eq_true'] at h
    have mem : ∀ {x : Nat}, r.lookup x = some j → False := fun {x} hx => by
      have : j ∈ r.map (·.2) := by
        clear h h1 h2
        induction r with
        | nil => cases hx
        | cons p t ih =>
          rw [List.lookup_cons] at hx
          cases z : x == p.1 with
          | true => rw [z] at hx; cases hx; exact List.mem_cons_self
          | false => rw [z] at hx; exact List.mem_cons_of_mem _ (ih hx)
      have z : (r.map (·.2)).contains j = true := by simpa using this
      rw [z] at h; cases h.1
    rw [List.lookup_cons] at h1 h2
    cases z1 : f == k with
    | true =>
      rw [z1] at h1
      cases h1
      cases z2 : g == k with
      | true => rw [beq_iff_eq.mp z1, beq_iff_eq.mp z2]
      | false => rw [z2] at h2; exact (mem h2).elim
    | false =>
      rw [z1] at h1
      cases z2 : g == k with
      | true => rw [z2] at h2; cases h2; exact (mem h1).elim
      | false => rw [z2] at h2; exact slots_inj h.2 h1 h2
theorem map_inj {F : Nat → Str} : ∀ {l : List Nat}, nodupB (l.map F) = true → ∀ {f g : Nat}, f ∈ l → g ∈ l → F f = F g → f = g
  | [], _, f, g, h1, _, _ => by cases h1
  | k :: r, h, f, g, h1, h2, e => by
    simp only [List.map_cons, nodupB, Bool.and_eq_true, Bool.not_eq_true'] at h
    have no : ∀ {x : Nat}, x ∈ r → F x = F k → False := fun {x} hx q => by
      have z : (r.map F).contains (F k) = true := by
        have : F k ∈ r.map F := List.mem_map.mpr ⟨x, hx, q⟩
        simpa using this
      rw [z] at h; cases h.1
    rcases List.mem_cons.mp h1 with a | a
    · rcases List.mem_cons.mp h2 with b | b
      · rw [a, b]
      · subst a; exact (no b e.symm).elim
    · rcases List.mem_cons.mp h2 with b | b
      · subst b; exact (no a e).elim
      · exact map_inj h.2 a b e
def scopeB (N ps : List Str) (sc : Scope) : Bool :=
  (sc.kind == .function) && !sc.isCoroutine && !sc.isGenerator && nodupB N && (N.take ps.length == ps) &&
  (ps.all fun x => sc.names.lookup x == some .local || sc.names.lookup x == some .cell) && sc.names.all fun y => y.2 != .free
theorem scopeB_ok {N ps : List Str} {sc : Scope} (h : scopeB N ps sc = true) : FnScope N ps sc := by
  simp only [scopeB, Bool.and_eq_true, beq_iff_eq, Bool.not_eq_true', List.all_eq_true, Bool.or_eq_true, bne_iff_ne] at h
  obtain ⟨⟨⟨⟨⟨⟨h1, h2⟩, h3⟩, h4⟩, h5⟩, h6⟩, h7⟩ := h
  exact ⟨h1, h2, h3, nodupB_ok h4, h5, h6, h7⟩
/-- a row's own look: a def of the module under its name; a method __init__ that its class names -/
def rowB (S : Sg) (crs : List CRow) (r : Row) : Bool := scopeB r.N r.ps (defScope r.st) && (r.fd.np == r.ps.length) && (r.fd.n == r.N.length) && chkSs S r.N (defScope r.st) r.fd.body (defBody r.st) &&
  (match r.at_.2 with
    | none => (r.at_.1 == S.nm r.id) && crs.all fun c => c.init != some r.id
    | some m => crs.all fun c => c.init != some r.id || ((m == ("__init__" : Str)) && (r.at_.1 == c.name)))
def crB (S : Sg) (c : CRow) : Bool := (S.nm c.id == c.name) && nodupN (c.slots.map (·.2)) && nodupB (c.flds.map S.nm)
def BindOk (r : Row) : Prop := ∀ (kV doc pm : Value) (an : Option Addr) (cdv ct : Value) (us : List Value), us.length = r.ps.length → bindArgs (PySem.W.fnOf r.name r.qual (defArgs r.st) (defBody r.st) (defScope r.st) .none kV doc pm an cdv ct) ⟨us, []⟩ = pure (r.ps.zip us)
def BindsAll : List Row → Prop
  | [] => True
  | r :: rs => BindOk r ∧ BindsAll rs
theorem BindsAll.mem : ∀ {rs : List Row}, BindsAll rs → ∀ {r : Row}, r ∈ rs → BindOk r
  | _ :: _, ⟨a, _⟩, _, .head _ => a
  | _ :: _, ⟨_, b⟩, _, .tail _ h => BindsAll.mem b h
/-! ### constants of the module -/
mutual
def relP (K : PySem.W.Frag) : PV → Value → Bool
  | .non, .none => true
  | .bl b, .bool c => b == c
  | .int i, .int j _ => i == j
  | .str x, .str y _ => x == y
  | .tup ds, .ref a => match K.lookup a with
    | some o => (match o.cls, o.data with
      | .type t, .seq its _ => (t == "tuple") && decide (its.size ≤ sizeLine) && relPs K ds its.toList
      | _, _ => false)
    | none => false
  | _, _ => false
def relPs (K : PySem.W.Frag) : List PV → List Value → Bool
  | [], [] => true
  | d :: ds, u :: us => relP K d u && relPs K ds us
  | _, _ => false
end
mutual
theorem relP_ok {G : Gc} : ∀ (d : PV) (u : Value), relP G.K d u = true → ∃ v, RelV v u ∧ ∀ φ H, RepV G φ H d v
  | .non, u, h => by cases u <;> simp [relP] at h; exact ⟨.non, rfl, fun _ _ => .non⟩
  | .bl b, u, h => by cases u <;> simp [relP] at h; subst h; exact ⟨.bl b, rfl, fun _ _ => .bl b⟩
  | .int b, u, h => by cases u <;> simp [relP] at h; subst h; exact ⟨.int b, ⟨_, rfl⟩, fun _ _ => .int b⟩
  | .str b, u, h => by cases u <;> simp [relP] at h; subst h; exact ⟨.str b, ⟨_, rfl⟩, fun _ _ => .str b⟩
  | .fl _, u, h => by simp [relP] at h
  | .ref _, u, h => by simp [relP] at h
  | .ty _, u, h => by simp [relP] at h
  | .gl _, u, h => by simp [relP] at h
  | .tup ds, u, h => by
    cases u with
    | ref a =>
      simp only [relP] at h
      split at h
      · rename_i o ho
        split at h
        · rename_i t its n e1 e2
          simp only [Bool.and_eq_true, beq_iff_eq, decide_eq_true_eq] at h
          obtain ⟨⟨rfl, h2⟩, h3⟩ := h
          obtain ⟨vs, r1, r2⟩ := relPs_ok ds its.toList h3
          exact ⟨.ref a, rfl, fun φ H => .tup (.inr ⟨o, its, n, ho, e1, e2, h2, r1⟩) (r2 φ H)⟩
        · cases h
      · cases h
    | _ => simp [relP] at h
theorem relPs_ok {G : Gc} : ∀ (ds : List PV) (us : List Value), relPs G.K ds us = true → ∃ vs, Vals vs us ∧ ∀ φ H, RepVs G φ H ds vs
  | [], [], _ => ⟨[], .nil, fun _ _ => .nil⟩
  | [], _ :: _, h => by simp [relPs] at h
  | _ :: _, [], h => by simp [relPs] at h
  | d :: ds, u :: us, h => by
    simp only [relPs, Bool.and_eq_true] at h
    obtain ⟨v, a1, a2⟩ := relP_ok d u h.1
    obtain ⟨vs, b1, b2⟩ := relPs_ok ds us h.2
    exact ⟨v :: vs, .cons a1 b1, fun φ H => .cons (a2 φ H) (b2 φ H)⟩
end
def cstB (K : PySem.W.Frag) (e : Str × PV) : Bool := match PySem.W.nsIn K mainGlobals e.1 with
  | some (some u) => relP K e.2 u
  | _ => false
/-! ### the head: one look -/
def faOf (rows : List Row) (crs : List CRow) (blts : List Str) : List He.Fa := (rows.filter fun r => r.at_.2.isNone).map (fun r => He.Fa.glo r.at_.1) ++ crs.map (fun c => He.Fa.glo c.name) ++ (crs.filter fun c => c.init.isSome).map (fun c => He.Fa.mkr c.name) ++ blts.map He.Fa.free
def fnOfR (rows : List Row) : List He.DefD := rows.map fun r => ⟨r.at_, r.name, r.qual, defArgs r.st, defBody r.st, defScope r.st, [], []⟩
/-- a class in the written part -/
def slB (K : PySem.W.Frag) (D : Addr) (f : Str) (i : Nat) : Bool :=
  He.eqO (PySem.W.findIn K (.ref D) f) (some (some (.ref (He.ma K D f)))) && He.eqO (PySem.W.specialIn K (.ref (He.ma K D f)) "__get__") (some (some (.builtin "member_descriptor.__get__"))) &&
  decide (PySem.W.takesIn K (.ref (He.ma K D f)) = some true) && decide (PySem.W.typeIn K (.ref (He.ma K D f)) = some (.type "member_descriptor")) && decide (PySem.W.slotIn K (He.ma K D f) D = some i) && decide (i < 1000)
def clB (nm : Nat → Str) (K : PySem.W.Frag) (c : CRow) : Bool :=
  if c.isSl then
    PySem.W.plainGet K (He.ga K c.name) Str.empty && PySem.W.isClsIn K (He.ga K c.name) && PySem.W.plainOver K (He.ga K c.name) && He.eqO (PySem.W.findIn K (.ref (He.ga K c.name)) "__setattr__") (some (some (.builtin "object.__setattr__"))) &&
    c.slots.all fun p => slB K (He.ga K c.name) (nm p.1) p.2
  else (He.Fa.cls c.name).ok K && c.flds.all fun f => (He.Fa.noat c.name (nm f)).ok K
abbrev AlZ : Type := He.AlD × Bool
def obsZ (nms : List (Nat × Str)) (rows : List Row) (crs : List CRow) (cst : List (Str × PV)) (blts : List Str) (K : PySem.W.Frag) : AlZ := (He.obsD (faOf rows crs blts) (fnOfR rows) K, cst.all (cstB K) && crs.all (clB (fun k => (nms.lookup k).getD "") K))
def valZ (rows : List Row) : AlZ := (He.valD (fnOfR rows), true)
def obsZG (n : Nat) (nms : List (Nat × Str)) (rows : List Row) (crs : List CRow) (cst : List (Str × PV)) (blts : List Str) (g : Addr → Option Obj) : AlZ := obsZ nms rows crs cst blts (He.frG g (He.asD g n))
def hookZ (n : Nat) (nms : List (Nat × Str)) (rows : List Row) (crs : List CRow) (cst : List (Str × PV)) (blts : List Str) : PySem.W.Hook where
  α := AlZ
  obs := fun s => obsZG n nms rows crs cst blts s.heap.get?
  val := fun _ => valZ rows
  says := fun _ h => ∃ K : PySem.W.Frag, K.In h ∧ obsZ nms rows crs cst blts K = valZ rows
  of := fun _ _ e => ⟨_, He.frG_in, e⟩
  keeps := fun _ _ _ ⟨K, hK, c⟩ k => ⟨K, PySem.W.Frag.In.keeps hK k, c⟩
theorem obsZG_eq {n : Nat} {nms : List (Nat × Str)} {rows : List Row} {crs : List CRow} {cst : List (Str × PV)} {blts : List Str} {g : Addr → Option Obj} {s : Shared} (h : ∀ a, g a = s.heap.get? a) : obsZG n nms rows crs cst blts g = (hookZ n nms rows crs cst blts).obs s := by
  have e : g = s.heap.get? := funext h
  rw [e] <;> rfl
section
variable {nms : List (Nat × Str)} {rows : List Row} {crs : List CRow} {cst : List (Str × PV)} {blts : List Str} {K : PySem.W.Frag} {h : Heap} {mg : Str → Option Value}
theorem lookup_mem {cst : List (Str × PV)} {x : Str} {d : PV} (h : cst.lookup x = some d) : (x, d) ∈ cst := by
  induction cst with
  | nil => cases h
  | cons p r ih =>
    obtain ⟨y, e⟩ := p
    rw [List.lookup_cons] at h
    cases z : x == y with
    | true =>
      rw [z] at h
      cases h
      rw [beq_iff_eq.mp z]
      exact List.mem_cons_self
    | false => rw [z] at h; exact List.mem_cons_of_mem _ (ih h)
theorem lookup_memN {l : List (Nat × Nat)} {x d : Nat} (h : l.lookup x = some d) : (x, d) ∈ l := by
  induction l with
  | nil => cases h
  | cons p r ih =>
    obtain ⟨y, e⟩ := p
    rw [List.lookup_cons] at h
    cases z : x == y with
    | true =>
      rw [z] at h
      cases h
      rw [beq_iff_eq.mp z]
      exact List.mem_cons_self
    | false => rw [z] at h; exact List.mem_cons_of_mem _ (ih h)
def gcOf (nms : List (Nat × Str)) (rows : List Row) (crs : List CRow) (K : PySem.W.Frag) (mg : Str → Option Value) (P : Program) (w : World) : Gc := ⟨K, mg, fun k => (nms.lookup k).getD "", P, w, (ctOf crs).isSl, (ctOf crs).slot, (ctOf crs).fld⟩
theorem txt_of (P : Program) (w : World) (X : K.In h) (Gn : h.Ns mainGlobals mg) (c : obsZ nms rows crs cst blts K = valZ rows) (st : rows.all (rowB (sgOf nms rows crs cst blts) crs) = true) (sc : crs.all (crB (sgOf nms rows crs cst blts)) = true) (b : BindsAll rows) :
    TxtOk (sgOf nms rows crs cst blts) (gcOf nms rows crs K mg P w) (ctOf crs) P w K mg := by
  have c1 : He.SaysD (faOf rows crs blts) (fnOfR rows) K := congrArg (fun z : AlZ => z.1) c
  have c23 : (cst.all (cstB K) && crs.all (clB (fun k => (nms.lookup k).getD "") K)) = true := congrArg (fun z : AlZ => z.2) c
  rw [Bool.and_eq_true] at c23
  obtain ⟨c2, c3⟩ := c23
  have fact : ∀ f, f ∈ faOf rows crs blts → f.ok K = true := fun f hf => by
    obtain ⟨i, hi, e⟩ := List.mem_iff_getElem.mp hf
    exact c1.fact i (by rw [List.getElem?_eq_getElem hi, e])
  -- a class, by its number
  have cls : ∀ (c : Nat) (cr : CRow), crs.find? (fun r => r.id == c) = some cr → cr ∈ crs ∧ (sgOf nms rows crs cst blts).nm c = cr.name ∧ mg cr.name = some (.ref (He.ga K cr.name)) ∧ clB (fun k => (nms.lookup k).getD "") K cr = true ∧ crB (sgOf nms rows crs cst blts) cr = true := fun c cr hc => by
    have hm := List.mem_of_find?_eq_some hc
    have hid := List.find?_some hc
    have hb := List.all_eq_true.mp sc cr hm
    have hb0 := hb
    simp only [crB, Bool.and_eq_true, beq_iff_eq] at hb0
    refine ⟨hm, ?_, He.glo_ok X Gn (fact (.glo cr.name) ?_), List.all_eq_true.mp c3 cr hm, hb⟩
    · rw [← beq_iff_eq.mp hid]; exact hb0.1.1
    · exact List.mem_append_left _ (List.mem_append_left _ (List.mem_append_right _ (List.mem_map.mpr ⟨cr, hm, rfl⟩)))
  have dEq : ∀ {c : Nat} {cr : CRow} {D : Addr}, crs.find? (fun r => r.id == c) = some cr → mg ((sgOf nms rows crs cst blts).nm c) = some (.ref D) → D = He.ga K cr.name := fun {c cr D} hc hD => by
    obtain ⟨_, e1, e2, _⟩ := cls c cr hc
    rw [e1, e2] at hD
    cases hD; rfl
  refine ⟨rfl, rfl, rfl, rfl, rfl, rfl, rfl, rfl, fun f ps fd hf => ?_, fun c D hc hD => ?_, fun c f i D hc hD => ?_, fun c f D hs hc hD => ?_, fun c f g i h1 h2 => ?_, fun c f g h1 h2 e => ?_, fun x d hx => ?_, fun x hx => ?_⟩
  · have hf0 : (rows.find? (fun r => r.id == f)).map (fun r => (r.ps, r.fd)) = some (ps, fd) := hf
    obtain ⟨r, hr, e⟩ := omap hf0
    cases e
    have hm := List.mem_of_find?_eq_some hr
    have hid0 := List.find?_some hr
    have hid : r.id = f := beq_iff_eq.mp hid0
    have hb := List.all_eq_true.mp st r hm
    simp only [rowB, Bool.and_eq_true, beq_iff_eq] at hb
    obtain ⟨⟨⟨⟨b1, b2⟩, b3⟩, b4⟩, b5⟩ := hb
    refine ⟨r.N, r.st, ⟨?_, scopeB_ok b1, b2, b3, b4⟩⟩
    obtain ⟨i, hi, e⟩ := List.mem_iff_getElem.mp hm
    have hd : (fnOfR rows)[i]? = some ⟨r.at_, r.name, r.qual, defArgs r.st, defBody r.st, defScope r.st, [], []⟩ := by
      unfold fnOfR
      rw [List.getElem?_map, List.getElem?_eq_getElem hi, e]; rfl
    obtain ⟨fdt, F⟩ := c1.def_ i hd
    refine ⟨_, fdt, r.name, r.qual, fun hg => ?_, fun c hc => ?_, F, FunD.bindsA F (b.mem hm)⟩
    · have hg0 : (match rows.find? (fun r => r.id == f) with | some r => r.at_.2.isNone | none => false) = true := hg
      rw [hr] at hg0
      have hg0 : r.at_.2.isNone = true := hg0
      have hn : r.at_.2 = none := by
        cases z : r.at_.2 with
        | none => rfl
        | some m => rw [z] at hg0; cases hg0
      rw [hn] at b5
      simp only [Bool.and_eq_true, beq_iff_eq] at b5
      have g := He.glo_ok X Gn (fact (.glo r.at_.1) (List.mem_append_left _ (List.mem_append_left _ (List.mem_append_left _ (List.mem_map.mpr ⟨r, List.mem_filter.mpr ⟨hm, by rw [hn]; rfl⟩, rfl⟩)))))
      have e0 : He.fAd K r.at_ = He.ga K r.at_.1 := by unfold He.fAd; rw [hn]
      show mg _ = some (.ref (He.fAd K r.at_))
      rw [e0, ← hid, ← b5.1]
      exact g
    · have hc0 : (match crs.find? (fun r => r.id == c) with | some r => r.init | none => none) = some f := hc
      cases hcr : crs.find? (fun r => r.id == c) with
      | none => rw [hcr] at hc0; cases hc0
      | some cr =>
        rw [hcr] at hc0
        obtain ⟨m1, m2, m3, m4, m5⟩ := cls c cr hcr
        have hin : cr.init = some r.id := by rw [hid]; exact hc0
        cases z : r.at_.2 with
        | none =>
          rw [z] at b5
          simp only [Bool.and_eq_true] at b5
          have := List.all_eq_true.mp b5.2 cr m1
          rw [hin] at this
          simp at this
        | some m =>
          rw [z] at b5
          simp only at b5
          have := List.all_eq_true.mp b5 cr m1
          rw [hin] at this
          simp only [bne_self_eq_false, Bool.false_or, Bool.and_eq_true, beq_iff_eq] at this
          have mk := He.mkr_ok (fact (.mkr cr.name) (List.mem_append_left _ (List.mem_append_right _ (List.mem_map.mpr ⟨cr, List.mem_filter.mpr ⟨m1, by rw [hin]; rfl⟩, rfl⟩))))
          have e0 : He.fAd K r.at_ = He.ma K (He.ga K cr.name) "__init__" := by
            unfold He.fAd
            rw [z, this.2, this.1]
          refine ⟨He.ga K cr.name, by rw [m2]; exact m3, ?_⟩
          show Mk K _ (He.fAd K r.at_)
          rw [e0]
          exact mk
  · have hc0 : (match crs.find? (fun r => r.id == c) with | some r => r.isSl | none => false) = true := hc
    cases hcr : crs.find? (fun r => r.id == c) with
    | none => rw [hcr] at hc0; cases hc0
    | some cr =>
      rw [hcr] at hc0
      obtain ⟨m1, m2, m3, m4, m5⟩ := cls c cr hcr
      have hc1 : cr.isSl = true := hc0
      unfold clB at m4
      rw [if_pos hc1] at m4
      simp only [Bool.and_eq_true] at m4
      rw [dEq hcr hD]
      exact ⟨m4.1.1.1.1, m4.1.1.1.2, m4.1.1.2, He.eqO_ok m4.1.2⟩
  · have hc0 : (match crs.find? (fun r => r.id == c) with | some r => if r.isSl then r.slots.lookup f else none | none => none) = some i := hc
    cases hcr : crs.find? (fun r => r.id == c) with
    | none => rw [hcr] at hc0; cases hc0
    | some cr =>
      rw [hcr] at hc0
      simp only at hc0
      split at hc0
      · rename_i sl
        obtain ⟨m1, m2, m3, m4, m5⟩ := cls c cr hcr
        unfold clB at m4
        rw [if_pos sl] at m4
        simp only [Bool.and_eq_true] at m4
        have s1 := List.all_eq_true.mp m4.2 (f, i) (lookup_memN hc0)
        simp only [slB, Bool.and_eq_true] at s1
        rw [dEq hcr hD]
        exact ⟨_, He.eqO_ok s1.1.1.1.1.1, He.eqO_ok s1.1.1.1.1.2, of_decide_eq_true s1.1.1.1.2, of_decide_eq_true s1.1.1.2, of_decide_eq_true s1.1.2, of_decide_eq_true s1.2⟩
      · cases hc0
  · have hc0 : (match crs.find? (fun r => r.id == c) with | some r => r.flds.contains f | none => false) = true := hc
    have hs0 : (match crs.find? (fun r => r.id == c) with | some r => r.isSl | none => false) = false := hs
    cases hcr : crs.find? (fun r => r.id == c) with
    | none => rw [hcr] at hc0; cases hc0
    | some cr =>
      rw [hcr] at hc0 hs0
      have hs1 : cr.isSl = false := hs0
      have hc1 : cr.flds.contains f = true := hc0
      obtain ⟨m1, m2, m3, m4, m5⟩ := cls c cr hcr
      unfold clB at m4
      rw [hs1, if_neg Bool.false_ne_true] at m4
      rw [Bool.and_eq_true] at m4
      rw [dEq hcr hD]
      exact ⟨He.cls_ok m4.1, He.noat_ok (List.all_eq_true.mp m4.2 f (by simpa using hc1))⟩
  · have h10 : (match crs.find? (fun r => r.id == c) with | some r => if r.isSl then r.slots.lookup f else none | none => none) = some i := h1
    have h20 : (match crs.find? (fun r => r.id == c) with | some r => if r.isSl then r.slots.lookup g else none | none => none) = some i := h2
    cases hcr : crs.find? (fun r => r.id == c) with
    | none => rw [hcr] at h10; cases h10
    | some cr =>
      rw [hcr] at h10 h20
      simp only at h10 h20
      split at h10
      · rename_i sl
        rw [if_pos sl] at h20
        obtain ⟨m1, m2, m3, m4, m5⟩ := cls c cr hcr
        simp only [crB, Bool.and_eq_true] at m5
        exact slots_inj m5.1.2 h10 h20
      · cases h10
  · have h10 : (match crs.find? (fun r => r.id == c) with | some r => r.flds.contains f | none => false) = true := h1
    have h20 : (match crs.find? (fun r => r.id == c) with | some r => r.flds.contains g | none => false) = true := h2
    cases hcr : crs.find? (fun r => r.id == c) with
    | none => rw [hcr] at h10; cases h10
    | some cr =>
      rw [hcr] at h10 h20
      have h11 : cr.flds.contains f = true := h10
      have h21 : cr.flds.contains g = true := h20
      obtain ⟨m1, m2, m3, m4, m5⟩ := cls c cr hcr
      simp only [crB, Bool.and_eq_true] at m5
      exact map_inj m5.2 (by simpa using h11) (by simpa using h21) e
  · have hc := List.all_eq_true.mp c2 _ (lookup_mem hx)
    unfold cstB at hc
    split at hc
    · rename_i u hu
      obtain ⟨v, r1, r2⟩ := relP_ok (G := gcOf nms rows crs K mg P w) d u hc
      exact ⟨u, v, PySem.W.mg_of X Gn hu, r1, r2⟩
    · cases hc
  · have : x ∈ blts := by
      have z : blts.contains x = true := hx
      simpa using z
    exact He.free_ok X Gn (fact (.free x) (List.mem_append_right _ (List.mem_map.mpr ⟨x, this, rfl⟩)))
end
/-- THE END: what is left of a law is plain -/
theorem law_walk {l : PySem.W.OpenLaw} {q : Program} {loose : List Str} {XP : (Str → Option Value) → Heap → Prop} {d : DefRec} {n : Nat} {nms : List (Nat × Str)} {rows : List Row} {crs : List CRow} {cst : List (Str × PV)} {blts : List Str} {k f : Nat} {x : Str} {r : Row}
    (hn : l.most = some 63) (hdf : d.params.defaults = []) (hr : Room (2 * k) callerA) (hnm : d.name = (sgOf nms rows crs cst blts).nm f) (hf : rows.find? (fun r => r.id == f) = some r) (hg : r.at_.2 = none) (hx : r.ps = [x])
    (st : rows.all (rowB (sgOf nms rows crs cst blts) crs) = true) (sc : crs.all (crB (sgOf nms rows crs cst blts)) = true) (b : BindsAll rows)
    (law : ∀ ns : List Int, ns.length ≤ 63 → ∃ h', callN (ctOf crs) (tabOf (sgOf nms rows crs cst blts)) k f [.fl (ns.map PV.int)] [] = .ok (.bl true) h') :
    PySem.W.WalkO q loose XP (hookZ n nms rows crs cst blts).says l.row.toRowW d [] (fun f vs => PySem.call f vs) := by
  refine Att.attach_call hn hdf fun w s₀ s₁ mg mb fa o pm cd doc a vs ns Gd Y ho hd hcd hmg hobj hints hlen hg' => ?_
  obtain ⟨K, KX, c⟩ := Y
  have T := txt_of l.prog w KX Gd.T.g c st sc b
  have hfn : (sgOf nms rows crs cst blts).fn f = some ([x], r.fd) := by
    show (rows.find? (fun r => r.id == f)).map (fun r => (r.ps, r.fd)) = _
    rw [hf, ← hx]; rfl
  have hgl : (sgOf nms rows crs cst blts).glo f = true := by
    show (match rows.find? (fun r => r.id == f) with | some r => r.at_.2.isNone | none => false) = true
    rw [hf]
    show r.at_.2.isNone = true
    rw [hg]; rfl
  obtain ⟨a1, fdt, e1, _, e2, e3, e4⟩ := all_sound (P := l.prog) (w := w) T k f [x] r.fd hfn
  have e1 := e1 hgl
  rw [← hnm, hmg] at e1
  cases e1
  exact law_call KX Gd.T.g Gd.T.b Gd.T.builtins Gd.T.nolimit hg' hobj hints (Nat.le_trans hlen (by decide)) hr (fun base _ _ => e4 base) (fun s u => e3 s [u] rfl) (fun H hO hS => law_post rfl hO hS (law ns hlen)) fun H e s' hc => by
    obtain ⟨_, _, _, _, _, _, _, _, _, _, _, _, z⟩ := hc
    exact z
end Zed
end
section
set_option Elab.async false
set_option linter.all false
set_option maxRecDepth 100000
set_option exponentiation.threshold 10000
/-! ZedP: the plain law's tools: what an answer must be, by the interpreter's own clauses. -/
namespace Zed
open PySem L2
def Ok {α : Type} (r : R α) (Q : α → PHeap → Prop) : Prop := match r with
  | .ok a h => Q a h
  | _ => False
def OkP (o : Option (PV × PHeap)) (Q : PV → PHeap → Prop) : Prop := match o with
  | some (d, h) => Q d h
  | none => False
def OkO {α : Type} (o : Option α) (Q : α → Prop) : Prop := match o with
  | some a => Q a
  | none => False
/-- a statement goes on, or returns -/
def OkS (r : RS) (N : Loc → PHeap → Prop) (T : PV → PHeap → Prop) : Prop := match r with
  | .nx l h => N l h
  | .rt d h => T d h
  | _ => False
section
variable {α β : Type} {C : Orc} {l : Loc} {h : PHeap} {Q : PV → PHeap → Prop} {N : Loc → PHeap → Prop} {T : PV → PHeap → Prop}
theorem Ok.mono {r : R α} {Q Q' : α → PHeap → Prop} (k : Ok r Q) (i : ∀ a h, Q a h → Q' a h) : Ok r Q' := by
  cases r with
  | ok a h => exact i a h k
  | exc => exact k
  | stuck => exact k
theorem OkS.mono {r : RS} {N N' : Loc → PHeap → Prop} {T T' : PV → PHeap → Prop} (k : OkS r N T) (i : ∀ l h, N l h → N' l h) (j : ∀ d h, T d h → T' d h) : OkS r N' T' := by
  cases r <;> first | exact i _ _ k | exact j _ _ k | exact k
theorem Ok.get {r : R α} {Q : α → PHeap → Prop} (k : Ok r Q) : ∃ a h, r = .ok a h ∧ Q a h := by
  cases r with
  | ok a h => exact ⟨a, h, rfl, k⟩
  | exc => exact k.elim
  | stuck => exact k.elim
theorem ok_ok {a : α} {Q : α → PHeap → Prop} : Ok (.ok a h) Q ↔ Q a h := Iff.rfl
theorem ok_bind {m : R α} {k : α → PHeap → R β} {Q : β → PHeap → Prop} : Ok (m.bind k) Q ↔ Ok m fun a h => Ok (k a h) Q := by
  cases m <;> exact Iff.rfl
theorem ok_lift {o : Option (PV × PHeap)} : Ok (liftP o) Q ↔ OkP o Q := by
  cases o <;> exact Iff.rfl
theorem okS_to {m : R α} {k : α → PHeap → RS} : OkS (m.toS l k) N T ↔ Ok m fun a h => OkS (k a h) N T := by
  cases m <;> exact Iff.rfl
theorem ok_truth {m : R PV} {Q : Bool → PHeap → Prop} : Ok (truthR m) Q ↔ Ok m fun d h => OkO (truthF h d) fun b => Q b h := by
  unfold truthR
  rw [ok_bind]
  cases m with
  | ok d h =>
    show Ok (match truthF h d with | some b => _ | none => _) Q ↔ OkO (truthF h d) fun b => Q b h
    cases truthF h d <;> exact Iff.rfl
  | exc => exact Iff.rfl
  | stuck => exact Iff.rfl
/-! expressions -/
theorem w_loc {i : Nat} : Ok (evE C (.loc i) l h) Q ↔ OkO (l[i]?.bind id) fun d => Q d h := by
  show Ok (match l[i]? with | some (some d) => R.ok d h | _ => .stuck) Q ↔ _
  cases l[i]? with
  | none => exact Iff.rfl
  | some o => cases o <;> exact Iff.rfl
theorem w_con {d : PV} : Ok (evE C (.con d) l h) Q ↔ Q d h := Iff.rfl
theorem w_bin {op : Bop} {a b : Ex} : Ok (evE C (.bin op a b) l h) Q ↔ Ok (evE C a l h) fun x h1 => Ok (evE C b l h1) fun y h2 => OkP (bopF op [x, y] h2) Q := by
  show Ok (ev2 _ _ _ _ _) _ ↔ _
  unfold ev2
  simp only [ok_bind, ok_lift]
theorem w_cmp {op : Cop} {a b : Ex} : Ok (evE C (.cmp op a b) l h) Q ↔ Ok (evE C a l h) fun x h1 => Ok (evE C b l h1) fun y h2 => OkO (cmpB op h2 x y) fun b => Q (.bl b) h2 := by
  show Ok (ev2 _ _ _ _ _) _ ↔ _
  unfold ev2
  simp only [ok_bind, ok_lift]
  refine iff_of_eq (congrArg _ (funext fun x => funext fun h1 => congrArg _ (funext fun y => funext fun h2 => ?_)))
  show OkP ((cmpB op h2 x y).map _) Q = _
  cases cmpB op h2 x y <;> rfl
theorem w_sub {a b : Ex} : Ok (evE C (.sub a b) l h) Q ↔ Ok (evE C a l h) fun x h1 => Ok (evE C b l h1) fun y h2 => OkO (getF x y h2) fun d => Q d h2 := by
  show Ok (ev2 _ _ _ _ _) _ ↔ _
  unfold ev2
  simp only [ok_bind, ok_lift]
  refine iff_of_eq (congrArg _ (funext fun x => funext fun h1 => congrArg _ (funext fun y => funext fun h2 => ?_)))
  show OkP ((getF x y h2).map _) Q = _
  cases getF x y h2 <;> rfl
theorem w_not {a : Ex} : Ok (evE C (.not a) l h) Q ↔ Ok (evE C a l h) fun x h1 => OkO (truthF h1 x) fun b => Q (.bl !b) h1 := by
  show Ok ((truthR _).bind _) _ ↔ _
  rw [ok_bind, ok_truth]; exact Iff.rfl
theorem w_and {a b : Ex} : Ok (evE C (.and a b) l h) Q ↔ Ok (evE C a l h) fun x h1 => OkO (truthF h1 x) fun k => (k = true → Ok (evE C b l h1) Q) ∧ (k = false → Q x h1) := by
  show Ok (R.bind _ _) _ ↔ _
  rw [ok_bind]
  refine iff_of_eq (congrArg _ (funext fun x => funext fun h1 => propext ?_))
  cases truthF h1 x with
  | none => exact Iff.rfl
  | some k => cases k <;> simp [OkO, Ok]
theorem w_or {a b : Ex} : Ok (evE C (.or a b) l h) Q ↔ Ok (evE C a l h) fun x h1 => OkO (truthF h1 x) fun k => (k = true → Q x h1) ∧ (k = false → Ok (evE C b l h1) Q) := by
  show Ok (R.bind _ _) _ ↔ _
  rw [ok_bind]
  refine iff_of_eq (congrArg _ (funext fun x => funext fun h1 => propext ?_))
  cases truthF h1 x with
  | none => exact Iff.rfl
  | some k => cases k <;> simp [OkO, Ok]
theorem w_ite {c a b : Ex} : Ok (evE C (.ite c a b) l h) Q ↔ Ok (evE C c l h) fun x h1 => OkO (truthF h1 x) fun k => (k = true → Ok (evE C a l h1) Q) ∧ (k = false → Ok (evE C b l h1) Q) := by
  show Ok (R.bind _ _) _ ↔ _
  rw [ok_bind, ok_truth]
  refine iff_of_eq (congrArg _ (funext fun x => funext fun h1 => propext ?_))
  cases truthF h1 x with
  | none => exact Iff.rfl
  | some k => cases k <;> simp [OkO]
theorem w_chn {op op' : Cop} {a b c : Ex} : Ok (evE C (.chn op op' a b c) l h) Q ↔ Ok (evE C a l h) fun x h1 => Ok (evE C b l h1) fun y h2 => OkO (cmpB op h2 x y) fun k => (k = true → Ok (evE C c l h2) fun z h3 => OkO (cmpB op' h3 y z) fun b => Q (.bl b) h3) ∧ (k = false → Q (.bl false) h2) := by
  show Ok (R.bind _ _) _ ↔ _
  simp only [ok_bind, ok_lift]
  refine iff_of_eq (congrArg _ (funext fun x => funext fun h1 => congrArg _ (funext fun y => funext fun h2 => propext ?_)))
  show OkP ((cmpB op h2 x y).map _) _ ↔ _
  cases cmpB op h2 x y with
  | none => exact Iff.rfl
  | some k =>
    cases k with
    | false => simp [OkO, OkP, Ok]
    | true =>
      simp only [Option.map_some, OkP, OkO, ok_bind, ok_lift]
      refine ⟨fun q => ⟨fun _ => ?_, fun z => (nomatch z)⟩, fun q => ?_⟩
      · refine Ok.mono q fun z h3 => ?_
        show OkP ((cmpB op' h3 y z).map _) _ → _
        cases cmpB op' h3 y z <;> exact id
      · refine Ok.mono (q.1 trivial) fun z h3 => ?_
        show _ → OkP ((cmpB op' h3 y z).map _) _
        cases cmpB op' h3 y z <;> exact id
theorem w_tup {es : Exs} : Ok (evE C (.tup es) l h) Q ↔ Ok (evA C es l h) fun ds h1 => ds.length ≤ sizeLine ∧ Q (.tup ds) h1 := by
  show Ok (R.bind _ _) _ ↔ _
  rw [ok_bind]
  refine iff_of_eq (congrArg _ (funext fun ds => funext fun h1 => propext ?_))
  by_cases z : ds.length ≤ sizeLine <;> simp [z, Ok]
theorem w_lst {es : Exs} : Ok (evE C (.lst es) l h) Q ↔ Ok (evA C es l h) fun ds h1 => ds.length ≤ sizeLine ∧ Q (.ref h1.length) (h1 ++ [.lst ds]) := by
  show Ok (R.bind _ _) _ ↔ _
  rw [ok_bind]
  refine iff_of_eq (congrArg _ (funext fun ds => funext fun h1 => propext ?_))
  by_cases z : ds.length ≤ sizeLine <;> simp [z, Ok, liftP, newO]
theorem w_call {f : Nat} {es : Exs} : Ok (evE C (.call f es) l h) Q ↔ Ok (evA C es l h) fun ds h1 => Ok (C.call f ds h1) Q := by
  show Ok (R.bind _ _) _ ↔ _
  rw [ok_bind]
theorem w_blt {b : Bi} {es : Exs} : Ok (evE C (.blt b es) l h) Q ↔ Ok (evA C es l h) fun ds h1 => OkP (bltF b ds h1) Q := by
  show Ok (R.bind _ _) _ ↔ _
  simp only [ok_bind, ok_lift]
theorem w_attr {o : Ex} {f : Nat} : Ok (evE C (.attr o f) l h) Q ↔ Ok (evE C o l h) fun x h1 => OkP (attrF C.ct f [x] h1) Q := by
  show Ok (ev1 _ _ _ _) _ ↔ _
  unfold ev1
  simp only [ok_bind, ok_lift]
theorem w_dic0 : Ok (evE C .dic0 l h) Q ↔ Q (.ref h.length) (h ++ [.dic []]) := Iff.rfl
theorem w_meth {m : Mi} {o : Ex} {es : Exs} : Ok (evE C (.meth m o es) l h) Q ↔ Ok (evE C o l h) fun x h1 => rcvOk m x h1 = true ∧ Ok (evA C es l h1) fun ds h2 => OkP (methF m (x :: ds) h2) Q := by
  show Ok (R.bind _ _) _ ↔ _
  rw [ok_bind]
  refine iff_of_eq (congrArg _ (funext fun x => funext fun h1 => propext ?_))
  cases z : rcvOk m x h1 with
  | false => simp [Ok]
  | true => simp only [true_and, ok_bind, ok_lift]
theorem w_slc {o : Ex} {lo hi : Op} : Ok (evE C (.slc o lo hi) l h) Q ↔ Ok (evE C o l h) fun x h1 => Ok (evOp C lo l h1) fun a h2 => Ok (evOp C hi l h2) fun b h3 => OkP (slcF x a b h3) Q := by
  show Ok (R.bind _ _) _ ↔ _
  simp only [ok_bind, ok_lift]
theorem w_ono {Q : Option Int → PHeap → Prop} : Ok (evOp C .no l h) Q ↔ Q none h := Iff.rfl
theorem w_oyes {e : Ex} {Q : Option Int → PHeap → Prop} : Ok (evOp C (.yes e) l h) Q ↔ Ok (evE C e l h) fun d h1 => match d with
    | .int i => Q (some i) h1
    | _ => False := by
  show Ok (optI (evE C e l h)) Q ↔ _
  cases evE C e l h with
  | ok d h1 => cases d <;> exact Iff.rfl
  | exc => exact Iff.rfl
  | stuck => exact Iff.rfl
theorem w_nil {Q : List PV → PHeap → Prop} : Ok (evA C .nil l h) Q ↔ Q [] h := Iff.rfl
theorem w_cons {e : Ex} {es : Exs} {Q : List PV → PHeap → Prop} : Ok (evA C (.cons e es) l h) Q ↔ Ok (evE C e l h) fun x h1 => Ok (evA C es l h1) fun xs h2 => Q (x :: xs) h2 := by
  show Ok (evCons _ _ _ _) _ ↔ _
  unfold evCons
  simp only [ok_bind, ok_ok]
theorem w_star {e : Ex} {es : Exs} {Q : List PV → PHeap → Prop} : Ok (evA C (.star e es) l h) Q ↔ Ok (evE C e l h) fun x h1 => OkO (seqOf h1 x) fun ds => Ok (evA C es l h1) fun xs h2 => Q (ds ++ xs) h2 := by
  show Ok (R.bind _ _) _ ↔ _
  rw [ok_bind]
  refine iff_of_eq (congrArg _ (funext fun x => funext fun h1 => propext ?_))
  cases seqOf h1 x with
  | none => exact Iff.rfl
  | some ds => simp only [OkO, ok_bind, ok_ok]
/-! statements -/
theorem s_ex {e : Ex} : OkS (exS C (.ex e) l h) N T ↔ Ok (evE C e l h) fun _ h1 => N l h1 := by
  show OkS (R.toS _ _ _) _ _ ↔ _
  rw [okS_to]; exact Iff.rfl
theorem s_asg {t : Tg} {e : Ex} : OkS (exS C (.asg t e) l h) N T ↔ Ok (evE C e l h) fun d h1 => OkO (bindT t d l) fun l1 => N l1 h1 := by
  show OkS (R.toS _ _ _) _ _ ↔ _
  rw [okS_to]
  refine iff_of_eq (congrArg _ (funext fun d => funext fun h1 => propext ?_))
  cases bindT t d l <;> exact Iff.rfl
theorem s_put {o i e : Ex} : OkS (exS C (.put o i e) l h) N T ↔ Ok (evE C e l h) fun v h1 => Ok (evE C o l h1) fun x h2 => Ok (evE C i l h2) fun y h3 => OkO (putF x y v h3) fun h4 => N l h4 := by
  show OkS (R.toS _ _ _) _ _ ↔ _
  simp only [okS_to]
  refine iff_of_eq (congrArg _ (funext fun v => funext fun h1 => congrArg _ (funext fun x => funext fun h2 => congrArg _ (funext fun y => funext fun h3 => propext ?_))))
  cases putF x y v h3 <;> exact Iff.rfl
theorem s_fld {o e : Ex} {f : Nat} : OkS (exS C (.fld o f e) l h) N T ↔ Ok (evE C e l h) fun v h1 => Ok (evE C o l h1) fun x h2 => OkO (fldF C.ct x f v h2) fun h4 => N l h4 := by
  show OkS (R.toS _ _ _) _ _ ↔ _
  simp only [okS_to]
  refine iff_of_eq (congrArg _ (funext fun v => funext fun h1 => congrArg _ (funext fun x => funext fun h2 => propext ?_)))
  cases fldF C.ct x f v h2 <;> exact Iff.rfl
theorem s_ret {e : Ex} : OkS (exS C (.ret e) l h) N T ↔ Ok (evE C e l h) T := by
  show OkS (R.toS _ _ _) _ _ ↔ _
  rw [okS_to]; exact Iff.rfl
theorem s_ret0 : OkS (exS C .ret0 l h) N T ↔ T .non h := Iff.rfl
theorem s_iff {c : Ex} {a b : Sxs} : OkS (exS C (.iff c a b) l h) N T ↔ Ok (evE C c l h) fun x h1 => OkO (truthF h1 x) fun k => (k = true → OkS (exSs C a l h1) N T) ∧ (k = false → OkS (exSs C b l h1) N T) := by
  show OkS (R.toS _ _ _) _ _ ↔ _
  rw [okS_to, ok_truth]
  refine iff_of_eq (congrArg _ (funext fun x => funext fun h1 => propext ?_))
  cases truthF h1 x with
  | none => exact Iff.rfl
  | some k => cases k <;> simp [OkO]
theorem s_nil : OkS (exSs C .nil l h) N T ↔ N l h := Iff.rfl
theorem s_cons {s : Sx} {r : Sxs} : OkS (exSs C (.cons s r) l h) N T ↔ OkS (exS C s l h) (fun l1 h1 => OkS (exSs C r l1 h1) N T) T := by
  show OkS (match exS C s l h with | .nx l1 h1 => exSs C r l1 h1 | x => x) N T ↔ _
  cases exS C s l h <;> exact Iff.rfl
/-- a def -/
theorem f_run {fd : Fd} {ds : List PV} (hl : ds.length = fd.np) : Ok (runFn fd C ds h) Q ↔ OkS (exSs C fd.body (ds.map some ++ List.replicate (fd.n - fd.np) none) h) (fun _ h1 => Q .non h1) Q := by
  unfold runFn
  rw [if_pos hl]
  cases exSs C fd.body (ds.map some ++ List.replicate (fd.n - fd.np) none) h <;> exact Iff.rfl
theorem f_call {ct : Ct} {Tb : Nat → Option Fd} {n f : Nat} {fd : Fd} {ds : List PV} (e : Tb f = some fd) (hl : ds.length = fd.np) :
    Ok (callN ct Tb (n + 1) f ds h) Q ↔ OkS (exSs ⟨callN ct Tb n, ct⟩ fd.body (ds.map some ++ List.replicate (fd.n - fd.np) none) h) (fun _ h1 => Q .non h1) Q := by
  show Ok (match Tb f with | some fd => runFn fd ⟨callN ct Tb n, ct⟩ ds h | none => .stuck) Q ↔ _
  rw [e]
  exact f_run hl
end

/-! ### steps: one clause at the head of the goal -/
section
variable {C : Orc} {l : Loc} {h : PHeap} {Q : PV → PHeap → Prop}
theorem okP_of {o : Option (PV × PHeap)} {d : PV} {h' : PHeap} (e : o = some (d, h')) (q : Q d h') : OkP o Q := by rw [e]; exact q
theorem okO_of {α : Type} {o : Option α} {a : α} {Q : α → Prop} (e : o = some a) (q : Q a) : OkO o Q := by rw [e]; exact q
theorem x_loc {i : Nat} {d : PV} (e : l[i]? = some (some d)) (q : Q d h) : Ok (evE C (.loc i) l h) Q := w_loc.mpr (by rw [e]; exact q)
theorem x_int {Q : Option Int → PHeap → Prop} {i : Int} (q : Q (some i) h) : (match PV.int i with | .int i => Q (some i) h | _ => False) := q
theorem get_lst {i : Nat} {ds : List PV} {k : Int} (e : h[i]? = some (.lst ds)) : getF (.ref i) (.int k) h = atI ds k := by
  simp only [getF, e]
theorem get_dic {i : Nat} {kvs : List (PV × PV)} {k : PV} (e : h[i]? = some (.dic kvs)) : getF (.ref i) k h = dGetF kvs k := by
  simp only [getF, e]
theorem put_lst {i j : Nat} {ds : List PV} {k : Int} {v : PV} (e : h[i]? = some (.lst ds)) (hj : ixN ds.length k = some j) : putF (.ref i) (.int k) v h = some (h.set i (.lst (ds.set j v))) := by
  simp only [putF, e, hj]; rfl
theorem mod_ok {i j : Int} (hj : 0 < j) : bopF .mod [.int i, .int j] h = some (.int (i % j), h) := by
  simp only [bopF, arI, if_pos hj]; rfl
theorem fdiv_ok {i j : Int} (hj : 0 < j) (hb : j.natAbs < big) : bopF .fdiv [.int i, .int j] h = some (.int (i / j), h) := by
  simp only [bopF, arI, if_pos (And.intro hj hb)]; rfl
theorem mul_ok {i j : Int} (hi : i.natAbs < big) (hj : j.natAbs < big) : bopF .mul [.int i, .int j] h = some (.int (i * j), h) := by
  simp only [bopF, mulF, if_pos (And.intro hi hj)]
theorem lt_big {i : Int} (h1 : -(2 ^ 200) < i) (h2 : i < 2 ^ 200) : i.natAbs < big := by
  have : i.natAbs < 2 ^ 200 := by omega
  exact Nat.lt_of_lt_of_le this (by unfold big; exact Nat.pow_le_pow_right (by decide) (by decide))
end
theorem line_of {n : Nat} (h : n ≤ 1000) : n ≤ sizeLine := Nat.le_trans h (by rw [sizeLine_eq]; decide)
theorem okL {ds : List PV} {P : Prop} (hl : ds.length ≤ 1000) (p : P) : ds.length ≤ sizeLine ∧ P := ⟨line_of hl, p⟩
theorem okO_bind {i : Nat} {d : PV} {l : Loc} {Q : Loc → Prop} (hi : i < l.length) (q : Q (l.set i (some d))) : OkO (bindT (.nm i) d l) Q := by
  unfold bindT
  rw [if_pos hi]; exact q
theorem okO_get {h : PHeap} {i : Nat} {k : Int} {ds : List PV} {d : PV} {Q : PV → Prop} (e : h[i]? = some (.lst ds)) (g : atI ds k = some d) (q : Q d) : OkO (getF (.ref i) (.int k) h) Q := okO_of ((get_lst e).trans g) q
theorem okO_put {h : PHeap} {i j : Nat} {k : Int} {ds : List PV} {v : PV} {Q : PHeap → Prop} (e : h[i]? = some (.lst ds)) (g : ixN ds.length k = some j) (q : Q (h.set i (.lst (ds.set j v)))) : OkO (putF (.ref i) (.int k) v h) Q := okO_of (put_lst e g) q
theorem okP_mod {h : PHeap} {i j : Int} {Q : PV → PHeap → Prop} (hj : 0 < j) (q : Q (.int (i % j)) h) : OkP (bopF .mod [.int i, .int j] h) Q := okP_of (mod_ok hj) q
theorem okP_fdiv {h : PHeap} {i j : Int} {Q : PV → PHeap → Prop} (hj : 0 < j) (hb : j < 2 ^ 200) (q : Q (.int (i / j)) h) : OkP (bopF .fdiv [.int i, .int j] h) Q := okP_of (fdiv_ok hj (lt_big (by omega) hb)) q
theorem okP_mul {h : PHeap} {i j : Int} {Q : PV → PHeap → Prop} (h1 : -2 ^ 200 < i ∧ i < 2 ^ 200) (h2 : -2 ^ 200 < j ∧ j < 2 ^ 200) (q : Q (.int (i * j)) h) : OkP (bopF .mul [.int i, .int j] h) Q := okP_of (mul_ok (lt_big h1.1 h1.2) (lt_big h2.1 h2.2)) q
theorem get_self {h : PHeap} {i : Nat} {o o' : PObj} (e : h[i]? = some o) : (h.set i o')[i]? = some o' := by
  rw [List.getElem?_set_self (List.getElem?_eq_some_iff.mp e).1]
theorem sh_str {x : Str} (hx : PyData.strOk x = true) : SeqAt.shaped (.str x) = true := by
  unfold SeqAt.shaped
  simp only [PyData.canLay0, hx, PyData.depth]; rfl
theorem eq_str {h : PHeap} {x y : Str} (hx : PyData.strOk x = true) (hy : PyData.strOk y = true) : eqF h (.str x) (.str y) = some (x == y) := by
  unfold eqF
  show (if SeqAt.shaped (.str x) = true ∧ SeqAt.shaped (.str y) = true then _ else _) = _
  rw [if_pos ⟨sh_str hx, sh_str hy⟩]
  simp only [PyData.eqv]
theorem okO_eqs {h : PHeap} {x y : Str} {Q : Bool → Prop} (hx : PyData.strOk x = true) (hy : PyData.strOk y = true) (q : Q (x == y)) : OkO (cmpB .eq h (.str x) (.str y)) Q := okO_of (show eqF h _ _ = _ from eq_str hx hy) q
theorem okO_nes {h : PHeap} {x y : Str} {Q : Bool → Prop} (hx : PyData.strOk x = true) (hy : PyData.strOk y = true) (q : Q (!(x == y))) : OkO (cmpB .ne h (.str x) (.str y)) Q := okO_of (show (eqF h _ _).map _ = _ by rw [eq_str hx hy]; rfl) q
theorem br_t {b : Bool} {A B : Prop} (e : b = true) (a : A) : (b = true → A) ∧ (b = false → B) := ⟨fun _ => a, fun z => by rw [e] at z; cases z⟩
theorem br_f {b : Bool} {A B : Prop} (e : b = false) (a : B) : (b = true → A) ∧ (b = false → B) := ⟨fun z => (by rw [e] at z; cases z), fun _ => a⟩
theorem okO_some {α : Type} {a : α} {Q : α → Prop} (q : Q a) : OkO (some a) Q := q
theorem okO_bl {h : PHeap} {b : Bool} {Q : Bool → Prop} (q : Q b) : OkO (truthF h (.bl b)) Q := q
/-! ### walks -/
section
variable {C : Orc} {l : Loc} {h : PHeap} {Q : PV → PHeap → Prop} {N : Loc → PHeap → Prop} {T : PV → PHeap → Prop}
theorem w_val {e : Ex} {Q : Src → PHeap → Prop} : Ok (evI C (.val e) l h) Q ↔ Ok (evE C e l h) fun d h1 => OkO (srcOf h1 d) fun s => Q s h1 := by
  show Ok (R.bind _ _) _ ↔ _
  rw [ok_bind]
  refine iff_of_eq (congrArg _ (funext fun d => funext fun h1 => propext ?_))
  show Ok (srcR (srcOf h1 d) h1) Q ↔ _
  cases srcOf h1 d <;> exact Iff.rfl
theorem x_rng1 {e : Ex} {Q : Src → PHeap → Prop} (k : Ok (evE C e l h) fun d h1 => ∃ j : Int, d = .int j ∧ 0 ≤ j ∧ j < 1000 ∧ Q (.seq ((List.range j.toNat).map fun (i : Nat) => .int (0 + i))) h1) : Ok (evI C (.rng1 e) l h) Q := by
  show Ok (R.bind _ _) _
  rw [ok_bind]
  refine k.mono fun d h1 ⟨j, e1, j0, j1, q⟩ => ?_
  subst e1
  show Ok (srcR (rngOf 0 j) h1) Q
  unfold rngOf
  rw [if_pos ⟨by decide, by decide, by omega, by omega⟩, Int.sub_zero]
  exact q
theorem x_rng2 {a b : Ex} {Q : Src → PHeap → Prop} (k : Ok (evE C a l h) fun d h1 => ∃ i : Int, d = .int i ∧ 0 ≤ i ∧ i < 1000 ∧ Ok (evE C b l h1) fun d h2 => ∃ j : Int, d = .int j ∧ 0 ≤ j ∧ j < 1000 ∧ Q (.seq ((List.range (j - i).toNat).map fun (n : Nat) => .int (i + n))) h2) : Ok (evI C (.rng2 a b) l h) Q := by
  show Ok (R.bind _ _) _
  rw [ok_bind]
  refine k.mono fun d h1 ⟨i, e1, i0, i1, q⟩ => ?_
  subst e1
  rw [ok_bind]
  refine q.mono fun d h2 ⟨j, e2, j0, j1, q⟩ => ?_
  subst e2
  show Ok (srcR (rngOf i j) h2) Q
  unfold rngOf
  rw [if_pos ⟨by omega, by omega, by omega, by omega⟩]
  exact q
theorem w_lc {elt : Ex} {tg : Tg} {it : Itr} {ifs : Op} {own : List Nat} : Ok (evE C (.lc elt tg it ifs own) l h) Q ↔ Ok (evI C it l h) fun src h1 => Ok (lcLoop tg src (evT1 C ifs) (evE C elt) (wipeP l own) (srcLen h1 src + 1) 0 [] h1) fun ds h2 => Q (.ref h2.length) (h2 ++ [.lst ds]) := by
  show Ok (R.bind _ _) _ ↔ _
  simp only [ok_bind, ok_lift]; exact Iff.rfl
theorem w_for {t : Tg} {it : Itr} {b : Sxs} : OkS (exS C (.for_ t it b) l h) N T ↔ Ok (evI C it l h) fun src h1 => OkS (forLoop t src (exSs C b) (srcLen h1 src + 1) 0 l h1) N T := by
  show OkS (R.toS _ _ _) _ _ ↔ _
  rw [okS_to]
theorem w_tno {Q : Bool → PHeap → Prop} : Ok (evT1 C .no l h) Q ↔ Q true h := Iff.rfl
theorem w_tyes {e : Ex} {Q : Bool → PHeap → Prop} : Ok (evT1 C (.yes e) l h) Q ↔ Ok (evE C e l h) fun d h1 => OkO (truthF h1 d) fun b => Q b h1 := by
  show Ok (truthR _) _ ↔ _
  rw [ok_truth]
/-- the turns of a comprehension -/
theorem ok_lc {tg : Tg} {src : Src} {tt : Loc → PHeap → R Bool} {el : Loc → PHeap → R PV} {lw : Loc} {ds : List PV} (P : Nat → List PV → PHeap → Prop) (hz : ds.length ≤ 1000)
    (hs : ∀ i acc h, P i acc h → srcAt h i src = some ds[i]?)
    (st : ∀ i d acc h, ds[i]? = some d → P i acc h → OkO (bindT tg d lw) fun l => Ok (tt l h) fun b h1 => (b = false → P (i + 1) acc h1) ∧ (b = true → Ok (el l h1) fun y h2 => P (i + 1) (acc ++ [y]) h2)) :
    ∀ (n i : Nat) (acc : List PV) (h : PHeap), n + i = ds.length + 1 → i ≤ ds.length → acc.length ≤ i → P i acc h → Ok (lcLoop tg src tt el lw n i acc h) fun acc h' => P ds.length acc h' := by
  intro n
  induction n with
  | zero => intro i acc h e hi; omega
  | succ n ih =>
    intro i acc h e hi hl p
    unfold lcLoop
    rw [hs i acc h p]
    by_cases q : i < ds.length
    · rw [List.getElem?_eq_getElem q]
      have s := st i ds[i] acc h (List.getElem?_eq_getElem q) p
      dsimp only
      revert s
      cases bindT tg ds[i] lw with
      | none => exact False.elim
      | some l =>
        intro s
        obtain ⟨b, h1, e1, k1, k2⟩ := Ok.get (r := tt l h) s
        dsimp only
        rw [e1]
        cases b with
        | false => exact ih (i + 1) acc h1 (by omega) q (by omega) (k1 rfl)
        | true =>
          obtain ⟨y, h2, e2, k⟩ := (k2 rfl).get
          dsimp only
          rw [e2]
          dsimp only
          rw [if_pos (Nat.lt_of_lt_of_le (by omega : acc.length < 1000) (line_of (Nat.le_refl _)))]
          exact ih (i + 1) (acc ++ [y]) h2 (by omega) q (by rw [List.length_append]; simp; omega) k
    · obtain rfl : i = ds.length := by omega
      rw [List.getElem?_eq_none (Nat.le_refl _)]
      exact p
/-- the turns of a for -/
theorem ok_for {tg : Tg} {src : Src} {body : Loc → PHeap → RS} {ds : List PV} (P : Nat → Loc → PHeap → Prop)
    (hs : ∀ i l h, P i l h → srcAt h i src = some ds[i]?)
    (st : ∀ i d l h, ds[i]? = some d → P i l h → OkO (bindT tg d l) fun l1 => OkS (body l1 h) (fun l2 h2 => P (i + 1) l2 h2) T) (pn : ∀ l h, P ds.length l h → N l h) :
    ∀ (n i : Nat) (l : Loc) (h : PHeap), n + i = ds.length + 1 → i ≤ ds.length → P i l h → OkS (forLoop tg src body n i l h) N T := by
  intro n
  induction n with
  | zero => intro i l h e hi; omega
  | succ n ih =>
    intro i l h e hi p
    unfold forLoop
    rw [hs i l h p]
    by_cases q : i < ds.length
    · rw [List.getElem?_eq_getElem q]
      have s := st i ds[i] l h (List.getElem?_eq_getElem q) p
      dsimp only
      revert s
      cases bindT tg ds[i] l with
      | none => exact False.elim
      | some l1 =>
        intro s
        have s : OkS (body l1 h) (fun l2 h2 => P (i + 1) l2 h2) T := s
        revert s
        dsimp only
        cases body l1 h with
        | nx l2 h2 => intro s; exact ih (i + 1) l2 h2 (by omega) q s
        | rt d h2 => exact id
        | bk => exact False.elim
        | ct => exact False.elim
        | exc => exact False.elim
        | stuck => exact False.elim
    · obtain rfl : i = ds.length := by omega
      rw [List.getElem?_eq_none (Nat.le_refl _)]
      exact pn l h p
end

/-! ### frames -/
def Fr (S : List Nat) (h h' : PHeap) : Prop := h.length ≤ h'.length ∧ ∀ j, j < h.length → j ∉ S → h'[j]? = h[j]?
section
variable {S S' : List Nat} {h h1 h2 : PHeap} {o : PObj} {i j : Nat}
theorem Fr.refl : Fr S h h := ⟨Nat.le_refl _, fun _ _ _ => rfl⟩
theorem Fr.trans (a : Fr S h h1) (b : Fr S h1 h2) : Fr S h h2 := ⟨Nat.le_trans a.1 b.1, fun j hj n => (b.2 j (Nat.lt_of_lt_of_le hj a.1) n).trans (a.2 j hj n)⟩
theorem Fr.mono (a : Fr S h h1) (s : ∀ x ∈ S, x ∈ S') : Fr S' h h1 := ⟨a.1, fun j hj n => a.2 j hj fun z => n (s j z)⟩
theorem Fr.app (x : PHeap) : Fr S h (h ++ x) := ⟨by rw [List.length_append]; omega, fun j hj _ => List.getElem?_append_left hj⟩
theorem Fr.set (hi : i ∈ S) : Fr S h (h.set i o) := ⟨by rw [List.length_set]; exact Nat.le_refl _, fun j hj n => List.getElem?_set_ne fun z : i = j => n (z ▸ hi)⟩
theorem lt_of_get (e : h[j]? = some o) : j < h.length := (List.getElem?_eq_some_iff.mp e).1
theorem Fr.get (a : Fr S h h1) (e : h[j]? = some o) (n : j ∉ S) : h1[j]? = some o := (a.2 j (lt_of_get e) n).trans e
theorem Fr.get0 (a : Fr [] h h1) (e : h[j]? = some o) : h1[j]? = some o := a.get e List.not_mem_nil
/-- what is written beyond h is free to change -/
theorem Fr.drop (a : Fr S h h1) (n : ∀ x ∈ S, h.length ≤ x ∨ x ∈ S') : Fr S' h h1 := ⟨a.1, fun j hj m => a.2 j hj fun z => (n j z).elim (fun q => by omega) m⟩
theorem Fr.len (a : Fr S h h1) : h.length ≤ h1.length := a.1
theorem get_new : (h ++ [o])[h.length]? = some o := by rw [List.getElem?_append_right (Nat.le_refl _), Nat.sub_self]; rfl
theorem okP_len {ds : List PV} {Q : PV → PHeap → Prop} (e : h[j]? = some (.lst ds)) (q : Q (.int ds.length) h) : OkP (bltF .len [.ref j] h) Q := by
  refine okP_of (d := .int ds.length) (h' := h) ?_ q
  show (seqOf h (.ref j)).map _ = _
  simp only [seqOf, e]; rfl
theorem atI_mem {ds : List PV} {r : Int} (h0 : 0 ≤ r) (h1 : r < ds.length) : ∃ d, atI ds r = some d ∧ d ∈ ds ∧ ds[r.toNat]? = some d := by
  unfold atI ixN
  rw [if_pos h0, if_pos h1]
  have hl : r.toNat < ds.length := by omega
  exact ⟨ds[r.toNat], by simp [List.getElem?_eq_getElem hl], List.getElem_mem hl, List.getElem?_eq_getElem hl⟩
end

section
variable {h : PHeap} {i j : Nat} {xs ys : List PV} {v : PV} {Q : PV → PHeap → Prop}
theorem rcv_lst {m : Mi} (e : h[i]? = some (.lst xs)) : rcvOk m (.ref i) h = true := by simp only [rcvOk, e]
theorem okP_app (e : h[i]? = some (.lst xs)) (hl : xs.length < 1000) (q : Q .non (h.set i (.lst (xs ++ [v])))) : OkP (methF .append [.ref i, v] h) Q := by
  refine okP_of ?_ q
  show appP [.ref i, v] h = _
  simp only [appP, e]
  rw [if_pos (Nat.lt_of_lt_of_le hl (line_of (Nat.le_refl _)))]
theorem okP_ext (e : h[i]? = some (.lst xs)) (e' : h[j]? = some (.lst ys)) (ne : i ≠ j) (hl : xs.length + ys.length ≤ 1000) (q : Q .non (h.set i (.lst (xs ++ ys)))) : OkP (methF .extend [.ref i, .ref j] h) Q := by
  refine okP_of ?_ q
  show extP [.ref i, .ref j] h = _
  simp only [extP, e, e']
  rw [if_pos ⟨ne, line_of hl⟩]
theorem okP_slcL {a b : Option Int} (e : h[i]? = some (.lst xs)) (q : Q (.ref h.length) (h ++ [.lst (cutP xs a b)])) : OkP (slcF (.ref i) a b h) Q := by
  refine okP_of ?_ q
  simp only [slcF, lstOf, e]; rfl
theorem okP_cat (e : h[i]? = some (.lst xs)) (e' : h[j]? = some (.lst ys)) (hl : xs.length + ys.length ≤ 1000) (q : Q (.ref h.length) (h ++ [.lst (xs ++ ys)])) : OkP (bopF .add [.ref i, .ref j] h) Q := by
  refine okP_of ?_ q
  show addF (.ref i) (.ref j) h = _
  simp only [addF, lstR, e, e']
  rw [if_pos (line_of hl)]; rfl
end

end Zed
end
open PySem L2 Zed
local macro_rules | `(tactic| walk_at "z1") => `(tactic| first | with_reducible refine s_cons.mpr ?_ | with_reducible refine w_val.mpr ?_ | with_reducible refine w_lc.mpr ?_ | with_reducible refine w_for.mpr ?_ | with_reducible refine w_tno.mpr ?_ | with_reducible refine w_tyes.mpr ?_ | with_reducible refine s_nil.mpr ?_ | with_reducible refine s_asg.mpr ?_ | with_reducible refine s_put.mpr ?_ | with_reducible refine s_fld.mpr ?_ | with_reducible refine s_ret.mpr ?_ | with_reducible refine s_ret0.mpr ?_ | with_reducible refine s_iff.mpr ?_ | with_reducible refine s_ex.mpr ?_ | with_reducible refine w_con.mpr ?_ | with_reducible refine w_bin.mpr ?_ | with_reducible refine w_cmp.mpr ?_ | with_reducible refine w_sub.mpr ?_ | with_reducible refine w_not.mpr ?_ | with_reducible refine w_and.mpr ?_ | with_reducible refine w_or.mpr ?_ | with_reducible refine w_ite.mpr ?_ | with_reducible refine w_chn.mpr ?_ | with_reducible refine w_tup.mpr ?_ | with_reducible refine w_lst.mpr ?_ | with_reducible refine w_call.mpr ?_ | with_reducible refine w_blt.mpr ?_ | with_reducible refine w_attr.mpr ?_ | with_reducible refine w_dic0.mpr ?_ | with_reducible refine w_meth.mpr ?_ | with_reducible refine w_slc.mpr ?_ | with_reducible refine w_ono.mpr ?_ | with_reducible refine w_oyes.mpr ?_ | with_reducible refine w_nil.mpr ?_ | with_reducible refine w_cons.mpr ?_ | with_reducible refine w_star.mpr ?_ | ((with_reducible apply x_loc); first | rfl | assumption) | ((with_reducible refine okO_bind ?_ ?_); exact Nat.le_of_ble_eq_true rfl; dsimp only [List.set]) | with_reducible refine okO_bl ?_ | with_reducible refine okO_some ?_ )
local macro_rules | `(tactic| walk_at "zz") => `(tactic| repeat (first | walk_at "z1" | ((with_reducible refine okO_eqs ?_ ?_ ?_); (first | assumption | decide +kernel); (first | assumption | decide +kernel)) | ((with_reducible refine okO_nes ?_ ?_ ?_); (first | assumption | decide +kernel); (first | assumption | decide +kernel)) | ((with_reducible refine br_t ?_ ?_); first | rfl | assumption) | ((with_reducible refine br_f ?_ ?_); first | rfl | assumption) | ((with_reducible refine okL ?_ ?_); exact Nat.le_of_ble_eq_true rfl) | ((with_reducible apply okO_get); assumption; rfl) | ((with_reducible apply okO_put); assumption; rfl; try dsimp only [Int.reduceToNat, List.set]) | ((with_reducible apply okP_of); rfl) | ((with_reducible apply okO_of); rfl)))
local macro_rules | `(tactic| walk_at "zs") => `(tactic| (first | (with_reducible refine x_rng1 ?_) | (with_reducible refine x_rng2 ?_) | walk_at "z1" | ((with_reducible refine okO_eqs ?_ ?_ ?_); (first | assumption | decide +kernel); (first | assumption | decide +kernel)) | ((with_reducible refine okO_nes ?_ ?_ ?_); (first | assumption | decide +kernel); (first | assumption | decide +kernel)) | ((with_reducible refine br_t ?_ ?_); first | rfl | assumption) | ((with_reducible refine br_f ?_ ?_); first | rfl | assumption) | ((with_reducible refine okL ?_ ?_); exact Nat.le_of_ble_eq_true rfl) | ((with_reducible apply okO_get); assumption; rfl) | ((with_reducible apply okO_put); assumption; rfl; try dsimp only [Int.reduceToNat, List.set]) | ((with_reducible apply okP_of); rfl) | ((with_reducible apply okO_of); rfl)))
local macro_rules | `(tactic| walk_at "zy") => `(tactic| repeat walk_at "zs")
section
set_option Elab.async false
set_option linter.all false
set_option maxRecDepth 100000
/-! ZedQ: rows with the same members sort to the same row. -/
namespace Zed
open PySem L2
theorem stepD_mem {acc : List Str} {k x : Str} : x ∈ stepD acc k ↔ x ∈ acc ∨ x = k := by
  unfold stepD
  split
  · rename_i h
    exact ⟨.inl, fun z => z.elim id fun e => e ▸ h⟩
  · rw [List.mem_append, List.mem_singleton]
theorem stepD_nodup {acc : List Str} {k : Str} (h : acc.Nodup) : (stepD acc k).Nodup := by
  unfold stepD
  split
  · exact h
  · rename_i z
    exact List.nodup_append.mpr ⟨h, List.nodup_cons.mpr ⟨List.not_mem_nil, List.nodup_nil⟩, fun x hx y hy => by rw [List.mem_singleton.mp hy]; exact fun e => z (e ▸ hx)⟩
theorem foldD : ∀ (xs acc : List Str), acc.Nodup → (xs.foldl stepD acc).Nodup ∧ ∀ x, x ∈ xs.foldl stepD acc ↔ x ∈ acc ∨ x ∈ xs
  | [], acc, h => ⟨h, fun x => by simp⟩
  | k :: r, acc, h => by
    obtain ⟨h1, h2⟩ := foldD r (stepD acc k) (stepD_nodup h)
    refine ⟨h1, fun x => ?_⟩
    show x ∈ r.foldl stepD (stepD acc k) ↔ _
    rw [h2 x, stepD_mem, List.mem_cons, or_assoc]
theorem dedS_nodup (xs : List Str) : (dedS xs).Nodup := (foldD xs [] List.nodup_nil).1
theorem dedS_mem (xs : List Str) (x : Str) : x ∈ dedS xs ↔ x ∈ xs := by
  unfold dedS
  rw [(foldD xs [] List.nodup_nil).2 x]; simp
theorem sortS_perm_eq {xs ys : List Str} (p : xs.Perm ys) : sortS xs = sortS ys :=
  List.Perm.eq_of_pairwise (le := LeT) (fun _ _ _ _ a b => a.anti b) (sortS_pw xs) (sortS_pw ys) (((sortS_perm xs).trans p).trans (sortS_perm ys).symm)
theorem sortS_same {xs ys : List Str} (h : ∀ x, x ∈ xs ↔ x ∈ ys) : sortS (dedS xs) = sortS (dedS ys) :=
  sortS_perm_eq ((List.perm_ext_iff_of_nodup (dedS_nodup xs) (dedS_nodup ys)).mpr fun x => by rw [dedS_mem, dedS_mem, h])
end Zed
end
section
set_option Elab.async false
set_option linter.all false
set_option maxRecDepth 100000
set_option maxHeartbeats 0
namespace Zed
namespace Law
open PySem L2
def top (i : Nat) : Stmt := PySem.Challenge.pw_depthmarks_k16_expressions_hold.main.body.getD i (.Pass ⟨0, 0, 0, 0⟩)
def inn (i j : Nat) : Stmt := match top i with
  | .ClassDef _ _ _ b _ _ _ _ _ _ _ => b.getD j (.Pass ⟨0, 0, 0, 0⟩)
  | _ => .Pass ⟨0, 0, 0, 0⟩
def f_wall : Fd := ⟨1, 1, (.cons (.whl (.con (.bl true))
  (.cons .pass
  .nil))
  .nil)⟩
def f_is_index : Fd := ⟨2, 2, (.cons (.ret (.and (.blt .isinstance (.cons (.loc 0) (.cons (.con (.ty "int")) .nil))) (.and (.not (.blt .isinstance (.cons (.loc 0) (.cons (.con (.ty "bool")) .nil)))) (.chn .le .lt (.con (.int 0)) (.loc 0) (.loc 1)))))
  .nil)⟩
def f_is_name : Fd := ⟨1, 2, (.cons (.iff (.or (.not (.blt .isinstance (.cons (.loc 0) (.cons (.con (.ty "str")) .nil)))) (.not (.chn .le .le (.con (.int 1)) (.blt .len (.cons (.loc 0) .nil)) (.con (.int 8)))))
  (.cons (.ret (.con (.bl false)))
  .nil)
  .nil)
  (.cons (.ret (.blt .all (.cons (.lc (.chn .le .le (.con (.str "a")) (.loc 1) (.con (.str "z"))) (.nm 1) (.val (.loc 0)) .no [1]) .nil)))
  .nil))⟩
def f_is_row : Fd := ⟨1, 2, (.cons (.ret (.and (.blt .isinstance (.cons (.loc 0) (.cons (.con (.ty "tuple")) .nil))) (.blt .all (.cons (.lc (.call 1 (.cons (.loc 1) .nil)) (.nm 1) (.val (.loc 0)) .no [1]) .nil))))
  .nil)⟩
def f_is_way : Fd := ⟨1, 1, (.cons (.ret (.and (.call 2 (.cons (.loc 0) .nil)) (.cmp .ne (.loc 0) (.tup .nil))))
  .nil)⟩
def f_is_atom : Fd := ⟨1, 1, (.cons (.iff (.cmp .eq (.loc 0) (.tup (.cons (.con (.str "root")) .nil)))
  (.cons (.ret (.con (.bl true)))
  .nil)
  .nil)
  (.cons (.iff (.cmp .eq (.sub (.loc 0) (.con (.int 0))) (.con (.str "label")))
  (.cons (.ret (.and (.cmp .eq (.blt .len (.cons (.loc 0) .nil)) (.con (.int 2))) (.call 1 (.cons (.sub (.loc 0) (.con (.int 1))) .nil))))
  .nil)
  .nil)
  (.cons (.iff (.or (.cmp .ne (.sub (.loc 0) (.con (.int 0))) (.con (.str "level"))) (.or (.cmp .ne (.blt .len (.cons (.loc 0) .nil)) (.con (.int 3))) (.or (.not (.call 3 (.cons (.sub (.loc 0) (.con (.int 2))) (.cons (.bin .add (.con (.int 4)) (.con (.int 1))) .nil)))) (.cmp .lt (.sub (.loc 0) (.con (.int 2))) (.con (.int 2))))))
  (.cons (.ret (.con (.bl false)))
  .nil)
  .nil)
  (.cons (.ret (.call 3 (.cons (.sub (.loc 0) (.con (.int 1))) (.cons (.sub (.loc 0) (.con (.int 2))) .nil))))
  .nil))))⟩
def f_is_built : Fd := ⟨2, 2, (.cons (.iff (.or (.not (.blt .isinstance (.cons (.loc 0) (.cons (.con (.ty "tuple")) .nil)))) (.or (.cmp .eq (.loc 0) (.tup .nil)) (.or (.not (.blt .isinstance (.cons (.sub (.loc 0) (.con (.int 0))) (.cons (.con (.ty "str")) .nil)))) (.cmp .eq (.loc 1) (.con (.int 0))))))
  (.cons (.ret (.con (.bl false)))
  .nil)
  .nil)
  (.cons (.iff (.cmp .isin (.sub (.loc 0) (.con (.int 0))) (.con (.tup [(.str "parent"), (.str "above"), (.str "not")])))
  (.cons (.ret (.and (.cmp .eq (.blt .len (.cons (.loc 0) .nil)) (.con (.int 2))) (.call 4 (.cons (.sub (.loc 0) (.con (.int 1))) (.cons (.bin .sub (.loc 1) (.con (.int 1))) .nil)))))
  .nil)
  .nil)
  (.cons (.iff (.cmp .isin (.sub (.loc 0) (.con (.int 0))) (.con (.tup [(.str "and"), (.str "or")])))
  (.cons (.ret (.and (.cmp .eq (.blt .len (.cons (.loc 0) .nil)) (.con (.int 3))) (.and (.call 4 (.cons (.sub (.loc 0) (.con (.int 1))) (.cons (.bin .sub (.loc 1) (.con (.int 1))) .nil))) (.call 4 (.cons (.sub (.loc 0) (.con (.int 2))) (.cons (.bin .sub (.loc 1) (.con (.int 1))) .nil))))))
  .nil)
  .nil)
  (.cons (.ret (.call 5 (.cons (.loc 0) .nil)))
  .nil))))⟩
def f_inner_of : Fd := ⟨1, 1, (.cons (.ret (.ite (.or (.cmp .isin (.sub (.loc 0) (.con (.int 0))) (.con (.tup [(.str "parent"), (.str "above"), (.str "not")]))) (.cmp .isin (.sub (.loc 0) (.con (.int 0))) (.con (.tup [(.str "and"), (.str "or")])))) (.slc (.loc 0) (.yes (.con (.int 1))) .no) (.tup .nil)))
  .nil)⟩
def f_parts_of : Fd := ⟨1, 3, (.cons (.asg (.nm 1) (.lst .nil))
  (.cons (.for_ (.nm 2) (.val (.call 6 (.cons (.loc 0) .nil)))
  (.cons (.ex (.meth .extend (.loc 1) (.cons (.call 7 (.cons (.loc 2) .nil)) .nil)))
  .nil))
  (.cons (.ret (.lst (.star (.loc 1) (.cons (.loc 0) .nil))))
  .nil)))⟩
def f_is_expression : Fd := ⟨1, 1, (.cons (.ret (.and (.call 4 (.cons (.loc 0) (.cons (.con (.int 5)) .nil))) (.cmp .le (.blt .len (.cons (.call 7 (.cons (.loc 0) .nil)) .nil)) (.con (.int 9)))))
  .nil)⟩
def f_require_expression : Fd := ⟨1, 1, (.cons (.iff (.not (.call 8 (.cons (.loc 0) .nil)))
  (.cons (.rai 0 .nil)
  .nil)
  .nil)
  .nil)⟩
def f_level_of : Fd := ⟨1, 1, (.cons (.ret (.bin .add (.bin .mod (.bin .sub (.loc 0) (.con (.int 1))) (.con (.int 12))) (.con (.int 1))))
  .nil)⟩
def f_holds_at : Fd := ⟨5, 6, (.cons (.asg (.nm 5) (.sub (.loc 0) (.con (.int 0))))
  (.cons (.iff (.cmp .eq (.loc 5) (.con (.str "label")))
  (.cons (.ret (.cmp .eq (.loc 1) (.sub (.loc 0) (.con (.int 1)))))
  .nil)
  .nil)
  (.cons (.iff (.cmp .eq (.loc 5) (.con (.str "root")))
  (.cons (.ret (.cmp .is (.loc 3) (.con .non)))
  .nil)
  .nil)
  (.cons (.iff (.cmp .eq (.loc 5) (.con (.str "level")))
  (.cons (.ret (.cmp .eq (.bin .mod (.loc 2) (.sub (.loc 0) (.con (.int 2)))) (.sub (.loc 0) (.con (.int 1)))))
  .nil)
  .nil)
  (.cons (.iff (.cmp .eq (.loc 5) (.con (.str "parent")))
  (.cons (.ret (.and (.cmp .isnot (.loc 3) (.con .non)) (.sub (.attr (.loc 3) 26) (.sub (.loc 0) (.con (.int 1))))))
  .nil)
  .nil)
  (.cons (.iff (.cmp .eq (.loc 5) (.con (.str "above")))
  (.cons (.ret (.and (.cmp .isnot (.loc 3) (.con .non)) (.or (.sub (.attr (.loc 3) 26) (.loc 0)) (.sub (.attr (.loc 3) 26) (.sub (.loc 0) (.con (.int 1)))))))
  .nil)
  .nil)
  (.cons (.iff (.cmp .eq (.loc 5) (.con (.str "not")))
  (.cons (.ret (.not (.sub (.loc 4) (.sub (.loc 0) (.con (.int 1))))))
  .nil)
  .nil)
  (.cons (.iff (.cmp .eq (.loc 5) (.con (.str "and")))
  (.cons (.ret (.and (.sub (.loc 4) (.sub (.loc 0) (.con (.int 1)))) (.sub (.loc 4) (.sub (.loc 0) (.con (.int 2))))))
  .nil)
  .nil)
  (.cons (.ret (.or (.sub (.loc 4) (.sub (.loc 0) (.con (.int 1)))) (.sub (.loc 4) (.sub (.loc 0) (.con (.int 2))))))
  .nil)))))))))⟩
def f_node_below : Fd := ⟨3, 6, (.cons (.asg (.nm 3) (.ite (.cmp .is (.loc 1) (.con .non)) (.con (.int 1)) (.call 9 (.cons (.bin .add (.attr (.loc 1) 27) (.con (.int 1))) .nil))))
  (.cons (.asg (.nm 4) .dic0)
  (.cons (.for_ (.nm 5) (.val (.loc 0))
  (.cons (.put (.loc 4) (.loc 5) (.call 28 (.cons (.loc 5) (.cons (.loc 2) (.cons (.loc 3) (.cons (.loc 1) (.cons (.loc 4) .nil)))))))
  .nil))
  (.cons (.ret (.make 29 30 (.cons (.loc 3) (.cons (.loc 4) .nil))))
  .nil))))⟩
def f_holds : Fd := ⟨2, 5, (.cons (.ex (.call 10 (.cons (.loc 0) .nil)))
  (.cons (.iff (.not (.call 11 (.cons (.loc 1) .nil)))
  (.cons (.rai 0 .nil)
  .nil)
  .nil)
  (.cons (.asg (.tp (.cons (.nm 3) (.cons (.nm 4) .nil))) (.tup (.cons (.call 7 (.cons (.loc 0) .nil)) (.cons (.con .non) .nil))))
  (.cons (.for_ (.nm 2) (.val (.loc 1))
  (.cons (.asg (.nm 4) (.call 12 (.cons (.loc 3) (.cons (.loc 4) (.cons (.loc 2) .nil)))))
  .nil))
  (.cons (.ret (.sub (.attr (.loc 4) 26) (.loc 0)))
  .nil)))))⟩
def f_labels_in : Fd := ⟨1, 2, (.cons (.ex (.call 10 (.cons (.loc 0) .nil)))
  (.cons (.ret (.blt .tuple (.cons (.blt .sorted (.cons (.blt .set (.cons (.lc (.sub (.loc 1) (.con (.int 1))) (.nm 1) (.val (.call 7 (.cons (.loc 0) .nil))) (.yes (.cmp .eq (.sub (.loc 1) (.con (.int 0))) (.con (.str "label")))) [1]) .nil)) .nil)) .nil)))
  .nil))⟩
def f_size_of : Fd := ⟨1, 1, (.cons (.ex (.call 10 (.cons (.loc 0) .nil)))
  (.cons (.ret (.blt .len (.cons (.call 7 (.cons (.loc 0) .nil)) .nil)))
  .nil))⟩
def f_law_dice : Fd := ⟨2, 6, (.cons (.asg (.nm 2) (.bin .add (.bin .mul (.con (.int 59)) (.loc 1)) (.con (.int 23))))
  (.cons (.iff (.cmp .lt (.loc 1) (.blt .len (.cons (.loc 0) .nil)))
  (.cons (.asg (.nm 2) (.sub (.loc 0) (.loc 1)))
  .nil)
  .nil)
  (.cons (.asg (.nm 3) (.bin .mod (.blt .int (.cons (.blt .abs (.cons (.loc 2) .nil)) .nil)) (.bin .pow (.bin .pow (.con (.int 10)) (.con (.int 60))) (.con (.int 10)))))
  (.cons (.asg (.nm 4) (.bin .fdiv (.loc 3) (.bin .pow (.con (.int 10)) (.con (.int 18)))))
  (.cons (.asg (.nm 5) (.bin .add (.bin .add (.bin .add (.bin .mul (.bin .mod (.loc 3) (.con (.int 2147483409))) (.con (.int 50053))) (.bin .mul (.con (.int 2801)) (.loc 1))) (.bin .mul (.con (.int 41)) (.blt .int (.cons (.cmp .lt (.loc 2) (.con (.int 0))) .nil)))) (.con (.int 67))))
  (.cons (.ret (.lst (.cons (.loc 4) (.cons (.bin .mod (.loc 5) (.con (.int 2147483399))) (.cons (.con (.int 0)) .nil)))))
  .nil))))))⟩
def f_law_roll : Fd := ⟨2, 6, (.cons (.asg (.nm 2) (.blt .int (.cons (.loc 1) .nil)))
  (.cons (.iff (.cmp .gt (.sub (.loc 0) (.con (.int 0))) (.con (.int 0)))
  (.cons (.asg (.nm 5) (.bin .mod (.sub (.loc 0) (.con (.int 0))) (.loc 2)))
  (.cons (.put (.loc 0) (.con (.int 0)) (.bin .fdiv (.sub (.loc 0) (.con (.int 0))) (.loc 2)))
  (.cons (.ret (.blt .int (.cons (.loc 5) .nil)))
  .nil)))
  .nil)
  (.cons (.put (.loc 0) (.con (.int 2)) (.bin .add (.sub (.loc 0) (.con (.int 2))) (.con (.int 1))))
  (.cons (.asg (.nm 3) (.bin .mod (.bin .add (.sub (.loc 0) (.con (.int 1))) (.bin .mul (.con (.int 1000117)) (.sub (.loc 0) (.con (.int 2))))) (.con (.int 2305843009213693951))))
  (.cons (.asg (.nm 4) (.bin .add (.bin .mul (.bin .mod (.bin .mul (.loc 3) (.loc 3)) (.con (.int 2305843009213693921))) (.loc 3)) (.bin .mul (.con (.int 9421)) (.sub (.loc 0) (.con (.int 2))))))
  (.cons (.asg (.nm 4) (.bin .mod (.loc 4) (.con (.int 2305843009213693907))))
  (.cons (.ret (.blt .int (.cons (.bin .mod (.bin .fdiv (.loc 4) (.con (.int 4096))) (.loc 2)) .nil)))
  .nil)))))))⟩
def f_law_one_of : Fd := ⟨2, 2, (.cons (.ret (.sub (.loc 1) (.call 13 (.cons (.loc 0) (.cons (.blt .len (.cons (.loc 1) .nil)) .nil)))))
  .nil)⟩
def f_law_rows : Fd := ⟨2, 8, (.cons (.asg (.tp (.cons (.nm 3) (.cons (.nm 4) .nil))) (.tup (.cons (.lst (.cons (.tup .nil) .nil)) (.cons (.lst (.cons (.tup .nil) .nil)) .nil))))
  (.cons (.for_ (.nm 2) (.rng1 (.loc 1))
  (.cons (.asg (.nm 5) (.lst .nil))
  (.cons (.for_ (.nm 6) (.val (.loc 4))
  (.cons (.ex (.meth .extend (.loc 5) (.cons (.lc (.bin .add (.loc 6) (.tup (.cons (.loc 7) .nil))) (.nm 7) (.val (.loc 0)) .no [7]) .nil)))
  .nil))
  (.cons (.asg (.tp (.cons (.nm 3) (.cons (.nm 4) .nil))) (.tup (.cons (.bin .add (.loc 3) (.loc 5)) (.cons (.loc 5) .nil))))
  .nil))))
  (.cons (.ret (.loc 3))
  .nil)))⟩
def f_law_expression : Fd := ⟨3, 7, (.cons (.put (.loc 2) (.con (.int 0)) (.bin .sub (.sub (.loc 2) (.con (.int 0))) (.con (.int 1))))
  (.cons (.asg (.nm 3) (.call 13 (.cons (.loc 0) (.cons (.con (.int 9)) .nil))))
  (.cons (.iff (.or (.cmp .lt (.loc 1) (.con (.int 2))) (.or (.cmp .lt (.sub (.loc 2) (.con (.int 0))) (.con (.int 1))) (.cmp .lt (.loc 3) (.con (.int 2)))))
  (.cons (.asg (.nm 5) (.lst (.cons (.tup (.cons (.con (.str "label")) (.cons (.call 14 (.cons (.loc 0) (.cons (.lst (.cons (.con (.str "a")) (.cons (.con (.str "b")) (.cons (.con (.str "node")) (.cons (.con (.str "zz")) .nil))))) .nil))) .nil))) (.cons (.tup (.cons (.con (.str "root")) .nil)) .nil))))
  (.cons (.asg (.nm 6) (.bin .add (.con (.int 2)) (.call 13 (.cons (.loc 0) (.cons (.con (.int 3)) .nil)))))
  (.cons (.ex (.meth .append (.loc 5) (.cons (.tup (.cons (.con (.str "level")) (.cons (.call 13 (.cons (.loc 0) (.cons (.loc 6) .nil))) (.cons (.loc 6) .nil)))) .nil)))
  (.cons (.ret (.call 14 (.cons (.loc 0) (.cons (.bin .add (.loc 5) (.slc (.loc 5) .no (.yes (.con (.int 1))))) .nil))))
  .nil))))
  .nil)
  (.cons (.iff (.or (.cmp .lt (.loc 3) (.con (.int 6))) (.cmp .lt (.sub (.loc 2) (.con (.int 0))) (.con (.int 2))))
  (.cons (.ret (.tup (.cons (.call 14 (.cons (.loc 0) (.cons (.lst (.cons (.con (.str "parent")) (.cons (.con (.str "above")) (.cons (.con (.str "not")) .nil)))) .nil))) (.cons (.call 15 (.cons (.loc 0) (.cons (.bin .sub (.loc 1) (.con (.int 1))) (.cons (.loc 2) .nil)))) .nil))))
  .nil)
  .nil)
  (.cons (.put (.loc 2) (.con (.int 0)) (.bin .sub (.sub (.loc 2) (.con (.int 0))) (.con (.int 1))))
  (.cons (.asg (.nm 4) (.call 15 (.cons (.loc 0) (.cons (.bin .sub (.loc 1) (.con (.int 1))) (.cons (.loc 2) .nil)))))
  (.cons (.put (.loc 2) (.con (.int 0)) (.bin .add (.sub (.loc 2) (.con (.int 0))) (.con (.int 1))))
  (.cons (.ret (.tup (.cons (.call 14 (.cons (.loc 0) (.cons (.lst (.cons (.con (.str "and")) (.cons (.con (.str "or")) .nil))) .nil))) (.cons (.loc 4) (.cons (.call 15 (.cons (.loc 0) (.cons (.bin .sub (.loc 1) (.con (.int 1))) (.cons (.loc 2) .nil)))) .nil)))))
  .nil))))))))⟩
def f_law_holds : Fd := ⟨2, 4, (.cons (.asg (.nm 2) (.sub (.loc 0) (.con (.int 0))))
  (.cons (.iff (.cmp .eq (.loc 2) (.con (.str "label")))
  (.cons (.ret (.cmp .eq (.sub (.loc 1) (.neg (.con (.int 1)))) (.sub (.loc 0) (.con (.int 1)))))
  .nil)
  .nil)
  (.cons (.iff (.cmp .eq (.loc 2) (.con (.str "root")))
  (.cons (.ret (.cmp .eq (.blt .len (.cons (.loc 1) .nil)) (.con (.int 1))))
  .nil)
  .nil)
  (.cons (.iff (.cmp .eq (.loc 2) (.con (.str "level")))
  (.cons (.ret (.cmp .eq (.bin .mod (.blt .len (.cons (.loc 1) .nil)) (.sub (.loc 0) (.con (.int 2)))) (.sub (.loc 0) (.con (.int 1)))))
  .nil)
  .nil)
  (.cons (.iff (.cmp .eq (.loc 2) (.con (.str "parent")))
  (.cons (.ret (.and (.cmp .gt (.blt .len (.cons (.loc 1) .nil)) (.con (.int 1))) (.call 16 (.cons (.sub (.loc 0) (.con (.int 1))) (.cons (.slc (.loc 1) .no (.yes (.neg (.con (.int 1))))) .nil)))))
  .nil)
  .nil)
  (.cons (.iff (.cmp .eq (.loc 2) (.con (.str "above")))
  (.cons (.ret (.cmp .ne (.lc (.loc 3) (.nm 3) (.rng2 (.con (.int 1)) (.blt .len (.cons (.loc 1) .nil))) (.yes (.call 16 (.cons (.sub (.loc 0) (.con (.int 1))) (.cons (.slc (.loc 1) .no (.yes (.loc 3))) .nil)))) [3]) (.lst .nil)))
  .nil)
  .nil)
  (.cons (.iff (.cmp .eq (.loc 2) (.con (.str "not")))
  (.cons (.ret (.not (.call 16 (.cons (.sub (.loc 0) (.con (.int 1))) (.cons (.loc 1) .nil)))))
  .nil)
  .nil)
  (.cons (.iff (.cmp .eq (.loc 2) (.con (.str "and")))
  (.cons (.ret (.and (.call 16 (.cons (.sub (.loc 0) (.con (.int 1))) (.cons (.loc 1) .nil))) (.call 16 (.cons (.sub (.loc 0) (.con (.int 2))) (.cons (.loc 1) .nil)))))
  .nil)
  .nil)
  (.cons (.ret (.or (.call 16 (.cons (.sub (.loc 0) (.con (.int 1))) (.cons (.loc 1) .nil))) (.call 16 (.cons (.sub (.loc 0) (.con (.int 2))) (.cons (.loc 1) .nil)))))
  .nil)))))))))⟩
def f_law_parts : Fd := ⟨1, 3, (.cons (.asg (.nm 1) (.lst (.cons (.loc 0) .nil)))
  (.cons (.for_ (.nm 2) (.val (.slc (.loc 0) (.yes (.con (.int 1))) .no))
  (.cons (.iff (.blt .isinstance (.cons (.loc 2) (.cons (.con (.ty "tuple")) .nil)))
  (.cons (.ex (.meth .extend (.loc 1) (.cons (.call 17 (.cons (.loc 2) .nil)) .nil)))
  .nil)
  .nil)
  .nil))
  (.cons (.ret (.loc 1))
  .nil)))⟩
def f_law_right : Fd := ⟨1, 9, (.cons (.asg (.tp (.cons (.nm 5) (.cons (.nm 6) .nil))) (.tup (.cons (.call 15 (.cons (.loc 0) (.cons (.con (.int 5)) (.cons (.lst (.cons (.con (.int 9)) .nil)) .nil)))) (.cons (.sub (.lst (.cons (.lst (.cons (.con (.str "a")) (.cons (.con (.str "b")) .nil))) (.cons (.lst (.cons (.con (.str "a")) (.cons (.con (.str "node")) (.cons (.con (.str "zz")) .nil)))) (.cons (.lst (.cons (.con (.str "b")) .nil)) .nil)))) (.call 13 (.cons (.loc 0) (.cons (.con (.int 3)) .nil)))) .nil))))
  (.cons (.asg (.nm 1) (.call 17 (.cons (.loc 5) .nil)))
  (.cons (.iff (.or (.cmp .isnot (.call 8 (.cons (.loc 5) .nil)) (.con (.bl true))) (.cmp .ne (.call 18 (.cons (.loc 5) .nil)) (.blt .len (.cons (.loc 1) .nil))))
  (.cons (.ret (.con (.bl false)))
  .nil)
  .nil)
  (.cons (.iff (.cmp .ne (.call 19 (.cons (.loc 5) .nil)) (.blt .tuple (.cons (.blt .sorted (.cons (.blt .set (.cons (.lc (.sub (.loc 7) (.con (.int 1))) (.nm 7) (.val (.loc 1)) (.yes (.cmp .eq (.sub (.loc 7) (.con (.int 0))) (.con (.str "label")))) [7]) .nil)) .nil)) .nil)))
  (.cons (.ret (.con (.bl false)))
  .nil)
  .nil)
  (.cons (.asg (.nm 2) (.lc (.loc 4) (.nm 4) (.val (.call 20 (.cons (.loc 6) (.cons (.con (.int 3)) .nil)))) (.yes (.cmp .ne (.loc 4) (.tup .nil))) [4]))
  (.cons (.for_ (.nm 3) (.rng1 (.con (.int 3)))
  (.cons (.ex (.meth .append (.loc 2) (.cons (.blt .tuple (.cons (.lc (.call 14 (.cons (.loc 0) (.cons (.loc 6) .nil))) (.nm 8) (.rng1 (.bin .add (.con (.int 4)) (.call 13 (.cons (.loc 0) (.cons (.con (.int 4)) .nil))))) .no [8]) .nil)) .nil)))
  .nil))
  (.cons (.for_ (.nm 4) (.val (.loc 2))
  (.cons (.for_ (.nm 7) (.val (.lst (.cons (.loc 5) (.cons (.sub (.loc 1) (.neg (.con (.int 1)))) (.cons (.sub (.loc 1) (.call 13 (.cons (.loc 0) (.cons (.blt .len (.cons (.loc 1) .nil)) .nil)))) .nil)))))
  (.cons (.iff (.cmp .ne (.blt .repr (.cons (.call 21 (.cons (.loc 7) (.cons (.loc 4) .nil))) .nil)) (.blt .repr (.cons (.call 16 (.cons (.loc 7) (.cons (.loc 4) .nil))) .nil)))
  (.cons (.ret (.con (.bl false)))
  .nil)
  .nil)
  .nil))
  .nil))
  (.cons (.ret (.con (.bl true)))
  .nil))))))))⟩
def f_law : Fd := ⟨1, 8, (.cons (.for_ (.nm 1) (.rng1 (.blt .max (.cons (.con (.int 1)) (.cons (.blt .min (.cons (.con (.int 8)) (.cons (.blt .len (.cons (.loc 0) .nil)) .nil))) .nil))))
  (.cons (.asg (.nm 4) (.call 22 (.cons (.loc 0) (.cons (.loc 1) .nil))))
  (.cons (.for_ (.nm 5) (.rng1 (.con (.int 4)))
  (.cons (.iff (.not (.call 23 (.cons (.loc 4) .nil)))
  (.cons (.ret (.con (.bl false)))
  .nil)
  .nil)
  .nil))
  .nil)))
  (.cons (.asg (.tp (.cons (.nm 6) (.cons (.nm 7) .nil))) (.tup (.cons (.tup (.cons (.con (.str "above")) (.cons (.tup (.cons (.con (.str "label")) (.cons (.con (.str "b")) .nil))) .nil))) (.cons (.tup (.cons (.con (.str "level")) (.cons (.con (.int 0)) (.cons (.con (.int 3)) .nil)))) .nil))))
  (.cons (.asg (.nm 2) (.tup (.cons (.con (.str "parent")) (.cons (.tup (.cons (.con (.str "parent")) (.cons (.tup (.cons (.con (.str "not")) (.cons (.tup (.cons (.con (.str "above")) (.cons (.tup (.cons (.con (.str "label")) (.cons (.con (.str "a")) .nil))) .nil))) .nil))) .nil))) .nil))))
  (.cons (.asg (.nm 3) (.lst (.cons (.call 21 (.cons (.loc 6) (.cons (.tup (.cons (.con (.str "b")) (.cons (.con (.str "a")) .nil))) .nil))) (.cons (.call 21 (.cons (.loc 6) (.cons (.tup (.cons (.con (.str "a")) (.cons (.con (.str "b")) .nil))) .nil))) (.cons (.call 21 (.cons (.tup (.cons (.con (.str "above")) (.cons (.loc 6) .nil))) (.cons (.tup (.cons (.con (.str "b")) (.cons (.con (.str "a")) .nil))) .nil))) .nil)))))
  (.cons (.ex (.meth .append (.loc 3) (.cons (.call 21 (.cons (.loc 7) (.cons (.bin .mul (.tup (.cons (.con (.str "a")) .nil)) (.con (.int 6))) .nil))) .nil)))
  (.cons (.asg (.nm 3) (.bin .add (.loc 3) (.lst (.cons (.call 21 (.cons (.loc 2) (.cons (.tup (.cons (.con (.str "b")) (.cons (.con (.str "b")) (.cons (.con (.str "b")) (.cons (.con (.str "a")) .nil))))) .nil))) (.cons (.call 21 (.cons (.loc 2) (.cons (.tup (.cons (.con (.str "a")) (.cons (.con (.str "b")) (.cons (.con (.str "b")) (.cons (.con (.str "b")) .nil))))) .nil))) (.cons (.call 21 (.cons (.loc 2) (.cons (.tup (.cons (.con (.str "a")) (.cons (.con (.str "b")) .nil))) .nil))) .nil))))))
  (.cons (.ret (.and (.cmp .eq (.loc 3) (.lst (.cons (.con (.bl true)) (.cons (.con (.bl false)) (.cons (.con (.bl false)) (.cons (.con (.bl true)) (.cons (.con (.bl true)) (.cons (.con (.bl false)) (.cons (.con (.bl false)) .nil))))))))) (.cmp .eq (.call 18 (.cons (.tup (.cons (.con (.str "or")) (.cons (.loc 6) (.cons (.sub (.loc 2) (.con (.int 1))) .nil)))) .nil)) (.con (.int 7)))))
  .nil)))))))⟩
def f_Node___init__ : Fd := ⟨3, 3, (.cons (.fld (.loc 0) 27 (.loc 1))
  (.cons (.fld (.loc 0) 26 (.loc 2))
  .nil))⟩
def r_wall : Row := ⟨24, ("_wall", none), "_wall", "_wall", ["k"], f_wall, ["k"], top 0⟩
def r_is_index : Row := ⟨3, ("is_index", none), "is_index", "is_index", ["value", "total"], f_is_index, ["value", "total"], top 6⟩
def r_is_name : Row := ⟨1, ("is_name", none), "is_name", "is_name", ["value"], f_is_name, ["value", "letter"], top 7⟩
def r_is_row : Row := ⟨2, ("is_row", none), "is_row", "is_row", ["value"], f_is_row, ["value", "name"], top 8⟩
def r_is_way : Row := ⟨11, ("is_way", none), "is_way", "is_way", ["value"], f_is_way, ["value"], top 9⟩
def r_is_atom : Row := ⟨5, ("is_atom", none), "is_atom", "is_atom", ["value"], f_is_atom, ["value"], top 16⟩
def r_is_built : Row := ⟨4, ("is_built", none), "is_built", "is_built", ["value", "nested"], f_is_built, ["value", "nested"], top 17⟩
def r_inner_of : Row := ⟨6, ("inner_of", none), "inner_of", "inner_of", ["expression"], f_inner_of, ["expression"], top 18⟩
def r_parts_of : Row := ⟨7, ("parts_of", none), "parts_of", "parts_of", ["expression"], f_parts_of, ["expression", "found", "inner"], top 19⟩
def r_is_expression : Row := ⟨8, ("is_expression", none), "is_expression", "is_expression", ["value"], f_is_expression, ["value"], top 20⟩
def r_require_expression : Row := ⟨10, ("require_expression", none), "require_expression", "require_expression", ["value"], f_require_expression, ["value"], top 21⟩
def r_level_of : Row := ⟨9, ("level_of", none), "level_of", "level_of", ["depth"], f_level_of, ["depth"], top 23⟩
def r_holds_at : Row := ⟨28, ("holds_at", none), "holds_at", "holds_at", ["part", "label", "depth", "above", "held"], f_holds_at, ["part", "label", "depth", "above", "held", "word"], top 24⟩
def r_node_below : Row := ⟨12, ("node_below", none), "node_below", "node_below", ["parts", "above", "label"], f_node_below, ["parts", "above", "label", "depth", "held", "part"], top 25⟩
def r_holds : Row := ⟨21, ("holds", none), "holds", "holds", ["expression", "way"], f_holds, ["expression", "way", "label", "parts", "node"], top 26⟩
def r_labels_in : Row := ⟨19, ("labels_in", none), "labels_in", "labels_in", ["expression"], f_labels_in, ["expression", "part"], top 27⟩
def r_size_of : Row := ⟨18, ("size_of", none), "size_of", "size_of", ["expression"], f_size_of, ["expression"], top 28⟩
def r_law_dice : Row := ⟨22, ("_law_dice", none), "_law_dice", "_law_dice", ["_law_script", "_law_at"], f_law_dice, ["_law_script", "_law_at", "_law_cell", "_law_great", "_law_left", "_law_mixed"], top 30⟩
def r_law_roll : Row := ⟨13, ("_law_roll", none), "_law_roll", "_law_roll", ["_law_dice_here", "_law_total"], f_law_roll, ["_law_dice_here", "_law_total", "_law_number", "_law_one", "_law_two", "_law_drawn"], top 31⟩
def r_law_one_of : Row := ⟨14, ("_law_one_of", none), "_law_one_of", "_law_one_of", ["_law_dice_here", "_law_items"], f_law_one_of, ["_law_dice_here", "_law_items"], top 32⟩
def r_law_rows : Row := ⟨20, ("_law_rows", none), "_law_rows", "_law_rows", ["_law_labels", "_law_most"], f_law_rows, ["_law_labels", "_law_most", "_law_turn", "_law_found", "_law_layer", "_law_longer", "_law_row", "_law_label"], top 33⟩
def r_law_expression : Row := ⟨15, ("_law_expression", none), "_law_expression", "_law_expression", ["_law_dice_here", "_law_deep", "_law_room"], f_law_expression, ["_law_dice_here", "_law_deep", "_law_room", "_law_way", "_law_one", "_law_some", "_law_most"], top 34⟩
def r_law_holds : Row := ⟨16, ("_law_holds", none), "_law_holds", "_law_holds", ["_law_expression_here", "_law_way"], f_law_holds, ["_law_expression_here", "_law_way", "_law_word", "_law_end"], top 35⟩
def r_law_parts : Row := ⟨17, ("_law_parts", none), "_law_parts", "_law_parts", ["_law_expression_here"], f_law_parts, ["_law_expression_here", "_law_found", "_law_one"], top 36⟩
def r_law_right : Row := ⟨23, ("_law_right", none), "_law_right", "_law_right", ["_law_dice_here"], f_law_right, ["_law_dice_here", "_law_parts_here", "_law_ways", "_law_turn", "_law_way", "_law_expression_here", "_law_labels", "_law_one", "_law_at"], top 37⟩
def r_law : Row := ⟨25, ("law", none), "law", "law", ["_law_script"], f_law, ["_law_script", "_law_at", "_law_deep", "_law_told", "_law_dice_here", "_law_turn", "_law_some", "_law_third"], top 38⟩
def r_Node___init__ : Row := ⟨30, ("Node", some "__init__"), "__init__", "Node.__init__", ["self", "depth", "held"], f_Node___init__, ["self", "depth", "held"], inn 22 1⟩
def rows : List Row := ([r_wall, r_is_index, r_is_name, r_is_row, r_is_way, r_is_atom, r_is_built, r_inner_of, r_parts_of, r_is_expression, r_require_expression, r_level_of, r_holds_at, r_node_below, r_holds, r_labels_in, r_size_of, r_law_dice, r_law_roll, r_law_one_of] : List Row) ++ ([r_law_rows, r_law_expression, r_law_holds, r_law_parts, r_law_right, r_law, r_Node___init__] : List Row)
def crs : List CRow := [⟨29, "Node", some 30, true, [(27, 0), (26, 1)], []⟩]
def nms : List (Nat × Str) := ([(29, "Node"), (30, "Node.__init__"), (22, "_law_dice"), (15, "_law_expression"), (16, "_law_holds"), (14, "_law_one_of"), (17, "_law_parts"), (23, "_law_right"), (13, "_law_roll"), (20, "_law_rows"), (24, "_wall"), (21, "holds"), (28, "holds_at"), (6, "inner_of"), (5, "is_atom"), (4, "is_built"), (8, "is_expression"), (3, "is_index"), (1, "is_name"), (2, "is_row")] : List (Nat × Str)) ++ ([(11, "is_way"), (19, "labels_in"), (25, "law"), (9, "level_of"), (12, "node_below"), (27, "own_depth"), (26, "own_held"), (7, "parts_of"), (10, "require_expression"), (18, "size_of")] : List (Nat × Str))
def cst : List (Str × PV) := [("MAX_LETTERS", (.int 8)), ("MAX_NESTED", (.int 5)), ("MAX_PARTS", (.int 9)), ("MOST_LEVEL", (.int 4)), ("ONE", (.tup [(.str "parent"), (.str "above"), (.str "not")])), ("TWO", (.tup [(.str "and"), (.str "or")]))]
def blts : List Str := ["abs", "all", "bool", "int", "isinstance", "len", "max", "min", "range", "repr", "set", "sorted", "str", "tuple"]
theorem rows_ok : rows.all (rowB (sgOf nms rows crs cst blts) crs) = true := by decide +kernel
theorem crs_ok : crs.all (crB (sgOf nms rows crs cst blts)) = true := by decide +kernel
theorem b_wall : BindOk r_wall := fun _ _ _ _ _ _ us hl => match us, hl with | [_], _ => rfl
theorem b_is_index : BindOk r_is_index := fun _ _ _ _ _ _ us hl => match us, hl with | [_, _], _ => rfl
theorem b_is_name : BindOk r_is_name := fun _ _ _ _ _ _ us hl => match us, hl with | [_], _ => rfl
theorem b_is_row : BindOk r_is_row := fun _ _ _ _ _ _ us hl => match us, hl with | [_], _ => rfl
theorem b_is_way : BindOk r_is_way := fun _ _ _ _ _ _ us hl => match us, hl with | [_], _ => rfl
theorem b_is_atom : BindOk r_is_atom := fun _ _ _ _ _ _ us hl => match us, hl with | [_], _ => rfl
theorem b_is_built : BindOk r_is_built := fun _ _ _ _ _ _ us hl => match us, hl with | [_, _], _ => rfl
theorem b_inner_of : BindOk r_inner_of := fun _ _ _ _ _ _ us hl => match us, hl with | [_], _ => rfl
theorem b_parts_of : BindOk r_parts_of := fun _ _ _ _ _ _ us hl => match us, hl with | [_], _ => rfl
theorem b_is_expression : BindOk r_is_expression := fun _ _ _ _ _ _ us hl => match us, hl with | [_], _ => rfl
theorem b_require_expression : BindOk r_require_expression := fun _ _ _ _ _ _ us hl => match us, hl with | [_], _ => rfl
theorem b_level_of : BindOk r_level_of := fun _ _ _ _ _ _ us hl => match us, hl with | [_], _ => rfl
theorem b_holds_at : BindOk r_holds_at := fun _ _ _ _ _ _ us hl => match us, hl with | [_, _, _, _, _], _ => rfl
theorem b_node_below : BindOk r_node_below := fun _ _ _ _ _ _ us hl => match us, hl with | [_, _, _], _ => rfl
theorem b_holds : BindOk r_holds := fun _ _ _ _ _ _ us hl => match us, hl with | [_, _], _ => rfl
theorem b_labels_in : BindOk r_labels_in := fun _ _ _ _ _ _ us hl => match us, hl with | [_], _ => rfl
theorem b_size_of : BindOk r_size_of := fun _ _ _ _ _ _ us hl => match us, hl with | [_], _ => rfl
theorem b_law_dice : BindOk r_law_dice := fun _ _ _ _ _ _ us hl => match us, hl with | [_, _], _ => rfl
theorem b_law_roll : BindOk r_law_roll := fun _ _ _ _ _ _ us hl => match us, hl with | [_, _], _ => rfl
theorem b_law_one_of : BindOk r_law_one_of := fun _ _ _ _ _ _ us hl => match us, hl with | [_, _], _ => rfl
theorem b_law_rows : BindOk r_law_rows := fun _ _ _ _ _ _ us hl => match us, hl with | [_, _], _ => rfl
theorem b_law_expression : BindOk r_law_expression := fun _ _ _ _ _ _ us hl => match us, hl with | [_, _, _], _ => rfl
theorem b_law_holds : BindOk r_law_holds := fun _ _ _ _ _ _ us hl => match us, hl with | [_, _], _ => rfl
theorem b_law_parts : BindOk r_law_parts := fun _ _ _ _ _ _ us hl => match us, hl with | [_], _ => rfl
theorem b_law_right : BindOk r_law_right := fun _ _ _ _ _ _ us hl => match us, hl with | [_], _ => rfl
theorem b_law : BindOk r_law := fun _ _ _ _ _ _ us hl => match us, hl with | [_], _ => rfl
theorem b_Node___init__ : BindOk r_Node___init__ := fun _ _ _ _ _ _ us hl => match us, hl with | [_, _, _], _ => rfl
theorem binds_ok : BindsAll rows := ⟨b_wall, b_is_index, b_is_name, b_is_row, b_is_way, b_is_atom, b_is_built, b_inner_of, b_parts_of, b_is_expression, b_require_expression, b_level_of, b_holds_at, b_node_below, b_holds, b_labels_in, b_size_of, b_law_dice, b_law_roll, b_law_one_of, b_law_rows, b_law_expression, b_law_holds, b_law_parts, b_law_right, b_law, b_Node___init__, trivial⟩
abbrev R : PySem.W.OpenRow := PySem.W.OpenLaw.row PySem.Challenge.rw_depthmarks_k16_expressions_hold
def names : List Str := (["_wall", "__name__", "AskError", "InvalidOperation", "MAX_LETTERS", "is_index", "is_name", "is_row", "is_way", "MAX_PARTS", "MAX_NESTED", "MOST_LEVEL", "ONE", "TWO", "is_atom", "is_built", "inner_of", "parts_of", "is_expression", "require_expression"] : List Str) ++ (["Node", "level_of", "holds_at", "node_below", "holds", "labels_in", "size_of", "_law_dice", "_law_roll", "_law_one_of", "_law_rows", "_law_expression", "_law_holds", "_law_parts", "_law_right"] : List Str)
abbrev hk : PySem.W.Hook := hookZ 5 nms rows crs cst blts
def ob (s : PySem.W.SharedT) : AlZ := obsZG 5 nms rows crs cst blts (HandSHeadRun.getT s)
theorem ob_eq (s : PySem.W.SharedT) : ob s = hk.obs s.abs := obsZG_eq (HandSHeadRun.getT_eq s)
theorem run (w : World) : HandSHeadRun.RunEq R (PySem.W.view R.prog [38]) hk ob 4000 names w := by
  intro os
  kernel_rfl
end Law
end Zed
end
section
set_option Elab.async false
set_option linter.all false
set_option maxRecDepth 100000
set_option maxHeartbeats 1000000
namespace Zed
namespace Law
open PySem L2
abbrev TB : Nat → Option Fd := tabOf (sgOf nms rows crs cst blts)
abbrev CT : Ct := ctOf crs
abbrev cl (n : Nat) := callN CT TB n
theorem t_roll : TB 13 = some f_law_roll := rfl
/-- the dice at place i: three numbers, the last one at most B -/
def Dice (h : PHeap) (i : Nat) (B : Int) : Prop := ∃ a b c : Int, h[i]? = some (.lst [.int a, .int b, .int c]) ∧ 0 ≤ a ∧ 0 ≤ c ∧ c ≤ B
theorem ok_roll {n i : Nat} {t B : Int} {h : PHeap} (d : Dice h i B) (ht : 0 < t) (hb : B < 2 ^ 100) (ht2 : t < 2 ^ 100) :
    Ok (cl (n + 1) 13 [.ref i, .int t] h) fun d h' => ∃ r : Int, d = .int r ∧ 0 ≤ r ∧ r < t ∧ Fr [i] h h' ∧ Dice h' i (B + 1) := by
  obtain ⟨a, b, c, e, ha, hc, hB⟩ := d
  refine (f_call t_roll rfl).mpr ?_
  (unfold f_law_roll; dsimp only [List.map, List.append, HAppend.hAppend, Append.append, List.replicate, Nat.reduceSub])
  walk_at "zz"
  refine ⟨fun k => ?_, fun k => ?_⟩
  · have k := of_decide_eq_true k
    walk_at "zz"
    refine okP_mod ht ?_
    walk_at "zz"
    refine okP_fdiv ht (by omega) ?_
    walk_at "zz"
    refine ⟨_, rfl, Int.emod_nonneg _ (by omega), Int.emod_lt_of_pos _ ht, .set List.mem_cons_self, _, _, _, get_self e, Int.ediv_nonneg ha (by omega), hc, by omega⟩
  · walk_at "zz"
    have e2 := get_self (o' := .lst [.int a, .int b, .int (c + 1)]) e
    walk_at "zz"
    refine okP_mul (by omega) (by omega) ?_
    walk_at "zz"
    generalize hx : (b + 1000117 * (c + 1)) % 2305843009213693951 = x
    have x1 : 0 ≤ x := by omega
    have x2 : x < 2305843009213693951 := by omega
    refine okP_mul (by omega) (by omega) ?_
    walk_at "zz"
    refine okP_mul (by omega) (by omega) ?_
    walk_at "zz"
    refine okP_mul (by omega) (by omega) ?_
    walk_at "zz"
    refine okP_mod ht ?_
    walk_at "zz"
    exact ⟨_, rfl, Int.emod_nonneg _ (by omega), Int.emod_lt_of_pos _ ht, .set List.mem_cons_self, a, b, c + 1, e2, ha, by omega, by omega⟩
theorem Dice.fr {h h' : PHeap} {i : Nat} {B : Int} {S : List Nat} (d : Dice h i B) (f : Fr S h h') (n : i ∉ S) : Dice h' i B := by
  obtain ⟨a, b, c, e, r⟩ := d
  exact ⟨a, b, c, f.get e n, r⟩
theorem Dice.up {h : PHeap} {i : Nat} {B B' : Int} (d : Dice h i B) (l : B ≤ B') : Dice h i B' := by
  obtain ⟨a, b, c, e, r1, r2, r3⟩ := d
  exact ⟨a, b, c, e, r1, r2, by omega⟩
theorem Dice.lt {h : PHeap} {i : Nat} {B : Int} (d : Dice h i B) : i < h.length := by
  obtain ⟨a, b, c, e, _⟩ := d
  exact lt_of_get e
theorem t_one_of : TB 14 = some f_law_one_of := rfl
theorem ok_one_of {n i j : Nat} {B : Int} {h : PHeap} {ds : List PV} (d : Dice h i B) (e : h[j]? = some (.lst ds)) (ne : j ≠ i) (h0 : ds ≠ []) (hz : ds.length < 1000) (hb : B < 2 ^ 100) :
    Ok (cl (n + 2) 14 [.ref i, .ref j] h) fun d h' => d ∈ ds ∧ Fr [i] h h' ∧ Dice h' i (B + 1) := by
  refine (f_call t_one_of rfl).mpr ?_
  (unfold f_law_one_of; dsimp only [List.map, List.append, HAppend.hAppend, Append.append, List.replicate, Nat.reduceSub])
  walk_at "zz"
  refine okP_len e ?_
  walk_at "zz"
  have hp : 0 < ds.length := List.length_pos_iff.mpr h0
  refine (ok_roll d (by omega) hb (by omega)).mono fun x h' ⟨r, er, r0, r1, f, d'⟩ => ?_
  subst er
  obtain ⟨y, y1, y2, _⟩ := atI_mem r0 r1
  exact okO_get (f.get e (by simpa using ne)) y1 ⟨y2, f, d'⟩
end Law
end Zed
end
section
set_option Elab.async false
set_option linter.all false
set_option maxRecDepth 100000
set_option maxHeartbeats 1000000
set_option exponentiation.threshold 10000
namespace Zed
namespace Law
open PySem L2
inductive E where
  | label (s : Str) | root | level (r m : Int) | parent (e : E) | above (e : E) | neg (e : E) | conj (a b : E) | disj (a b : E)
def pv : E → PV
  | .label s => .tup [.str "label", .str s]
  | .root => .tup [.str "root"]
  | .level r m => .tup [.str "level", .int r, .int m]
  | .parent e => .tup [.str "parent", pv e]
  | .above e => .tup [.str "above", pv e]
  | .neg e => .tup [.str "not", pv e]
  | .conj a b => .tup [.str "and", pv a, pv b]
  | .disj a b => .tup [.str "or", pv a, pv b]
def lab4 : List Str := ["a", "b", "node", "zz"]
def okE : E → Prop
  | .label s => s ∈ lab4
  | .root => True
  | .level r m => 0 ≤ r ∧ r < m ∧ 2 ≤ m ∧ m ≤ 4
  | .parent e => okE e
  | .above e => okE e
  | .neg e => okE e
  | .conj a b => okE a ∧ okE b
  | .disj a b => okE a ∧ okE b
def sz : E → Nat
  | .label _ => 1
  | .root => 1
  | .level _ _ => 1
  | .parent e => sz e + 1
  | .above e => sz e + 1
  | .neg e => sz e + 1
  | .conj a b => sz a + sz b + 1
  | .disj a b => sz a + sz b + 1
def dp : E → Nat
  | .label _ => 1
  | .root => 1
  | .level _ _ => 1
  | .parent e => dp e + 1
  | .above e => dp e + 1
  | .neg e => dp e + 1
  | .conj a b => max (dp a) (dp b) + 1
  | .disj a b => max (dp a) (dp b) + 1
theorem t_expr : TB 15 = some f_law_expression := rfl
def leafB : Sxs := (.cons (.asg (.nm 5) (.lst (.cons (.tup (.cons (.con (.str "label")) (.cons (.call 14 (.cons (.loc 0) (.cons (.lst (.cons (.con (.str "a")) (.cons (.con (.str "b")) (.cons (.con (.str "node")) (.cons (.con (.str "zz")) .nil))))) .nil))) .nil))) (.cons (.tup (.cons (.con (.str "root")) .nil)) .nil))))
  (.cons (.asg (.nm 6) (.bin .add (.con (.int 2)) (.call 13 (.cons (.loc 0) (.cons (.con (.int 3)) .nil)))))
  (.cons (.ex (.meth .append (.loc 5) (.cons (.tup (.cons (.con (.str "level")) (.cons (.call 13 (.cons (.loc 0) (.cons (.loc 6) .nil))) (.cons (.loc 6) .nil)))) .nil)))
  (.cons (.ret (.call 14 (.cons (.loc 0) (.cons (.bin .add (.loc 5) (.slc (.loc 5) .no (.yes (.con (.int 1))))) .nil))))
  .nil))))
theorem ok_leaf {m i : Nat} {x1 x2 x3 : PV} {h : PHeap} {B : Int} {N : Loc → PHeap → Prop} {T : PV → PHeap → Prop} (d : Dice h i B) (hb : B + 10 < 2 ^ 100)
    (k : ∀ e h', okE e → sz e = 1 → dp e = 1 → Fr [i] h h' → Dice h' i (B + 6) → T (pv e) h') :
    OkS (exSs ⟨cl (m + 2), CT⟩ leafB [some (.ref i), some x1, some x2, some x3, none, none, none] h) N T := by
  unfold leafB
  walk_at "zz"
  have hi := d.lt
  refine (ok_one_of (d.fr (.app _) List.not_mem_nil) get_new (by omega) (by simp) (by decide) (by omega)).mono fun x h1 ⟨mx, f1, d1⟩ => ?_
  have g1 : Fr [i] h h1 := (Fr.app _).trans f1
  walk_at "zz"
  have d2 := d1.fr (.app (S := []) [PObj.lst [PV.tup [PV.str "label", x], PV.tup [PV.str "root"]]]) List.not_mem_nil
  refine (ok_roll d2 (by decide) (by omega) (by decide)).mono fun y h2 ⟨r, er, r0, r1, f2, d3⟩ => ?_
  subst er
  have i1 := d1.lt
  have e2 := f2.get get_new (by simp only [List.mem_singleton]; omega)
  have g2 : Fr [i] h h2 := (g1.trans (Fr.app _)).trans f2
  walk_at "zz"
  refine ⟨rcv_lst e2, ?_⟩
  walk_at "zz"
  refine (ok_roll d3 (by omega) (by omega) (by omega)).mono fun y h3 ⟨q, eq, q0, q1, f3, d4⟩ => ?_
  subst eq
  have e3 := f3.get e2 (by simp only [List.mem_singleton]; omega)
  have g3 : Fr [i] h h3 := g2.trans f3
  walk_at "zz"
  refine okP_app e3 (Nat.le_of_ble_eq_true rfl) ?_
  walk_at "zz"
  have e4 := get_self (o' := .lst ([PV.tup [PV.str "label", x], PV.tup [PV.str "root"]] ++ [PV.tup [PV.str "level", PV.int q, PV.int (2 + r)]])) e3
  have n1 : i ≠ h1.length := by omega
  have l1 : h.length ≤ h1.length := g1.len
  have d5 := d4.fr (.set (S := [h1.length]) (o := .lst ([PV.tup [PV.str "label", x], PV.tup [PV.str "root"]] ++ [PV.tup [PV.str "level", PV.int q, PV.int (2 + r)]])) List.mem_cons_self) (by simpa using n1)
  refine okP_slcL e4 ?_
  have e5 := (Fr.app (S := []) [PObj.lst (cutP ([PV.tup [PV.str "label", x], PV.tup [PV.str "root"]] ++ [PV.tup [PV.str "level", PV.int q, PV.int (2 + r)]]) none (some 1))]).get0 e4
  walk_at "zz"
  refine okP_cat e5 get_new (Nat.le_of_ble_eq_true rfl) ?_
  walk_at "zz"
  have g4 : Fr [i] h (h3.set h1.length (.lst ([PV.tup [PV.str "label", x], PV.tup [PV.str "root"]] ++ [PV.tup [PV.str "level", PV.int q, PV.int (2 + r)]]))) :=
    ((g3.mono (S' := [h1.length, i]) (by simp)).trans (.set List.mem_cons_self)).drop fun z hz => by
      rcases List.mem_cons.mp hz with rfl | hz
      · exact .inl l1
      · exact .inr hz
  refine (ok_one_of ((d5.fr (.app _) List.not_mem_nil).fr (.app _) List.not_mem_nil) get_new (by simp only [List.length_append, List.length_set]; have := d5.lt; rw [List.length_set] at this; omega) (by simp) (Nat.le_of_ble_eq_true rfl) (by omega)).mono fun y h6 ⟨my, f6, d6⟩ => ?_
  have g6 : Fr [i] h h6 := ((g4.trans (.app _)).trans (.app _)).trans f6
  have d7 := d6.up (B' := B + 6) (by omega)
  have cx : ∃ s, x = .str s ∧ s ∈ lab4 := by
    simp only [List.mem_cons, List.not_mem_nil, or_false] at mx
    rcases mx with rfl | rfl | rfl | rfl <;> exact ⟨_, rfl, by decide⟩
  obtain ⟨s, rfl, hs⟩ := cx
  have my : y ∈ [PV.tup [PV.str "label", PV.str s], PV.tup [PV.str "root"], PV.tup [PV.str "level", PV.int q, PV.int (2 + r)], PV.tup [PV.str "label", PV.str s]] := my
  simp only [List.mem_cons, List.not_mem_nil, or_false] at my
  rcases my with rfl | rfl | rfl | rfl
  · exact k (.label s) h6 hs rfl rfl g6 d7
  · exact k .root h6 trivial rfl rfl g6 d7
  · exact k (.level q (2 + r)) h6 ⟨q0, q1, by omega, by omega⟩ rfl rfl g6 d7
  · exact k (.label s) h6 hs rfl rfl g6 d7
end Law
end Zed
end
section
set_option Elab.async false
set_option linter.all false
set_option maxRecDepth 100000
set_option maxHeartbeats 1000000
set_option exponentiation.threshold 10000
namespace Zed
namespace Law
open PySem L2
def K : Nat → Int
  | 0 => 12
  | D + 1 => 2 * K D + 12
theorem K_pos : ∀ D, 12 ≤ K D
  | 0 => by decide
  | D + 1 => by
    have := K_pos D
    show 12 ≤ 2 * K D + 12
    omega
def SpE (D : Nat) : Prop := ∀ ⦃n i j : Nat⦄ ⦃r B : Int⦄ ⦃h : PHeap⦄, Dice h i B → h[j]? = some (.lst [.int r]) → i ≠ j → 1 ≤ r → B + K D < 2 ^ 100 →
  Ok (cl (n + D + 3) 15 [.ref i, .int (D + 1), .ref j] h) fun d h' => ∃ e, d = pv e ∧ okE e ∧ dp e ≤ D + 1 ∧ (sz e : Int) ≤ r ∧ h'[j]? = some (.lst [.int (r - sz e)]) ∧ Fr [i, j] h h' ∧ Dice h' i (B + K D)
theorem ok_expr1 (D : Nat) (ih : ∀ D', D = D' + 1 → SpE D') : SpE D := by
  intro n i j r B h d e ne hr hB
  have kp := K_pos D
  refine (f_call t_expr rfl).mpr ?_
  (unfold f_law_expression; dsimp only [List.map, List.append, HAppend.hAppend, Append.append, List.replicate, Nat.reduceSub])
  walk_at "zz"
  have hi := d.lt
  have hj := lt_of_get e
  have e1 := get_self (o' := .lst [.int (r - 1)]) e
  have f1 : Fr [i, j] h (h.set j (.lst [.int (r - 1)])) := .set (by simp)
  have d1 : Dice (h.set j (.lst [.int (r - 1)])) i B := d.fr (.set (S := [j]) List.mem_cons_self) (by simpa using ne)
  refine (ok_roll d1 (by decide) (by omega) (by decide)).mono fun y h2 ⟨w, ew, w0, w1, f2, d2⟩ => ?_
  subst ew
  have e2 := f2.get e1 (by simpa using ne.symm)
  have g2 : Fr [i, j] h h2 := f1.trans (f2.mono (by simp))
  have leaf : ∀ {N : Loc → PHeap → Prop}, OkS (exSs ⟨cl (n + D + 2), CT⟩ leafB [some (.ref i), some (.int (D + 1)), some (.ref j), some (.int w), none, none, none] h2) N fun d h' => ∃ e, d = pv e ∧ okE e ∧ dp e ≤ D + 1 ∧ (sz e : Int) ≤ r ∧ h'[j]? = some (.lst [.int (r - sz e)]) ∧ Fr [i, j] h h' ∧ Dice h' i (B + K D) := fun {N} => by
    refine ok_leaf (m := n + D) d2 (by omega) fun ex h' o1 o2 o3 f3 d3 => ⟨ex, rfl, o1, by omega, by omega, ?_, g2.trans (f3.mono (by simp)), d3.up (by omega)⟩
    rw [o2]
    exact f3.get e2 (by simpa using ne.symm)
  walk_at "zz"
  refine ⟨fun k1 => ⟨fun _ => leaf, fun z => by rw [k1] at z; cases z⟩, fun k1 => ?_⟩
  walk_at "zz"
  refine ⟨fun k2 => ⟨fun _ => leaf, fun z => by rw [k2] at z; cases z⟩, fun k2 => ?_⟩
  walk_at "zz"
  refine ⟨fun k3 => leaf, fun k3 => ?_⟩
  have k1 := of_decide_eq_false k1
  have k2 := of_decide_eq_false k2
  have k3 := of_decide_eq_false k3
  obtain ⟨D, rfl⟩ : ∃ D', D = D' + 1 := ⟨D - 1, by omega⟩
  have ih := ih D rfl
  have ee : ((D + 1 : Nat) : Int) + 1 - 1 = (D : Int) + 1 := by omega
  have kk : K (D + 1) = 2 * K D + 12 := rfl
  have kp := K_pos D
  have un : Ok (evE ⟨cl (n + (D + 1) + 2), CT⟩ (.tup (.cons (.call 14 (.cons (.loc 0) (.cons (.lst (.cons (.con (.str "parent")) (.cons (.con (.str "above")) (.cons (.con (.str "not")) .nil)))) .nil))) (.cons (.call 15 (.cons (.loc 0) (.cons (.bin .sub (.loc 1) (.con (.int 1))) (.cons (.loc 2) .nil)))) .nil))) [some (.ref i), some (.int ((D + 1 : Nat) + 1)), some (.ref j), some (.int w), none, none, none] h2) fun d h' => ∃ e, d = pv e ∧ okE e ∧ dp e ≤ (D + 1) + 1 ∧ (sz e : Int) ≤ r ∧ h'[j]? = some (.lst [.int (r - sz e)]) ∧ Fr [i, j] h h' ∧ Dice h' i (B + K (D + 1)) := by
    walk_at "zz"
    have i2 := d2.lt
    refine (ok_one_of (n := n + (D + 1)) (d2.fr (.app _) List.not_mem_nil) get_new (by omega) (by simp) (by decide) (by omega)).mono fun x h3 ⟨mx, f3, d3⟩ => ?_
    have e3 := ((Fr.app _).trans f3).get e2 (by simpa using ne.symm)
    have g3 : Fr [i, j] h h3 := (g2.trans (.app _)).trans (f3.mono (by simp))
    walk_at "zz"
    show Ok (cl (n + D + 3) 15 [.ref i, .int (((D + 1 : Nat) : Int) + 1 - 1), .ref j] h3) _
    rw [ee]
    refine (ih d3 e3 ne (by omega) (by omega)).mono fun y h4 ⟨ex, hy, o1, o2, o3, e4, f4, d4⟩ => ?_
    subst hy
    walk_at "zz"
    simp only [List.mem_cons, List.not_mem_nil, or_false] at mx
    have d5 := d4.up (B' := B + K (D + 1)) (by omega)
    rcases mx with rfl | rfl | rfl
    · refine ⟨.parent ex, rfl, o1, by show dp ex + 1 ≤ _; omega, by show ((sz ex + 1 : Nat) : Int) ≤ _; omega, ?_, g3.trans f4, d5⟩
      rw [e4]; show some (PObj.lst [.int _]) = some (PObj.lst [.int (r - ((sz ex + 1 : Nat) : Int))]); congr 4; omega
    · refine ⟨.above ex, rfl, o1, by show dp ex + 1 ≤ _; omega, by show ((sz ex + 1 : Nat) : Int) ≤ _; omega, ?_, g3.trans f4, d5⟩
      rw [e4]; show some (PObj.lst [.int _]) = some (PObj.lst [.int (r - ((sz ex + 1 : Nat) : Int))]); congr 4; omega
    · refine ⟨.neg ex, rfl, o1, by show dp ex + 1 ≤ _; omega, by show ((sz ex + 1 : Nat) : Int) ≤ _; omega, ?_, g3.trans f4, d5⟩
      rw [e4]; show some (PObj.lst [.int _]) = some (PObj.lst [.int (r - ((sz ex + 1 : Nat) : Int))]); congr 4; omega
  walk_at "zz"
  refine ⟨fun k4 => ⟨fun _ => ?_, fun z => by rw [k4] at z; cases z⟩, fun k4 => ?_⟩
  · refine s_cons.mpr (s_ret.mpr un)
  walk_at "zz"
  refine ⟨fun k5 => s_cons.mpr (s_ret.mpr un), fun k5 => ?_⟩
  have k5 := of_decide_eq_false k5
  walk_at "zz"
  have e3 := get_self (o' := .lst [.int (r - 1 - 1)]) e2
  have f3 : Fr [i, j] h2 (h2.set j (.lst [.int (r - 1 - 1)])) := .set (by simp)
  have d3 : Dice (h2.set j (.lst [.int (r - 1 - 1)])) i (B + 1) := d2.fr (.set (S := [j]) List.mem_cons_self) (by simpa using ne)
  show Ok (cl (n + D + 3) 15 [.ref i, .int (((D + 1 : Nat) : Int) + 1 - 1), .ref j] _) _
  rw [ee]
  refine (ih d3 e3 ne (by omega) (by omega)).mono fun y h4 ⟨ea, hy, a1, a2, a3, e4, f4, d4⟩ => ?_
  subst hy
  walk_at "zz"
  have e5 := get_self (o' := .lst [.int (r - 1 - 1 - sz ea + 1)]) e4
  have f5 : Fr [i, j] h4 (h4.set j (.lst [.int (r - 1 - 1 - sz ea + 1)])) := .set (by simp)
  have d5 : Dice (h4.set j (.lst [.int (r - 1 - 1 - sz ea + 1)])) i (B + 1 + K D) := d4.fr (.set (S := [j]) List.mem_cons_self) (by simpa using ne)
  have i5 := d5.lt
  have j5 := lt_of_get e5
  refine (ok_one_of (n := n + (D + 1)) (d5.fr (.app _) List.not_mem_nil) get_new (by omega) (by simp) (by decide) (by omega)).mono fun x h6 ⟨mx, f6, d6⟩ => ?_
  have e6 := ((Fr.app _).trans f6).get e5 (by simpa using ne.symm)
  have g6 : Fr [i, j] h h6 := ((((g2.trans f3).trans f4).trans f5).trans (.app _)).trans (f6.mono (by simp))
  walk_at "zz"
  show Ok (cl (n + D + 3) 15 [.ref i, .int (((D + 1 : Nat) : Int) + 1 - 1), .ref j] _) _
  rw [ee]
  refine (ih d6 e6 ne (by omega) (by omega)).mono fun y h7 ⟨eb, hy, b1, b2, b3, e7, f7, d7⟩ => ?_
  subst hy
  walk_at "zz"
  have d8 := d7.up (B' := B + K (D + 1)) (by omega)
  simp only [List.mem_cons, List.not_mem_nil, or_false] at mx
  rcases mx with rfl | rfl
  · refine ⟨.conj ea eb, rfl, ⟨a1, b1⟩, by show max (dp ea) (dp eb) + 1 ≤ _; omega, by show ((sz ea + sz eb + 1 : Nat) : Int) ≤ _; omega, ?_, g6.trans f7, d8⟩
    rw [e7]; show some (PObj.lst [.int _]) = some (PObj.lst [.int (r - ((sz ea + sz eb + 1 : Nat) : Int))]); congr 4; omega
  · refine ⟨.disj ea eb, rfl, ⟨a1, b1⟩, by show max (dp ea) (dp eb) + 1 ≤ _; omega, by show ((sz ea + sz eb + 1 : Nat) : Int) ≤ _; omega, ?_, g6.trans f7, d8⟩
    rw [e7]; show some (PObj.lst [.int _]) = some (PObj.lst [.int (r - ((sz ea + sz eb + 1 : Nat) : Int))]); congr 4; omega
theorem ok_expr : ∀ D, SpE D
  | 0 => ok_expr1 0 fun _ z => (nomatch z)
  | D + 1 => ok_expr1 (D + 1) fun D' z => by
    obtain rfl : D = D' := by omega
    exact ok_expr D
end Law
end Zed
end
section
set_option Elab.async false
set_option linter.all false
set_option maxRecDepth 100000
set_option maxHeartbeats 1000000
set_option exponentiation.threshold 10000
namespace Zed
namespace Law
open PySem L2
theorem t_is_name : TB 1 = some f_is_name := rfl
theorem t_is_index : TB 3 = some f_is_index := rfl
theorem t_is_atom : TB 5 = some f_is_atom := rfl
theorem t_is_built : TB 4 = some f_is_built := rfl
theorem lc_eq {tg : Tg} {src : Src} {tt : Loc → PHeap → Zed.R Bool} {el : Loc → PHeap → Zed.R PV} {lw : Loc} {n : Nat} {h h' : PHeap} {ds : List PV} {Q : List PV → PHeap → Prop} (e : lcLoop tg src tt el lw n 0 [] h = .ok ds h') (q : Q ds h') : Ok (lcLoop tg src tt el lw n 0 [] h) Q := by
  rw [e]; exact q
theorem okP_all {h : PHeap} {j : Nat} {ds : List PV} {bs : List Bool} {Q : PV → PHeap → Prop} (e : h[j]? = some (.lst ds)) (e2 : bools ds = some bs) (q : Q (.bl (bs.all id)) h) : OkP (bltF .all [.ref j] h) Q := by
  refine okP_of ?_ q
  unfold bltF
  simp only [lstOf, e, e2]; rfl
theorem ok_is_name {n : Nat} {h : PHeap} {s : Str} (hs : s ∈ lab4) : Ok (cl (n + 1) 1 [.str s] h) fun d h' => d = .bl true ∧ Fr [] h h' := by
  refine (f_call t_is_name rfl).mpr ?_
  (unfold f_is_name; dsimp only [List.map, List.append, HAppend.hAppend, Append.append, List.replicate, Nat.reduceSub])
  simp only [lab4, List.mem_cons, List.not_mem_nil, or_false] at hs
  rcases hs with rfl | rfl | rfl | rfl
  all_goals
    walk_at "zz"
    (with_reducible apply lc_eq); rfl
    walk_at "zz"
    refine okP_all get_new rfl ⟨rfl, .app _⟩
theorem ok_is_index {n : Nat} {h : PHeap} {v t : Int} (h0 : 0 ≤ v) (h1 : v < t) : Ok (cl (n + 1) 3 [.int v, .int t] h) fun d h' => d = .bl true ∧ h' = h := by
  refine (f_call t_is_index rfl).mpr ?_
  (unfold f_is_index; dsimp only [List.map, List.append, HAppend.hAppend, Append.append, List.replicate, Nat.reduceSub])
  walk_at "zz"
  refine br_t (decide_eq_true h0) ?_
  walk_at "zz"
  exact ⟨by rw [decide_eq_true h1], rfl⟩
/-! what an expression is as data -/
def dat : E → PyData
  | .label s => .tuple [.str "label", .str s]
  | .root => .tuple [.str "root"]
  | .level r m => .tuple [.str "level", .int r, .int m]
  | .parent e => .tuple [.str "parent", dat e]
  | .above e => .tuple [.str "above", dat e]
  | .neg e => .tuple [.str "not", dat e]
  | .conj a b => .tuple [.str "and", dat a, dat b]
  | .disj a b => .tuple [.str "or", dat a, dat b]
theorem toD_str {h : PHeap} {n : Nat} {x : Str} : toD h n (.str x) = some (.str x) := by cases n <;> rfl
theorem toD_int {h : PHeap} {n : Nat} {x : Int} : toD h n (.int x) = some (.int x) := by cases n <;> rfl
theorem toD_pv (h : PHeap) : ∀ (e : E) (n : Nat), dp e ≤ n → toD h n (pv e) = some (dat e)
  | .label s, n + 1, _ => by simp only [pv, dat, toD, mapO, toD_str]; rfl
  | .root, n + 1, _ => by simp only [pv, dat, toD, mapO, toD_str]; rfl
  | .level r m, n + 1, _ => by simp only [pv, dat, toD, mapO, toD_str, toD_int]; rfl
  | .parent e, n + 1, l => by
    have := toD_pv h e n (by unfold dp at l; omega)
    simp only [pv, dat, toD, mapO, toD_str, this]; rfl
  | .above e, n + 1, l => by
    have := toD_pv h e n (by unfold dp at l; omega)
    simp only [pv, dat, toD, mapO, toD_str, this]; rfl
  | .neg e, n + 1, l => by
    have := toD_pv h e n (by unfold dp at l; omega)
    simp only [pv, dat, toD, mapO, toD_str, this]; rfl
  | .conj a b, n + 1, l => by
    have h1 := toD_pv h a n (by unfold dp at l; omega)
    have h2 := toD_pv h b n (by unfold dp at l; omega)
    simp only [pv, dat, toD, mapO, toD_str, h1, h2]; rfl
  | .disj a b, n + 1, l => by
    have h1 := toD_pv h a n (by unfold dp at l; omega)
    have h2 := toD_pv h b n (by unfold dp at l; omega)
    simp only [pv, dat, toD, mapO, toD_str, h1, h2]; rfl
  | .label _, 0, l => by unfold dp at l; omega
  | .root, 0, l => by unfold dp at l; omega
  | .level _ _, 0, l => by unfold dp at l; omega
  | .parent _, 0, l => by unfold dp at l; omega
  | .above _, 0, l => by unfold dp at l; omega
  | .neg _, 0, l => by unfold dp at l; omega
  | .conj _ _, 0, l => by unfold dp at l; omega
  | .disj _ _, 0, l => by unfold dp at l; omega
theorem lay_lab {s : Str} (h : s ∈ lab4) : (PyData.str s).canLay0 = true := by
  simp only [lab4, List.mem_cons, List.not_mem_nil, or_false] at h
  rcases h with rfl | rfl | rfl | rfl <;> decide +kernel
theorem lay_dat : ∀ e : E, okE e → (dat e).canLay0 = true
  | .label s, o => by
    have := lay_lab o
    simp only [dat, PyData.canLay0, PyData.canLayAll0] at this ⊢
    rw [this]; decide +kernel
  | .root, _ => by decide +kernel
  | .level r m, _ => by simp only [dat, PyData.canLay0, PyData.canLayAll0]; decide +kernel
  | .parent e, o => by
    have := lay_dat e o
    simp only [dat, PyData.canLay0, PyData.canLayAll0, this]; decide +kernel
  | .above e, o => by
    have := lay_dat e o
    simp only [dat, PyData.canLay0, PyData.canLayAll0, this]; decide +kernel
  | .neg e, o => by
    have := lay_dat e o
    simp only [dat, PyData.canLay0, PyData.canLayAll0, this]; decide +kernel
  | .conj a b, o => by
    have h1 := lay_dat a o.1
    have h2 := lay_dat b o.2
    simp only [dat, PyData.canLay0, PyData.canLayAll0, h1, h2]; decide +kernel
  | .disj a b, o => by
    have h1 := lay_dat a o.1
    have h2 := lay_dat b o.2
    simp only [dat, PyData.canLay0, PyData.canLayAll0, h1, h2]; decide +kernel
theorem depth_dat : ∀ e : E, (dat e).depth = dp e
  | .label s => rfl
  | .root => rfl
  | .level r m => rfl
  | .parent e => by have := depth_dat e; simp only [dat, dp, PyData.depth, PyData.depthAll]; omega
  | .above e => by have := depth_dat e; simp only [dat, dp, PyData.depth, PyData.depthAll]; omega
  | .neg e => by have := depth_dat e; simp only [dat, dp, PyData.depth, PyData.depthAll]; omega
  | .conj a b => by have h1 := depth_dat a; have h2 := depth_dat b; simp only [dat, dp, PyData.depth, PyData.depthAll]; omega
  | .disj a b => by have h1 := depth_dat a; have h2 := depth_dat b; simp only [dat, dp, PyData.depth, PyData.depthAll]; omega
theorem shaped_dat {e : E} (o : okE e) (d : dp e ≤ 60) : SeqAt.shaped (dat e) = true := by
  unfold SeqAt.shaped
  rw [lay_dat e o, depth_dat, Bool.true_and]
  exact decide_eq_true (by omega)
theorem eq_pv {h : PHeap} {e : E} {y : PV} {b : PyData} (o : okE e) (d : dp e ≤ 60) (h1 : toD h 70 y = some b) (h2 : SeqAt.shaped b = true) : eqF h (pv e) y = some (PyData.eqv (dat e) b) := by
  unfold eqF
  rw [toD_pv h e 70 (by omega), h1]
  exact if_pos ⟨shaped_dat o d, h2⟩
theorem sh0 : SeqAt.shaped (.tuple []) = true := by decide +kernel
theorem sh1 : SeqAt.shaped (.tuple [.str "root"]) = true := by decide +kernel
theorem okO_eqpv {h : PHeap} {e : E} {y : PV} {b : PyData} {Q : Bool → Prop} (o : okE e) (d : dp e ≤ 60) (h1 : toD h 70 y = some b) (h2 : SeqAt.shaped b = true) (q : Q (PyData.eqv (dat e) b)) : OkO (cmpB .eq h (pv e) y) Q :=
  okO_of (show eqF h (pv e) y = _ from eq_pv o d h1 h2) q
/-- an expression that is none of the built ones -/
def isLeaf : E → Bool
  | .label _ => true
  | .root => true
  | .level _ _ => true
  | _ => false
theorem ok_is_atom {n : Nat} {h : PHeap} {e : E} (he : okE e) (hl : isLeaf e = true) : Ok (cl (n + 2) 5 [pv e] h) fun d h' => d = .bl true ∧ Fr [] h h' := by
  refine (f_call t_is_atom rfl).mpr ?_
  cases e with
  | label s =>
    (unfold f_is_atom; dsimp only [List.map, List.append, HAppend.hAppend, Append.append, List.replicate, Nat.reduceSub])
    walk_at "zz"
    refine okO_eqpv he (Nat.le_of_ble_eq_true rfl) rfl sh1 ?_
    walk_at "zz"
    exact ok_is_name he
  | root =>
    (unfold f_is_atom; dsimp only [List.map, List.append, HAppend.hAppend, Append.append, List.replicate, Nat.reduceSub])
    walk_at "zz"
    refine okO_eqpv he (Nat.le_of_ble_eq_true rfl) rfl sh1 ?_
    walk_at "zz"
    exact ⟨rfl, .refl⟩
  | level r m =>
    (unfold f_is_atom; dsimp only [List.map, List.append, HAppend.hAppend, Append.append, List.replicate, Nat.reduceSub])
    walk_at "zz"
    refine okO_eqpv he (Nat.le_of_ble_eq_true rfl) rfl sh1 ?_
    walk_at "zz"
    obtain ⟨p1, p2, p3, p4⟩ := he
    refine (ok_is_index (by omega) (by omega)).mono fun d h1 ⟨e1, e2⟩ => ?_
    subst e1
    subst e2
    walk_at "zz"
    refine br_f (decide_eq_false (by omega)) ?_
    walk_at "zz"
    refine (ok_is_index p1 p2).mono fun d h1 ⟨e1, e2⟩ => ?_
    subst e1
    subst e2
    exact ⟨rfl, .refl⟩
  | _ => cases hl
/-- is_built: an expression that is nested not too deep -/
theorem ok_is_built : ∀ (e : E) {n : Nat} {h : PHeap} {k : Int}, okE e → (dp e : Int) ≤ k → k ≤ 50 → Ok (cl (n + dp e + 2) 4 [pv e, .int k] h) fun d h' => d = .bl true ∧ Fr [] h h'
  | .label s, n, h, k, o, l, m => by
    have kz : PyData.eqv (.int k) (.int 0) = false := by
      have : 1 ≤ k := l
      show (k == 0) = false
      simp; omega
    refine (f_call t_is_built rfl).mpr ?_
    (unfold f_is_built; dsimp only [List.map, List.append, HAppend.hAppend, Append.append, List.replicate, Nat.reduceSub])
    walk_at "zz"
    refine okO_eqpv o (Nat.le_of_ble_eq_true rfl) rfl sh0 ?_
    walk_at "zz"
    exact ok_is_atom o rfl
  | .root, n, h, k, o, l, m => by
    have kz : PyData.eqv (.int k) (.int 0) = false := by
      have : 1 ≤ k := l
      show (k == 0) = false
      simp; omega
    refine (f_call t_is_built rfl).mpr ?_
    (unfold f_is_built; dsimp only [List.map, List.append, HAppend.hAppend, Append.append, List.replicate, Nat.reduceSub])
    walk_at "zz"
    refine okO_eqpv o (Nat.le_of_ble_eq_true rfl) rfl sh0 ?_
    walk_at "zz"
    exact ok_is_atom o rfl
  | .level r q, n, h, k, o, l, m => by
    have kz : PyData.eqv (.int k) (.int 0) = false := by
      have : 1 ≤ k := l
      show (k == 0) = false
      simp; omega
    refine (f_call t_is_built rfl).mpr ?_
    (unfold f_is_built; dsimp only [List.map, List.append, HAppend.hAppend, Append.append, List.replicate, Nat.reduceSub])
    walk_at "zz"
    refine okO_eqpv o (Nat.le_of_ble_eq_true rfl) rfl sh0 ?_
    walk_at "zz"
    exact ok_is_atom o rfl
  | .parent e, n, h, k, o, l, m => by
    have l : ((dp e + 1 : Nat) : Int) ≤ k := l
    have kz : PyData.eqv (.int k) (.int 0) = false := by
      show (k == 0) = false
      simp; omega
    refine (f_call t_is_built rfl).mpr ?_
    (unfold f_is_built; dsimp only [List.map, List.append, HAppend.hAppend, Append.append, List.replicate, Nat.reduceSub])
    walk_at "zz"
    refine okO_eqpv o (by show dp e + 1 ≤ 60; omega) rfl sh0 ?_
    walk_at "zz"
    exact ok_is_built e o (by omega) (by omega)
  | .above e, n, h, k, o, l, m => by
    have l : ((dp e + 1 : Nat) : Int) ≤ k := l
    have kz : PyData.eqv (.int k) (.int 0) = false := by
      show (k == 0) = false
      simp; omega
    refine (f_call t_is_built rfl).mpr ?_
    (unfold f_is_built; dsimp only [List.map, List.append, HAppend.hAppend, Append.append, List.replicate, Nat.reduceSub])
    walk_at "zz"
    refine okO_eqpv o (by show dp e + 1 ≤ 60; omega) rfl sh0 ?_
    walk_at "zz"
    exact ok_is_built e o (by omega) (by omega)
  | .neg e, n, h, k, o, l, m => by
    have l : ((dp e + 1 : Nat) : Int) ≤ k := l
    have kz : PyData.eqv (.int k) (.int 0) = false := by
      show (k == 0) = false
      simp; omega
    refine (f_call t_is_built rfl).mpr ?_
    (unfold f_is_built; dsimp only [List.map, List.append, HAppend.hAppend, Append.append, List.replicate, Nat.reduceSub])
    walk_at "zz"
    refine okO_eqpv o (by show dp e + 1 ≤ 60; omega) rfl sh0 ?_
    walk_at "zz"
    exact ok_is_built e o (by omega) (by omega)
  | .conj a b, n, h, k, o, l, m => by
    have l : ((max (dp a) (dp b) + 1 : Nat) : Int) ≤ k := l
    have kz : PyData.eqv (.int k) (.int 0) = false := by
      show (k == 0) = false
      simp; omega
    refine (f_call t_is_built rfl).mpr ?_
    (unfold f_is_built; dsimp only [List.map, List.append, HAppend.hAppend, Append.append, List.replicate, Nat.reduceSub])
    walk_at "zz"
    refine okO_eqpv o (by show max (dp a) (dp b) + 1 ≤ 60; omega) rfl sh0 ?_
    walk_at "zz"
    have ha := @ok_is_built a (n + (max (dp a) (dp b) - dp a)) h (k - 1) o.1 (by omega) (by omega)
    have e1 : n + (max (dp a) (dp b) - dp a) + dp a + 2 = n + dp (.conj a b) + 1 := by show _ = n + (max (dp a) (dp b) + 1) + 1; omega
    rw [e1] at ha
    refine ha.mono fun d h1 ⟨z1, f1⟩ => ?_
    subst z1
    walk_at "zz"
    have hb := @ok_is_built b (n + (max (dp a) (dp b) - dp b)) h1 (k - 1) o.2 (by omega) (by omega)
    have e2 : n + (max (dp a) (dp b) - dp b) + dp b + 2 = n + dp (.conj a b) + 1 := by show _ = n + (max (dp a) (dp b) + 1) + 1; omega
    rw [e2] at hb
    exact hb.mono fun d h2 ⟨z2, f2⟩ => ⟨z2, f1.trans f2⟩
  | .disj a b, n, h, k, o, l, m => by
    have l : ((max (dp a) (dp b) + 1 : Nat) : Int) ≤ k := l
    have kz : PyData.eqv (.int k) (.int 0) = false := by
      show (k == 0) = false
      simp; omega
    refine (f_call t_is_built rfl).mpr ?_
    (unfold f_is_built; dsimp only [List.map, List.append, HAppend.hAppend, Append.append, List.replicate, Nat.reduceSub])
    walk_at "zz"
    refine okO_eqpv o (by show max (dp a) (dp b) + 1 ≤ 60; omega) rfl sh0 ?_
    walk_at "zz"
    have ha := @ok_is_built a (n + (max (dp a) (dp b) - dp a)) h (k - 1) o.1 (by omega) (by omega)
    have e1 : n + (max (dp a) (dp b) - dp a) + dp a + 2 = n + dp (.disj a b) + 1 := by show _ = n + (max (dp a) (dp b) + 1) + 1; omega
    rw [e1] at ha
    refine ha.mono fun d h1 ⟨z1, f1⟩ => ?_
    subst z1
    walk_at "zz"
    have hb := @ok_is_built b (n + (max (dp a) (dp b) - dp b)) h1 (k - 1) o.2 (by omega) (by omega)
    have e2 : n + (max (dp a) (dp b) - dp b) + dp b + 2 = n + dp (.disj a b) + 1 := by show _ = n + (max (dp a) (dp b) + 1) + 1; omega
    rw [e2] at hb
    exact hb.mono fun d h2 ⟨z2, f2⟩ => ⟨z2, f1.trans f2⟩
end Law
end Zed
end
section
set_option Elab.async false
set_option linter.all false
set_option maxRecDepth 100000
set_option maxHeartbeats 1000000
set_option exponentiation.threshold 10000
namespace Zed
namespace Law
open PySem L2
theorem t_inner : TB 6 = some f_inner_of := rfl
theorem t_parts : TB 7 = some f_parts_of := rfl
def kids : E → List E
  | .parent e => [e]
  | .above e => [e]
  | .neg e => [e]
  | .conj a b => [a, b]
  | .disj a b => [a, b]
  | _ => []
theorem ok_inner {n : Nat} {h : PHeap} (e : E) : Ok (cl (n + 1) 6 [pv e] h) fun d h' => d = .tup ((kids e).map pv) ∧ h' = h := by
  refine (f_call t_inner rfl).mpr ?_
  cases e <;> ((unfold f_inner_of; dsimp only [List.map, List.append, HAppend.hAppend, Append.append, List.replicate, Nat.reduceSub]); walk_at "zz"; exact ⟨rfl, rfl⟩)
theorem for_step {tg : Tg} {src : Src} {body : Loc → PHeap → RS} {n i : Nat} {l : Loc} {h : PHeap} {d : PV} {N : Loc → PHeap → Prop} {T : PV → PHeap → Prop} (hs : srcAt h i src = some (some d))
    (k : OkO (bindT tg d l) fun l1 => OkS (body l1 h) (fun l2 h2 => OkS (forLoop tg src body n (i + 1) l2 h2) N T) T) : OkS (forLoop tg src body (n + 1) i l h) N T := by
  unfold forLoop
  rw [hs]
  dsimp only
  revert k
  cases bindT tg d l with
  | none => exact False.elim
  | some l1 =>
    intro k
    have k : OkS (body l1 h) (fun l2 h2 => OkS (forLoop tg src body n (i + 1) l2 h2) N T) T := k
    revert k
    dsimp only
    cases body l1 h <;> first | exact id | exact False.elim
theorem for_end {tg : Tg} {src : Src} {body : Loc → PHeap → RS} {n i : Nat} {l : Loc} {h : PHeap} {N : Loc → PHeap → Prop} {T : PV → PHeap → Prop} (hs : srcAt h i src = some none) (k : N l h) : OkS (forLoop tg src body (n + 1) i l h) N T := by
  unfold forLoop
  rw [hs]
  exact k
def post : E → List E
  | .parent e => post e ++ [.parent e]
  | .above e => post e ++ [.above e]
  | .neg e => post e ++ [.neg e]
  | .conj a b => post a ++ post b ++ [.conj a b]
  | .disj a b => post a ++ post b ++ [.disj a b]
  | e => [e]
theorem post_len : ∀ e, (post e).length = sz e
  | .parent e => by simp [post, sz, post_len e]
  | .above e => by simp [post, sz, post_len e]
  | .neg e => by simp [post, sz, post_len e]
  | .conj a b => by simp [post, sz, post_len a, post_len b]; omega
  | .disj a b => by simp [post, sz, post_len a, post_len b]; omega
  | .label _ => rfl
  | .root => rfl
  | .level _ _ => rfl
def SpP (e : E) : Prop := ∀ ⦃n : Nat⦄ ⦃h : PHeap⦄, sz e ≤ 100 → Ok (cl (n + dp e + 2) 7 [pv e] h) fun d h' => ∃ k, d = .ref k ∧ h.length ≤ k ∧ h'[k]? = some (.lst ((post e).map pv)) ∧ Fr [] h h'
theorem okO_seq {h : PHeap} {i : Nat} {ds : List PV} {Q : List PV → Prop} (e : h[i]? = some (.lst ds)) (q : Q ds) : OkO (seqOf h (.ref i)) Q := okO_of (show seqOf h (.ref i) = some ds by simp only [seqOf, e]) q
theorem ok_parts_leaf {e : E} (hl : isLeaf e = true) : SpP e := by
  intro n h _
  refine (f_call t_parts rfl).mpr ?_
  (unfold f_parts_of; dsimp only [List.map, List.append, HAppend.hAppend, Append.append, List.replicate, Nat.reduceSub])
  walk_at "zz"
  refine (ok_inner (n := n + dp e) e).mono fun d h1 ⟨e1, e2⟩ => ?_
  subst e1
  subst e2
  cases e with
  | label s =>
    walk_at "zz"
    refine for_end rfl ?_
    walk_at "zz"
    refine okO_seq get_new ?_
    walk_at "zz"
    exact ⟨_, rfl, by rw [List.length_append]; omega, get_new, (Fr.app _).trans (.app _)⟩
  | root =>
    walk_at "zz"
    refine for_end rfl ?_
    walk_at "zz"
    refine okO_seq get_new ?_
    walk_at "zz"
    exact ⟨_, rfl, by rw [List.length_append]; omega, get_new, (Fr.app _).trans (.app _)⟩
  | level r m =>
    walk_at "zz"
    refine for_end rfl ?_
    walk_at "zz"
    refine okO_seq get_new ?_
    walk_at "zz"
    exact ⟨_, rfl, by rw [List.length_append]; omega, get_new, (Fr.app _).trans (.app _)⟩
  | _ => cases hl
theorem ok_parts_un {x c : E} (k1 : kids x = [c]) (k2 : post x = post c ++ [x]) (k3 : dp x = dp c + 1) (k4 : sz x = sz c + 1) (ih : SpP c) : SpP x := by
  intro n h hz
  refine (f_call t_parts rfl).mpr ?_
  (unfold f_parts_of; dsimp only [List.map, List.append, HAppend.hAppend, Append.append, List.replicate, Nat.reduceSub])
  walk_at "zz"
  refine (ok_inner (n := n + dp x) x).mono fun d h1 ⟨e1, e2⟩ => ?_
  subst e1
  subst e2
  rw [k1]
  walk_at "zz"
  refine for_step (n := 1) rfl ?_
  walk_at "zz"
  refine ⟨rcv_lst get_new, ?_⟩
  walk_at "zz"
  have e1 : n + dp x + 1 = n + dp c + 2 := by omega
  have ih1 := ih (n := n) (h := h ++ [.lst []]) (by omega)
  rw [← e1] at ih1
  refine ih1.mono fun d h2 ⟨k, dk, lk, ek, f2⟩ => ?_
  subst dk
  walk_at "zz"
  have e0 : h2[h.length]? = some (.lst []) := f2.get0 get_new
  rw [List.length_append] at lk
  have lk : h.length + 1 ≤ k := lk
  have hl := post_len c
  refine okP_ext e0 ek (by omega) (by rw [List.length_map, hl]; simp; omega) ?_
  walk_at "zz"
  refine for_end (n := 0) (show srcAt _ _ _ = some none from rfl) ?_
  walk_at "zz"
  refine okO_seq (get_self e0) ?_
  walk_at "zz"
  refine ⟨by rw [List.length_append, List.nil_append, List.length_map, hl]; exact line_of (by simp; omega), ?_⟩
  have f3 : Fr [] h h2 := (Fr.app _).trans f2
  refine ⟨_, rfl, by rw [List.length_set]; exact f3.len, ?_, ?_⟩
  · rw [get_new, k2, List.map_append]; rfl
  · exact (((f3.mono (S' := [h.length]) (by simp)).trans (.set List.mem_cons_self)).trans (.app _)).drop fun z hz => .inl (by rw [List.mem_singleton.mp hz]; exact Nat.le_refl _)
theorem ok_parts_bi {x a b : E} (k1 : kids x = [a, b]) (k2 : post x = post a ++ post b ++ [x]) (k3 : dp x = max (dp a) (dp b) + 1) (k4 : sz x = sz a + sz b + 1) (iha : SpP a) (ihb : SpP b) : SpP x := by
  intro n h hz
  refine (f_call t_parts rfl).mpr ?_
  (unfold f_parts_of; dsimp only [List.map, List.append, HAppend.hAppend, Append.append, List.replicate, Nat.reduceSub])
  walk_at "zz"
  refine (ok_inner (n := n + dp x) x).mono fun d h1 ⟨e1, e2⟩ => ?_
  subst e1
  subst e2
  rw [k1]
  walk_at "zz"
  refine for_step (n := 2) rfl ?_
  walk_at "zz"
  refine ⟨rcv_lst get_new, ?_⟩
  walk_at "zz"
  have e1 : n + dp x + 1 = n + (max (dp a) (dp b) - dp a) + dp a + 2 := by omega
  have ih1 := iha (n := n + (max (dp a) (dp b) - dp a)) (h := h ++ [.lst []]) (by omega)
  rw [← e1] at ih1
  refine ih1.mono fun d h2 ⟨k, dk, lk, ek, f2⟩ => ?_
  subst dk
  walk_at "zz"
  have e0 : h2[h.length]? = some (.lst []) := f2.get0 get_new
  rw [List.length_append] at lk
  have lk : h.length + 1 ≤ k := lk
  have hl := post_len a
  refine okP_ext e0 ek (by omega) (by rw [List.length_map, hl]; simp; omega) ?_
  have e3 := get_self (o' := .lst ([] ++ (post a).map pv)) e0
  have f3 : Fr [] h h2 := (Fr.app _).trans f2
  refine for_step (n := 1) rfl ?_
  walk_at "zz"
  refine ⟨rcv_lst e3, ?_⟩
  walk_at "zz"
  have e1 : n + dp x + 1 = n + (max (dp a) (dp b) - dp b) + dp b + 2 := by omega
  have ih2 := ihb (n := n + (max (dp a) (dp b) - dp b)) (h := h2.set h.length (.lst ([] ++ (post a).map pv))) (by omega)
  rw [← e1] at ih2
  refine ih2.mono fun d h4 ⟨k', dk, lk', ek', f4⟩ => ?_
  subst dk
  walk_at "zz"
  have e4 := f4.get0 e3
  rw [List.length_set] at lk'
  have l2 := lt_of_get e0
  have hlb := post_len b
  refine okP_ext e4 ek' (by omega) (by rw [List.length_append, List.length_map, List.length_map, hl, hlb]; simp; omega) ?_
  walk_at "zz"
  refine for_end (n := 0) (show srcAt _ _ _ = some none from rfl) ?_
  walk_at "zz"
  refine okO_seq (get_self e4) ?_
  walk_at "zz"
  refine ⟨by simp only [List.length_append, List.length_map, hl, hlb]; exact line_of (by simp; omega), ?_⟩
  have f5 : Fr [h.length] h h4 := ((f3.mono (by simp)).trans (.set List.mem_cons_self)).trans (f4.mono (by simp))
  refine ⟨_, rfl, by rw [List.length_set]; exact f5.len, ?_, ?_⟩
  · rw [get_new, k2, List.map_append, List.map_append]; rfl
  · exact ((f5.trans (.set List.mem_cons_self)).trans (.app _)).drop fun z hz => .inl (by rw [List.mem_singleton.mp hz]; exact Nat.le_refl _)
theorem ok_parts : ∀ e, SpP e
  | .label _ => ok_parts_leaf rfl
  | .root => ok_parts_leaf rfl
  | .level _ _ => ok_parts_leaf rfl
  | .parent e => ok_parts_un rfl rfl rfl rfl (ok_parts e)
  | .above e => ok_parts_un rfl rfl rfl rfl (ok_parts e)
  | .neg e => ok_parts_un rfl rfl rfl rfl (ok_parts e)
  | .conj a b => ok_parts_bi rfl rfl rfl rfl (ok_parts a) (ok_parts b)
  | .disj a b => ok_parts_bi rfl rfl rfl rfl (ok_parts a) (ok_parts b)
end Law
end Zed
end
section
set_option Elab.async false
set_option linter.all false
set_option maxRecDepth 100000
set_option maxHeartbeats 1000000
set_option exponentiation.threshold 10000
namespace Zed
namespace Law
open PySem L2
theorem t_isx : TB 8 = some f_is_expression := rfl
theorem t_req : TB 10 = some f_require_expression := rfl
theorem t_size : TB 18 = some f_size_of := rfl
/-- a right expression: as drawn -/
structure Ex9 (e : E) : Prop where
  ok : okE e
  dp : dp e ≤ 5
  sz : sz e ≤ 9
theorem lvl {a b : Nat} (h : a ≤ b) : ∃ n, b = n + a := ⟨b - a, by omega⟩
theorem ok_built {e : E} {N : Nat} {h : PHeap} {k : Int} (o : okE e) (l : (dp e : Int) ≤ k) (m : k ≤ 50) (hN : dp e + 2 ≤ N) : Ok (cl N 4 [pv e, .int k] h) fun d h' => d = .bl true ∧ Fr [] h h' := by
  obtain ⟨n, rfl⟩ := lvl hN
  rw [← Nat.add_assoc]
  exact ok_is_built e o l m
theorem ok_partsN {e : E} {N : Nat} {h : PHeap} (z : sz e ≤ 100) (hN : dp e + 2 ≤ N) : Ok (cl N 7 [pv e] h) fun d h' => ∃ k, d = .ref k ∧ h.length ≤ k ∧ h'[k]? = some (.lst ((post e).map pv)) ∧ Fr [] h h' := by
  obtain ⟨n, rfl⟩ := lvl hN
  rw [← Nat.add_assoc]
  exact ok_parts e z
theorem ok_isx {e : E} {N : Nat} {h : PHeap} (x : Ex9 e) (hN : 8 ≤ N) : Ok (cl N 8 [pv e] h) fun d h' => d = .bl true ∧ Fr [] h h' := by
  obtain ⟨n, rfl⟩ := lvl (a := 1) (b := N) (by omega)
  have := x.dp
  refine (f_call t_isx rfl).mpr ?_
  (unfold f_is_expression; dsimp only [List.map, List.append, HAppend.hAppend, Append.append, List.replicate, Nat.reduceSub])
  walk_at "zz"
  refine (ok_built (N := n) x.ok (by omega) (by decide) (by omega)).mono fun d h1 ⟨e1, f1⟩ => ?_
  subst e1
  walk_at "zz"
  refine (ok_partsN (N := n) (by have := x.sz; omega) (by omega)).mono fun d h2 ⟨k, e2, l2, g2, f2⟩ => ?_
  subst e2
  walk_at "zz"
  refine okP_len g2 ?_
  walk_at "zz"
  refine ⟨?_, f1.trans f2⟩
  have := x.sz
  rw [List.length_map, post_len]
  exact congrArg PV.bl (decide_eq_true (by omega))
theorem ok_req {e : E} {N : Nat} {h : PHeap} (x : Ex9 e) (hN : 9 ≤ N) : Ok (cl N 10 [pv e] h) fun d h' => d = .non ∧ Fr [] h h' := by
  obtain ⟨n, rfl⟩ := lvl (a := 1) (b := N) (by omega)
  refine (f_call t_req rfl).mpr ?_
  (unfold f_require_expression; dsimp only [List.map, List.append, HAppend.hAppend, Append.append, List.replicate, Nat.reduceSub])
  walk_at "zz"
  refine (ok_isx (N := n) x (by omega)).mono fun d h1 ⟨e1, f1⟩ => ?_
  subst e1
  walk_at "zz"
  exact ⟨rfl, f1⟩
theorem ok_size {e : E} {N : Nat} {h : PHeap} (x : Ex9 e) (hN : 10 ≤ N) : Ok (cl N 18 [pv e] h) fun d h' => d = .int (sz e) ∧ Fr [] h h' := by
  obtain ⟨n, rfl⟩ := lvl (a := 1) (b := N) (by omega)
  have := x.dp
  refine (f_call t_size rfl).mpr ?_
  (unfold f_size_of; dsimp only [List.map, List.append, HAppend.hAppend, Append.append, List.replicate, Nat.reduceSub])
  walk_at "zz"
  refine (ok_req (N := n) x (by omega)).mono fun d h1 ⟨e1, f1⟩ => ?_
  walk_at "zz"
  refine (ok_partsN (N := n) (by have := x.sz; omega) (by omega)).mono fun d h2 ⟨k, e2, l2, g2, f2⟩ => ?_
  subst e2
  walk_at "zz"
  refine okP_len g2 ?_
  rw [List.length_map, post_len]
  exact ⟨rfl, f1.trans f2⟩
end Law
end Zed
end
section
set_option Elab.async false
set_option linter.all false
set_option maxRecDepth 100000
set_option maxHeartbeats 1000000
set_option exponentiation.threshold 10000
namespace Zed
namespace Law
open PySem L2
theorem t_labels : TB 19 = some f_labels_in := rfl
def lab1 : E → Option Str
  | .label s => some s
  | _ => none
def labs (es : List E) : List Str := es.filterMap lab1
theorem strsP_str : ∀ (xs : List Str), strsP (xs.map PV.str) = some xs := strsP_map
theorem okP_set {h : PHeap} {j : Nat} {xs : List Str} {Q : PV → PHeap → Prop} (e : h[j]? = some (.lst (xs.map PV.str))) (hl : xs.length < 64) (q : Q (.ref h.length) (h ++ [.set ((dedS xs).map PV.str)])) : OkP (bltF .set [.ref j] h) Q := by
  refine okP_of ?_ q
  show setP h (.ref j) = _
  simp only [setP, lstOf, e, strsP_str, if_pos hl]; rfl
theorem okP_sortS {h : PHeap} {j : Nat} {xs : List Str} {Q : PV → PHeap → Prop} (e : h[j]? = some (.set (xs.map PV.str))) (q : Q (.ref h.length) (h ++ [.lst ((sortS xs).map PV.str)])) : OkP (bltF .sorted [.ref j] h) Q := by
  refine okP_of ?_ q
  show sortP h (.ref j) = _
  simp only [sortP, e, strsP_str]; rfl
theorem okP_tuple {h : PHeap} {j : Nat} {xs : List PV} {Q : PV → PHeap → Prop} (e : h[j]? = some (.lst xs)) (q : Q (.tup xs) h) : OkP (bltF .tuple [.ref j] h) Q := by
  refine okP_of ?_ q
  show (lstOf h (.ref j)).map _ = _
  simp only [lstOf, e]; rfl
theorem okO_srcL {h : PHeap} {j : Nat} {xs : List PV} {Q : Src → Prop} (e : h[j]? = some (.lst xs)) (q : Q (.lst j)) : OkO (srcOf h (.ref j)) Q := by
  refine okO_of ?_ q
  simp only [srcOf, e]
theorem labs_len (es : List E) : (labs es).length ≤ es.length := List.length_filterMap_le _ _
theorem ok_labels {e : E} {N : Nat} {h : PHeap} (x : Ex9 e) (hN : 10 ≤ N) : Ok (cl N 19 [pv e] h) fun d h' => d = .tup ((sortS (dedS (labs (post e)))).map PV.str) ∧ Fr [] h h' := by
  obtain ⟨n, rfl⟩ := lvl (a := 1) (b := N) (by omega)
  have hd := x.dp
  have hz := x.sz
  refine (f_call t_labels rfl).mpr ?_
  (unfold f_labels_in; dsimp only [List.map, List.append, HAppend.hAppend, Append.append, List.replicate, Nat.reduceSub])
  walk_at "zz"
  refine (ok_req (N := n) x (by omega)).mono fun d h1 ⟨e1, f1⟩ => ?_
  walk_at "zz"
  refine (ok_partsN (N := n) (by omega) (by omega)).mono fun d h2 ⟨k, e2, l2, g2, f2⟩ => ?_
  subst e2
  walk_at "zz"
  refine okO_srcL g2 ?_
  have hpl := post_len e
  have sl : srcLen h2 (.lst k) = ((post e).map pv).length := by simp only [srcLen, g2]
  rw [sl]
  refine (ok_lc (ds := (post e).map pv) (fun i acc h' => h' = h2 ∧ acc = (labs ((post e).take i)).map PV.str) (by rw [List.length_map]; omega) ?_ ?_ _ 0 [] h2 rfl (Nat.zero_le _) (Nat.le_refl _) ⟨rfl, rfl⟩).mono fun acc h3 ⟨e3, ea⟩ => ?_
  · intro i acc h' ⟨e1, _⟩
    subst e1
    simp only [srcAt, g2]
  · intro i d acc h' hd' ⟨e1, ea⟩
    subst e1
    subst ea
    rw [List.getElem?_map] at hd'
    cases hp : (post e)[i]? with
    | none => rw [hp] at hd'; cases hd'
    | some p =>
      rw [hp] at hd'
      cases hd'
      have tk : (post e).take (i + 1) = (post e).take i ++ [p] := by rw [List.take_succ, hp]; rfl
      have lt : labs ((post e).take (i + 1)) = labs ((post e).take i) ++ labs [p] := by rw [tk]; unfold labs; rw [List.filterMap_append]
      rw [lt]
      cases p with
      | label s =>
        walk_at "zz"
        refine ⟨fun z => absurd z (by decide +kernel), fun _ => ?_⟩
        walk_at "zz"
        exact ⟨rfl, by simp [labs, lab1]⟩
      | root => walk_at "zz"; exact ⟨fun _ => ⟨rfl, by simp [labs, lab1]⟩, fun z => absurd z (by decide +kernel)⟩
      | level r m => walk_at "zz"; exact ⟨fun _ => ⟨rfl, by simp [labs, lab1]⟩, fun z => absurd z (by decide +kernel)⟩
      | parent a => walk_at "zz"; exact ⟨fun _ => ⟨rfl, by simp [labs, lab1]⟩, fun z => absurd z (by decide +kernel)⟩
      | above a => walk_at "zz"; exact ⟨fun _ => ⟨rfl, by simp [labs, lab1]⟩, fun z => absurd z (by decide +kernel)⟩
      | neg a => walk_at "zz"; exact ⟨fun _ => ⟨rfl, by simp [labs, lab1]⟩, fun z => absurd z (by decide +kernel)⟩
      | conj a b => walk_at "zz"; exact ⟨fun _ => ⟨rfl, by simp [labs, lab1]⟩, fun z => absurd z (by decide +kernel)⟩
      | disj a b => walk_at "zz"; exact ⟨fun _ => ⟨rfl, by simp [labs, lab1]⟩, fun z => absurd z (by decide +kernel)⟩
  subst e3
  rw [List.length_map, List.take_length] at ea
  subst ea
  have ll := labs_len (post e)
  walk_at "zz"
  refine okP_set get_new (by omega) ?_
  walk_at "zz"
  refine okP_sortS get_new ?_
  walk_at "zz"
  refine okP_tuple get_new ?_
  exact ⟨rfl, (((f1.trans f2).trans (.app _)).trans (.app _)).trans (.app _)⟩
end Law
end Zed
end
section
set_option Elab.async false
set_option linter.all false
set_option maxRecDepth 100000
set_option maxHeartbeats 1000000
set_option exponentiation.threshold 10000
namespace Zed
namespace Law
open PySem L2
theorem t_lparts : TB 17 = some f_law_parts := rfl
def pre : E → List E
  | .parent e => .parent e :: pre e
  | .above e => .above e :: pre e
  | .neg e => .neg e :: pre e
  | .conj a b => .conj a b :: (pre a ++ pre b)
  | .disj a b => .disj a b :: (pre a ++ pre b)
  | e => [e]
theorem pre_len : ∀ e, (pre e).length = sz e
  | .parent e => by simp [pre, sz, pre_len e]
  | .above e => by simp [pre, sz, pre_len e]
  | .neg e => by simp [pre, sz, pre_len e]
  | .conj a b => by simp [pre, sz, pre_len a, pre_len b]
  | .disj a b => by simp [pre, sz, pre_len a, pre_len b]
  | .label _ => rfl
  | .root => rfl
  | .level _ _ => rfl
def SpL (e : E) : Prop := ∀ ⦃n : Nat⦄ ⦃h : PHeap⦄, sz e ≤ 100 → Ok (cl (n + dp e + 2) 17 [pv e] h) fun d h' => ∃ k, d = .ref k ∧ h.length ≤ k ∧ h'[k]? = some (.lst ((pre e).map pv)) ∧ Fr [] h h'
theorem ok_lparts_leaf {e : E} (hl : isLeaf e = true) : SpL e := by
  intro n h _
  refine (f_call t_lparts rfl).mpr ?_
  (unfold f_law_parts; dsimp only [List.map, List.append, HAppend.hAppend, Append.append, List.replicate, Nat.reduceSub])
  cases e with
  | label s =>
    walk_at "zz"
    refine for_step (n := 1) (show srcAt _ _ _ = some (some (PV.str s)) from rfl) ?_
    walk_at "zz"
    refine for_end (n := 0) (show srcAt _ _ _ = some none from rfl) ?_
    walk_at "zz"
    exact ⟨_, rfl, Nat.le_refl _, get_new, .app _⟩
  | root =>
    walk_at "zz"
    refine for_end (n := 0) (show srcAt _ _ _ = some none from rfl) ?_
    walk_at "zz"
    exact ⟨_, rfl, Nat.le_refl _, get_new, .app _⟩
  | level r m =>
    walk_at "zz"
    refine for_step (n := 2) (show srcAt _ _ _ = some (some (PV.int r)) from rfl) ?_
    walk_at "zz"
    refine for_step (n := 1) (show srcAt _ _ _ = some (some (PV.int m)) from rfl) ?_
    walk_at "zz"
    refine for_end (n := 0) (show srcAt _ _ _ = some none from rfl) ?_
    walk_at "zz"
    exact ⟨_, rfl, Nat.le_refl _, get_new, .app _⟩
  | _ => cases hl
theorem okP_isT {h : PHeap} {Q : PV → PHeap → Prop} (c : E) (q : Q (.bl true) h) : OkP (bltF .isinstance [pv c, .ty "tuple"] h) Q := by
  cases c <;> exact okP_of rfl q
theorem ok_lparts_un {x c : E} {w : Str} (k1 : pv x = .tup [.str w, pv c]) (k2 : pre x = x :: pre c) (k3 : dp x = dp c + 1) (k4 : sz x = sz c + 1) (ih : SpL c) : SpL x := by
  intro n h hz
  refine (f_call t_lparts rfl).mpr ?_
  (unfold f_law_parts; dsimp only [List.map, List.append, HAppend.hAppend, Append.append, List.replicate, Nat.reduceSub])
  walk_at "zz"
  rw [k1]
  walk_at "zz"
  refine for_step (n := 1) (show srcAt _ _ _ = some (some (pv c)) from rfl) ?_
  walk_at "zz"
  refine okP_isT c ?_
  walk_at "zz"
  refine ⟨rcv_lst get_new, ?_⟩
  walk_at "zz"
  have e1 : n + dp x + 1 = n + dp c + 2 := by omega
  have ih1 := ih (n := n) (h := h ++ [.lst [.tup [.str w, pv c]]]) (by omega)
  rw [← e1] at ih1
  refine ih1.mono fun d h2 ⟨k, dk, lk, ek, f2⟩ => ?_
  subst dk
  walk_at "zz"
  have e0 : h2[h.length]? = some (.lst [.tup [.str w, pv c]]) := f2.get0 get_new
  rw [List.length_append] at lk
  have lk : h.length + 1 ≤ k := lk
  have hl := pre_len c
  refine okP_ext e0 ek (by omega) (by rw [List.length_map, hl]; simp; omega) ?_
  walk_at "zz"
  refine for_end (n := 0) (show srcAt _ _ _ = some none from rfl) ?_
  walk_at "zz"
  have f3 : Fr [] h h2 := (Fr.app _).trans f2
  refine ⟨_, rfl, Nat.le_refl _, ?_, ?_⟩
  · rw [get_self e0, k2, List.map_cons, k1]; rfl
  · exact ((f3.mono (S' := [h.length]) (by simp)).trans (.set List.mem_cons_self)).drop fun z hz => .inl (by rw [List.mem_singleton.mp hz]; exact Nat.le_refl _)
theorem ok_lparts_bi {x a b : E} {w : Str} (k1 : pv x = .tup [.str w, pv a, pv b]) (k2 : pre x = x :: (pre a ++ pre b)) (k3 : dp x = max (dp a) (dp b) + 1) (k4 : sz x = sz a + sz b + 1) (iha : SpL a) (ihb : SpL b) : SpL x := by
  intro n h hz
  refine (f_call t_lparts rfl).mpr ?_
  (unfold f_law_parts; dsimp only [List.map, List.append, HAppend.hAppend, Append.append, List.replicate, Nat.reduceSub])
  walk_at "zz"
  rw [k1]
  walk_at "zz"
  refine for_step (n := 2) (show srcAt _ _ _ = some (some (pv a)) from rfl) ?_
  walk_at "zz"
  refine okP_isT a ?_
  walk_at "zz"
  refine ⟨rcv_lst get_new, ?_⟩
  walk_at "zz"
  have e1 : n + dp x + 1 = n + (max (dp a) (dp b) - dp a) + dp a + 2 := by omega
  have ih1 := iha (n := n + (max (dp a) (dp b) - dp a)) (h := h ++ [.lst [.tup [.str w, pv a, pv b]]]) (by omega)
  rw [← e1] at ih1
  refine ih1.mono fun d h2 ⟨k, dk, lk, ek, f2⟩ => ?_
  subst dk
  walk_at "zz"
  have e0 : h2[h.length]? = some (.lst [.tup [.str w, pv a, pv b]]) := f2.get0 get_new
  rw [List.length_append] at lk
  have lk : h.length + 1 ≤ k := lk
  have hl := pre_len a
  refine okP_ext e0 ek (by omega) (by rw [List.length_map, hl]; simp; omega) ?_
  have e3 := get_self (o' := .lst ([.tup [.str w, pv a, pv b]] ++ (pre a).map pv)) e0
  have f3 : Fr [] h h2 := (Fr.app _).trans f2
  walk_at "zz"
  refine for_step (n := 1) (show srcAt _ _ _ = some (some (pv b)) from rfl) ?_
  walk_at "zz"
  refine okP_isT b ?_
  walk_at "zz"
  refine ⟨rcv_lst e3, ?_⟩
  walk_at "zz"
  have e1 : n + dp x + 1 = n + (max (dp a) (dp b) - dp b) + dp b + 2 := by omega
  have ih2 := ihb (n := n + (max (dp a) (dp b) - dp b)) (h := h2.set h.length (.lst ([.tup [.str w, pv a, pv b]] ++ (pre a).map pv))) (by omega)
  rw [← e1] at ih2
  refine ih2.mono fun d h4 ⟨k', dk, lk', ek', f4⟩ => ?_
  subst dk
  walk_at "zz"
  have e4 := f4.get0 e3
  rw [List.length_set] at lk'
  have l2 := lt_of_get e0
  have hlb := pre_len b
  refine okP_ext e4 ek' (by omega) (by rw [List.length_append, List.length_map, List.length_map, hl, hlb]; simp; omega) ?_
  walk_at "zz"
  refine for_end (n := 0) (show srcAt _ _ _ = some none from rfl) ?_
  walk_at "zz"
  have f5 : Fr [h.length] h h4 := ((f3.mono (by simp)).trans (.set List.mem_cons_self)).trans (f4.mono (by simp))
  refine ⟨_, rfl, Nat.le_refl _, ?_, ?_⟩
  · rw [get_self e4, k2, List.map_cons, List.map_append, k1]; simp
  · exact (f5.trans (.set List.mem_cons_self)).drop fun z hz => .inl (by rw [List.mem_singleton.mp hz]; exact Nat.le_refl _)
theorem ok_lparts : ∀ e, SpL e
  | .label _ => ok_lparts_leaf rfl
  | .root => ok_lparts_leaf rfl
  | .level _ _ => ok_lparts_leaf rfl
  | .parent e => ok_lparts_un rfl rfl rfl rfl (ok_lparts e)
  | .above e => ok_lparts_un rfl rfl rfl rfl (ok_lparts e)
  | .neg e => ok_lparts_un rfl rfl rfl rfl (ok_lparts e)
  | .conj a b => ok_lparts_bi rfl rfl rfl rfl (ok_lparts a) (ok_lparts b)
  | .disj a b => ok_lparts_bi rfl rfl rfl rfl (ok_lparts a) (ok_lparts b)
end Law
end Zed
end
section
set_option Elab.async false
set_option linter.all false
set_option maxRecDepth 100000
set_option maxHeartbeats 1000000
set_option exponentiation.threshold 10000
namespace Zed
namespace Law
open PySem L2
theorem t_dice : TB 22 = some f_law_dice := rfl
theorem t_level : TB 9 = some f_level_of := rfl
theorem ok_level {n : Nat} {h : PHeap} {d : Int} : Ok (cl (n + 1) 9 [.int d] h) fun v h' => v = .int ((d - 1) % 12 + 1) ∧ h' = h := by
  refine (f_call t_level rfl).mpr ?_
  (unfold f_level_of; dsimp only [List.map, List.append, HAppend.hAppend, Append.append, List.replicate, Nat.reduceSub])
  walk_at "zz"
  exact ⟨rfl, rfl⟩
theorem okP_lenF {h : PHeap} {ds : List PV} {Q : PV → PHeap → Prop} (q : Q (.int ds.length) h) : OkP (bltF .len [.fl ds] h) Q := okP_of rfl q
theorem ok_dice {n : Nat} {h : PHeap} {ns : List Int} {a : Int} (a0 : 0 ≤ a) (a1 : a < 100) : Ok (cl (n + 1) 22 [.fl (ns.map PV.int), .int a] h) fun v h' => v = .ref h.length ∧ Fr [] h h' ∧ Dice h' h.length 0 := by
  have key : ∀ (c : Int), OkS (exSs ⟨cl n, CT⟩ (.cons (.asg (.nm 3) (.bin .mod (.blt .int (.cons (.blt .abs (.cons (.loc 2) .nil)) .nil)) (.bin .pow (.bin .pow (.con (.int 10)) (.con (.int 60))) (.con (.int 10)))))
  (.cons (.asg (.nm 4) (.bin .fdiv (.loc 3) (.bin .pow (.con (.int 10)) (.con (.int 18)))))
  (.cons (.asg (.nm 5) (.bin .add (.bin .add (.bin .add (.bin .mul (.bin .mod (.loc 3) (.con (.int 2147483409))) (.con (.int 50053))) (.bin .mul (.con (.int 2801)) (.loc 1))) (.bin .mul (.con (.int 41)) (.blt .int (.cons (.cmp .lt (.loc 2) (.con (.int 0))) .nil)))) (.con (.int 67))))
  (.cons (.ret (.lst (.cons (.loc 4) (.cons (.bin .mod (.loc 5) (.con (.int 2147483399))) (.cons (.con (.int 0)) .nil)))))
  .nil)))) [some (.fl (ns.map PV.int)), some (.int a), some (.int c), none, none, none] h) (fun _ h1 => (PV.non : PV) = .ref h.length ∧ Fr [] h h1 ∧ Dice h1 h.length 0) fun v h' => v = .ref h.length ∧ Fr [] h h' ∧ Dice h' h.length 0 := by
    intro c
    walk_at "zz"
    have g0 : 0 ≤ (if c < 0 then -c else c) % (10 ^ Int.toNat 60) ^ Int.toNat 10 := Int.emod_nonneg _ (Int.ne_of_gt (Int.pow_pos (Int.pow_pos (by decide))))
    generalize (if c < 0 then -c else c) % (10 ^ Int.toNat 60) ^ Int.toNat 10 = G at g0 ⊢
    refine okP_mul (by omega) (by omega) ?_
    walk_at "zz"
    refine okP_mul (by omega) (by omega) ?_
    walk_at "zz"
    have b0 : ∀ k : Bool, -2 ^ 200 < (if k = true then (1 : Int) else 0) ∧ (if k = true then (1 : Int) else 0) < 2 ^ 200 := fun k => by cases k <;> decide
    refine okP_mul (by omega) (b0 _) ?_
    walk_at "zz"
    exact ⟨rfl, .app _, _, _, _, get_new, Int.ediv_nonneg g0 (Int.le_of_lt (Int.pow_pos (by decide))), by decide, by decide⟩
  refine (f_call t_dice rfl).mpr ?_
  (unfold f_law_dice; dsimp only [List.map, List.append, HAppend.hAppend, Append.append, List.replicate, Nat.reduceSub])
  walk_at "zz"
  refine okP_mul (by omega) (by omega) ?_
  walk_at "zz"
  refine ⟨fun k => ?_, fun k => ?_⟩
  · have k := of_decide_eq_true k
    walk_at "zz"
    obtain ⟨d, d1, d2, d3⟩ := atI_mem a0 k
    refine okO_of (show getF (.fl (ns.map PV.int)) (.int a) h = some d from d1) ?_
    obtain ⟨c, _, rfl⟩ := List.mem_map.mp d2
    walk_at "z1"
    refine s_nil.mpr ?_
    exact key c
  · refine s_nil.mpr ?_
    exact key _
end Law
end Zed
end
section
set_option Elab.async false
set_option linter.all false
set_option maxRecDepth 100000
set_option maxHeartbeats 1000000
set_option exponentiation.threshold 10000
namespace Zed
namespace Law
open PySem L2
theorem t_is_row : TB 2 = some f_is_row := rfl
theorem t_is_way : TB 11 = some f_is_way := rfl
theorem bools_rep : ∀ n, bools (List.replicate n (.bl true)) = some (List.replicate n true)
  | 0 => rfl
  | n + 1 => by
    show (bools (List.replicate n (.bl true))).map (true :: ·) = _
    rw [bools_rep n]; rfl
/-- a way: some labels, not too many -/
structure Way (w : List Str) : Prop where
  lab : ∀ s ∈ w, s ∈ lab4
  ne : w ≠ []
  few : w.length ≤ 100
theorem ok_is_row {n : Nat} {h : PHeap} {w : List Str} (hw : Way w) : Ok (cl (n + 2) 2 [.tup (w.map PV.str)] h) fun d h' => d = .bl true ∧ Fr [] h h' := by
  refine (f_call t_is_row rfl).mpr ?_
  (unfold f_is_row; dsimp only [List.map, List.append, HAppend.hAppend, Append.append, List.replicate, Nat.reduceSub])
  walk_at "zz"
  have few := hw.few
  refine (ok_lc (ds := w.map PV.str) (fun i acc h' => Fr [] h h' ∧ acc = List.replicate i (.bl true)) (by rw [List.length_map]; omega) ?_ ?_ _ 0 [] h rfl (Nat.zero_le _) (Nat.le_refl _) ⟨.refl, rfl⟩).mono fun acc h3 ⟨f3, ea⟩ => ?_
  · intro i acc h' _
    rfl
  · intro i d acc h' hd ⟨f1, ea⟩
    subst ea
    obtain ⟨s, hs, rfl⟩ := List.mem_map.mp (List.mem_of_getElem? hd)
    walk_at "zz"
    refine ⟨fun z => (nomatch z), fun _ => ?_⟩
    walk_at "zz"
    refine (ok_is_name (hw.lab s hs)).mono fun d h2 ⟨e2, f2⟩ => ?_
    subst e2
    exact ⟨f1.trans f2, by rw [List.replicate_succ']⟩
  subst ea
  walk_at "zz"
  refine okP_all get_new (bools_rep _) ⟨?_, f3.trans (.app _)⟩
  congr 1
  rw [List.all_replicate]
  simp
theorem mapO_strs {h : PHeap} {n : Nat} : ∀ w : List Str, mapO (toD h n) (w.map PV.str) = some (w.map PyData.str)
  | [] => rfl
  | x :: r => by
    simp only [List.map, mapO, toD_str, mapO_strs r]
theorem toD_way {h : PHeap} {n : Nat} (w : List Str) : toD h (n + 1) (.tup (w.map PV.str)) = some (.tuple (w.map PyData.str)) := by
  show (mapO (toD h n) (w.map PV.str)).map _ = _
  rw [mapO_strs]; rfl
theorem lay_strs : ∀ w : List Str, (∀ s ∈ w, PyData.strOk s = true) → PyData.canLayAll0 (w.map PyData.str) = true
  | [], _ => by simp only [List.map, PyData.canLayAll0]
  | x :: r, h => by
    simp only [List.map, PyData.canLayAll0, PyData.canLay0]
    rw [h x List.mem_cons_self, lay_strs r fun s hs => h s (List.mem_cons_of_mem _ hs)]; rfl
theorem depth_strs : ∀ w : List Str, PyData.depthAll (w.map PyData.str) = 0
  | [] => by simp only [List.map, PyData.depthAll]
  | x :: r => by
    simp only [List.map, PyData.depthAll, PyData.depth]
    rw [depth_strs r]; rfl
theorem lab_ok {s : Str} (h : s ∈ lab4) : PyData.strOk s = true := by
  have := lay_lab h
  simpa only [PyData.canLay0] using this
theorem shaped_way {w : List Str} (hw : ∀ s ∈ w, s ∈ lab4) : SeqAt.shaped (.tuple (w.map PyData.str)) = true := by
  unfold SeqAt.shaped
  have h1 : (PyData.tuple (w.map PyData.str)).canLay0 = true := by
    simp only [PyData.canLay0]
    exact lay_strs w fun s hs => lab_ok (hw s hs)
  have h2 : (PyData.tuple (w.map PyData.str)).depth = 1 := by
    simp only [PyData.depth, depth_strs]
  rw [h1, Bool.true_and]
  exact decide_eq_true (by rw [h2]; decide)
theorem ok_is_way {n : Nat} {h : PHeap} {w : List Str} (hw : Way w) : Ok (cl (n + 3) 11 [.tup (w.map PV.str)] h) fun d h' => d = .bl true ∧ Fr [] h h' := by
  refine (f_call t_is_way rfl).mpr ?_
  (unfold f_is_way; dsimp only [List.map, List.append, HAppend.hAppend, Append.append, List.replicate, Nat.reduceSub])
  walk_at "zz"
  refine (ok_is_row hw).mono fun d h1 ⟨e1, f1⟩ => ?_
  subst e1
  walk_at "zz"
  have e : eqF h1 (.tup (w.map PV.str)) (.tup []) = some (PyData.eqv (.tuple (w.map PyData.str)) (.tuple [])) := by
    unfold eqF
    rw [toD_way, show toD h1 70 (.tup []) = some (.tuple []) from rfl]
    exact if_pos ⟨shaped_way hw.lab, sh0⟩
  refine okO_of (show (eqF h1 (.tup (w.map PV.str)) (.tup [])).map (!·) = some (!PyData.eqv (.tuple (w.map PyData.str)) (.tuple [])) by rw [e]; rfl) ?_
  refine ⟨?_, f1⟩
  cases w with
  | nil => exact absurd rfl hw.ne
  | cons x r => congr 1
end Law
end Zed
end
section
set_option Elab.async false
set_option linter.all false
set_option maxRecDepth 100000
set_option maxHeartbeats 1000000
set_option exponentiation.threshold 10000
namespace Zed
namespace Law
open PySem L2
theorem t_lholds : TB 16 = some f_law_holds := rfl
/-- what [5.1] tells: whether an expression holds at the end of a way -/
def sem : E → List Str → Bool
  | .label s, w => w.getLast? == some s
  | .root, w => w.length == 1
  | .level r m, w => (w.length : Int) % m == r
  | .parent e, w => decide (1 < w.length) && sem e w.dropLast
  | .above e, w => (List.range (w.length - 1)).any fun k => sem e (w.take (k + 1))
  | .neg e, w => !sem e w
  | .conj a b, w => sem a w && sem b w
  | .disj a b, w => sem a w || sem b w
theorem x_negc {C : Orc} {l : Loc} {h : PHeap} {i : Int} {Q : PV → PHeap → Prop} (q : Q (.int (-i)) h) : Ok (evE C (.neg (.con (.int i))) l h) Q := q
def SpH (e : E) : Prop := ∀ ⦃n : Nat⦄ ⦃h : PHeap⦄ ⦃w : List Str⦄, okE e → Way w → Ok (cl (n + dp e + 1) 16 [pv e, .tup (w.map PV.str)] h) fun d h' => d = .bl (sem e w) ∧ Fr [] h h'
theorem ok_lholds_root : SpH .root := by
  intro n h w o hw
  refine (f_call t_lholds rfl).mpr ?_
  (unfold f_law_holds; dsimp only [List.map, List.append, HAppend.hAppend, Append.append, List.replicate, Nat.reduceSub])
  walk_at "zz"
  refine ⟨?_, .refl⟩
  congr 1
  show PyData.eqv (.int ((w.map PV.str).length : Nat)) (.int 1) = (w.length == 1)
  rw [List.length_map]
  show (((w.length : Nat) : Int) == 1) = (w.length == 1)
  rw [Bool.eq_iff_iff, beq_iff_eq, beq_iff_eq]; omega
theorem ok_lholds_level {r m : Int} : SpH (.level r m) := by
  intro n h w o hw
  obtain ⟨p1, p2, p3, p4⟩ := o
  refine (f_call t_lholds rfl).mpr ?_
  (unfold f_law_holds; dsimp only [List.map, List.append, HAppend.hAppend, Append.append, List.replicate, Nat.reduceSub])
  walk_at "zz"
  refine okP_mod (by omega) ?_
  walk_at "zz"
  refine ⟨?_, .refl⟩
  congr 1
  show (((w.map PV.str).length : Int) % m == r) = ((w.length : Int) % m == r)
  rw [List.length_map]
theorem atI_last {w : List Str} (hw : w ≠ []) : ∃ s, w.getLast? = some s ∧ atI (w.map PV.str) (-1) = some (.str s) := by
  obtain ⟨s, hs⟩ : ∃ s, w.getLast? = some s := by
    cases z : w.getLast? with
    | none => exact absurd (List.getLast?_eq_none_iff.mp z) hw
    | some s => exact ⟨s, rfl⟩
  have hl : 0 < w.length := List.length_pos_iff.mpr hw
  refine ⟨s, hs, ?_⟩
  unfold atI ixN
  rw [if_neg (by decide), if_pos (by rw [List.length_map]; omega)]
  show (w.map PV.str)[((-1 : Int) + ((w.map PV.str).length : Nat)).toNat]? = _
  rw [List.length_map, show ((-1 : Int) + (w.length : Nat)).toNat = w.length - 1 by omega, List.getElem?_map, ← List.getLast?_eq_getElem?, hs]; rfl
theorem ok_lholds_label {s : Str} : SpH (.label s) := by
  intro n h w o hw
  refine (f_call t_lholds rfl).mpr ?_
  (unfold f_law_holds; dsimp only [List.map, List.append, HAppend.hAppend, Append.append, List.replicate, Nat.reduceSub])
  walk_at "zz"
  refine x_negc ?_
  obtain ⟨t, ht, ha⟩ := atI_last hw.ne
  refine okO_of (show getF (.tup (w.map PV.str)) (.int (-1)) h = some (.str t) from ha) ?_
  have tm : t ∈ lab4 := hw.lab t (List.mem_of_getLast? ht)
  walk_at "zz"
  refine okO_eqs (lab_ok tm) (lab_ok o) ?_
  refine ⟨?_, .refl⟩
  congr 1
  show (t == s) = (w.getLast? == some s)
  rw [ht, Bool.eq_iff_iff, beq_iff_eq, beq_iff_eq, Option.some_inj]
theorem SpH.at {e : E} (p : SpH e) {N : Nat} {h : PHeap} {w : List Str} (o : okE e) (hw : Way w) (hN : dp e + 1 ≤ N) : Ok (cl N 16 [pv e, .tup (w.map PV.str)] h) fun d h' => d = .bl (sem e w) ∧ Fr [] h h' := by
  obtain ⟨n, rfl⟩ := lvl hN
  rw [← Nat.add_assoc]
  exact p o hw
theorem ok_lholds_neg {e : E} (p : SpH e) : SpH (.neg e) := by
  intro n h w o hw
  refine (f_call t_lholds rfl).mpr ?_
  (unfold f_law_holds; dsimp only [List.map, List.append, HAppend.hAppend, Append.append, List.replicate, Nat.reduceSub])
  walk_at "zz"
  refine (p.at (N := n + dp (.neg e)) o hw (by show dp e + 1 ≤ n + (dp e + 1); omega)).mono fun d h1 ⟨e1, f1⟩ => ?_
  subst e1
  walk_at "zz"
  exact ⟨rfl, f1⟩
theorem ok_lholds_conj {a b : E} (p : SpH a) (q : SpH b) : SpH (.conj a b) := by
  intro n h w o hw
  refine (f_call t_lholds rfl).mpr ?_
  (unfold f_law_holds; dsimp only [List.map, List.append, HAppend.hAppend, Append.append, List.replicate, Nat.reduceSub])
  walk_at "zz"
  refine (p.at (N := n + dp (.conj a b)) o.1 hw (by show _ ≤ n + (max (dp a) (dp b) + 1); omega)).mono fun d h1 ⟨e1, f1⟩ => ?_
  subst e1
  walk_at "zz"
  refine ⟨fun k => ?_, fun k => ⟨?_, f1⟩⟩
  · walk_at "zz"
    refine (q.at (N := n + dp (.conj a b)) o.2 hw (by show _ ≤ n + (max (dp a) (dp b) + 1); omega)).mono fun d h2 ⟨e2, f2⟩ => ⟨?_, f1.trans f2⟩
    rw [e2]; show _ = PV.bl (sem a w && sem b w); rw [k]; rfl
  · show _ = PV.bl (sem a w && sem b w); rw [k]; rfl
theorem ok_lholds_disj {a b : E} (p : SpH a) (q : SpH b) : SpH (.disj a b) := by
  intro n h w o hw
  refine (f_call t_lholds rfl).mpr ?_
  (unfold f_law_holds; dsimp only [List.map, List.append, HAppend.hAppend, Append.append, List.replicate, Nat.reduceSub])
  walk_at "zz"
  refine (p.at (N := n + dp (.disj a b)) o.1 hw (by show _ ≤ n + (max (dp a) (dp b) + 1); omega)).mono fun d h1 ⟨e1, f1⟩ => ?_
  subst e1
  walk_at "zz"
  refine ⟨fun k => ⟨?_, f1⟩, fun k => ?_⟩
  · show _ = PV.bl (sem a w || sem b w); rw [k]; rfl
  · walk_at "zz"
    refine (q.at (N := n + dp (.disj a b)) o.2 hw (by show _ ≤ n + (max (dp a) (dp b) + 1); omega)).mono fun d h2 ⟨e2, f2⟩ => ⟨?_, f1.trans f2⟩
    rw [e2]; show _ = PV.bl (sem a w || sem b w); rw [k]; rfl
end Law
end Zed
end
section
set_option Elab.async false
set_option linter.all false
set_option maxRecDepth 100000
set_option maxHeartbeats 1000000
set_option exponentiation.threshold 10000
namespace Zed
namespace Law
open PySem L2
/-- a beginning of a way that is not all of it -/
theorem okP_slcW {h : PHeap} {w : List Str} {b : Int} {k : Nat} {Q : PV → PHeap → Prop} (hb : HT.sIx w.length w.length (some b) = k) (hk : k < w.length) (q : Q (.tup ((w.take k).map PV.str)) h) : OkP (slcF (.tup (w.map PV.str)) none (some b) h) Q := by
  refine okP_of ?_ q
  show (if HT.sIx (w.map PV.str).length 0 none = 0 ∧ HT.sIx (w.map PV.str).length (w.map PV.str).length (some b) = (w.map PV.str).length then none else some (PV.tup (cutP (w.map PV.str) none (some b)), h)) = _
  rw [List.length_map, hb, if_neg (by omega)]
  unfold cutP
  rw [List.length_map, hb, HT.sIx_none, Nat.sub_zero, List.drop_zero, List.map_take]
theorem sIx_m1 {n d : Nat} (h : 0 < n) : HT.sIx n d (some (-1)) = n - 1 := by
  show (if (-1 : Int) < 0 then ((-1 : Int) + (n : Int)).toNat else min (-1 : Int).toNat n) = _
  rw [if_pos (by decide)]; omega
theorem Way.take {w : List Str} (hw : Way w) {k : Nat} (h0 : 0 < k) : Way (w.take k) := by
  refine ⟨fun s hs => hw.lab s (List.mem_of_mem_take hs), ?_, ?_⟩
  · intro z
    have := congrArg List.length z
    rw [List.length_take] at this
    have h1 : 0 < w.length := List.length_pos_iff.mpr hw.ne
    rw [List.length_nil] at this; omega
  · rw [List.length_take]; have := hw.few; omega
theorem ok_lholds_parent {e : E} (p : SpH e) : SpH (.parent e) := by
  intro n h w o hw
  refine (f_call t_lholds rfl).mpr ?_
  (unfold f_law_holds; dsimp only [List.map, List.append, HAppend.hAppend, Append.append, List.replicate, Nat.reduceSub])
  walk_at "zz"
  have hl : 0 < w.length := List.length_pos_iff.mpr hw.ne
  refine ⟨fun k => ?_, fun k => ⟨?_, .refl⟩⟩
  · have k : 1 < (w.map PV.str).length := by have := of_decide_eq_true k; omega
    rw [List.length_map] at k
    walk_at "zz"
    refine x_negc ?_
    refine okP_slcW (sIx_m1 hl) (by omega) ?_
    walk_at "zz"
    refine (p.at (N := n + dp (.parent e)) o (hw.take (by omega)) (by show dp e + 1 ≤ n + (dp e + 1); omega)).mono fun d h1 ⟨e1, f1⟩ => ⟨?_, f1⟩
    rw [e1]
    show _ = PV.bl (decide (1 < w.length) && sem e w.dropLast)
    rw [decide_eq_true k, List.dropLast_eq_take]; rfl
  · rw [k]
    have k : ¬ 1 < (w.map PV.str).length := by have := of_decide_eq_false k; omega
    rw [List.length_map] at k
    show _ = PV.bl (decide (1 < w.length) && sem e w.dropLast)
    rw [decide_eq_false k]; rfl
/-- numbers as data -/
theorem mapO_ints {h : PHeap} {n : Nat} : ∀ w : List Int, mapO (toD h n) (w.map PV.int) = some (w.map PyData.int)
  | [] => rfl
  | x :: r => by
    simp only [List.map, mapO, toD_int, mapO_ints r]
theorem lay_ints : ∀ w : List Int, PyData.canLayAll0 (w.map PyData.int) = true
  | [] => by simp only [List.map, PyData.canLayAll0]
  | x :: r => by
    simp only [List.map, PyData.canLayAll0, PyData.canLay0]
    rw [lay_ints r]; rfl
theorem depth_ints : ∀ w : List Int, PyData.depthAll (w.map PyData.int) = 0
  | [] => by simp only [List.map, PyData.depthAll]
  | x :: r => by
    simp only [List.map, PyData.depthAll, PyData.depth]
    rw [depth_ints r]; rfl
theorem shaped_ints (w : List Int) : SeqAt.shaped (.list (w.map PyData.int)) = true := by
  unfold SeqAt.shaped
  have h1 : (PyData.list (w.map PyData.int)).canLay0 = true := by
    simp only [PyData.canLay0]
    exact lay_ints w
  have h2 : (PyData.list (w.map PyData.int)).depth = 1 := by
    simp only [PyData.depth, depth_ints]
  rw [h1, Bool.true_and]
  exact decide_eq_true (by rw [h2]; decide)
theorem ne_nil_list {h : PHeap} {i j : Nat} {w : List Int} (e1 : h[i]? = some (.lst (w.map PV.int))) (e2 : h[j]? = some (.lst [])) : cmpB .ne h (.ref i) (.ref j) = some (!w.isEmpty) := by
  show (eqF h (.ref i) (.ref j)).map (!·) = _
  have t1 : toD h 70 (.ref i) = some (.list (w.map PyData.int)) := by
    show (match h[i]? with | some (.lst ds) => (mapO (toD h 69) ds).map PyData.list | _ => none) = _
    rw [e1]
    show (mapO (toD h 69) (w.map PV.int)).map PyData.list = _
    rw [mapO_ints]; rfl
  have t2 : toD h 70 (.ref j) = some (.list []) := by
    show (match h[j]? with | some (.lst ds) => (mapO (toD h 69) ds).map PyData.list | _ => none) = _
    rw [e2]; rfl
  unfold eqF
  rw [t1, t2]
  dsimp only
  rw [if_pos ⟨shaped_ints w, shaped_ints []⟩]
  cases w <;> rfl
theorem ok_lholds_above {e : E} (p : SpH e) : SpH (.above e) := by
  intro n h w o hw
  refine (f_call t_lholds rfl).mpr ?_
  (unfold f_law_holds; dsimp only [List.map, List.append, HAppend.hAppend, Append.append, List.replicate, Nat.reduceSub])
  walk_at "zy"
  refine ⟨_, rfl, by decide, by decide, ?_⟩
  walk_at "zz"
  have hl : 0 < w.length := List.length_pos_iff.mpr hw.ne
  have hf := hw.few
  refine ⟨_, rfl, by omega, by rw [List.length_map]; omega, ?_⟩
  rw [List.length_map, show ((w.length : Nat) : Int) - 1 = ((w.length - 1 : Nat) : Int) by omega, Int.toNat_natCast]
  refine (ok_lc (ds := (List.range (w.length - 1)).map fun (i : Nat) => PV.int (1 + i)) (fun i acc h' => Fr [] h h' ∧ ∃ xs : List Int, acc = xs.map PV.int ∧ (xs ≠ [] ↔ ∃ k, k < i ∧ sem e (w.take (k + 1)) = true)) (by simp; omega) ?_ ?_ _ 0 [] h (by simp [srcLen]) (Nat.zero_le _) (Nat.le_refl _) ⟨.refl, [], rfl, by simp⟩).mono fun acc h3 ⟨f3, xs, ea, hx⟩ => ?_
  · intro i acc h' _
    rfl
  · intro i d acc h' hd ⟨f1, xs, ea, hx⟩
    subst ea
    rw [List.getElem?_map] at hd
    obtain ⟨hi, hd⟩ : i < w.length - 1 ∧ d = PV.int (1 + i) := by
      by_cases q : i < w.length - 1
      · rw [List.getElem?_range q] at hd
        exact ⟨q, (Option.some.inj hd).symm⟩
      · rw [List.getElem?_eq_none (by simp; omega)] at hd; cases hd
    subst hd
    walk_at "zz"
    have e1 : (1 : Int) + (i : Nat) = ((i + 1 : Nat) : Int) := by omega
    refine okP_slcW (k := i + 1) (by rw [e1, HT.sIx_nat]; omega) (by omega) ?_
    walk_at "zz"
    refine (p.at (N := n + dp (.above e)) o (hw.take (by omega)) (by show dp e + 1 ≤ n + (dp e + 1); omega)).mono fun d h2 ⟨e2, f2⟩ => ?_
    subst e2
    walk_at "zz"
    refine ⟨fun z => ⟨f1.trans f2, xs, rfl, ?_⟩, fun z => ?_⟩
    · rw [hx]
      refine ⟨fun ⟨k, k1, k2⟩ => ⟨k, by omega, k2⟩, fun ⟨k, k1, k2⟩ => ⟨k, ?_, k2⟩⟩
      by_cases q : k = i
      · subst q; rw [z] at k2; cases k2
      · omega
    · walk_at "zz"
      refine ⟨f1.trans f2, xs ++ [1 + (i : Int)], by simp, ?_⟩
      exact ⟨fun _ => ⟨i, by omega, z⟩, fun _ => by simp⟩
  walk_at "zz"
  subst ea
  refine okO_of (ne_nil_list (w := xs) ((Fr.app (S := []) _).get0 get_new) get_new) ?_
  refine ⟨?_, (f3.trans (.app _)).trans (.app _)⟩
  congr 1
  show (!xs.isEmpty) = (List.range (w.length - 1)).any fun k => sem e (w.take (k + 1))
  rw [List.length_map, List.length_range] at hx
  rw [Bool.eq_iff_iff, List.any_eq_true]
  have : ((!xs.isEmpty) = true) ↔ xs ≠ [] := by cases xs <;> simp
  rw [this, hx]
  simp only [List.mem_range]
theorem ok_lholds : ∀ e, SpH e
  | .label _ => ok_lholds_label
  | .root => ok_lholds_root
  | .level _ _ => ok_lholds_level
  | .parent e => ok_lholds_parent (ok_lholds e)
  | .above e => ok_lholds_above (ok_lholds e)
  | .neg e => ok_lholds_neg (ok_lholds e)
  | .conj a b => ok_lholds_conj (ok_lholds a) (ok_lholds b)
  | .disj a b => ok_lholds_disj (ok_lholds a) (ok_lholds b)
end Law
end Zed
end
section
set_option Elab.async false
set_option linter.all false
set_option maxRecDepth 100000
set_option maxHeartbeats 1000000
set_option exponentiation.threshold 10000
namespace Zed
open PySem L2
/-! dicts with nested keys -/
theorem sameK_iff {p : PV} {q k : NestedKey} (h : nkOf p = some q) : sameK p k = decide (q = k) := by
  unfold sameK; rw [h, NestedKey.decide_eq]
theorem find_map (k : NestedKey) (v : PV) (k' : NestedKey) : ∀ kvs : List (PV × PV), dFind (kvs.map fun p => if sameK p.1 k then (p.1, v) else p) k' = if k = k' then (dFind kvs k).map (fun _ => v) else dFind kvs k'
  | [] => by unfold dFind; simp
  | (a, b) :: r => by
    have ih := find_map k v k' r
    unfold dFind at ih ⊢
    rw [List.map_cons, List.find?_cons, List.find?_cons, List.find?_cons]
    by_cases hk : k = k'
    · subst hk
      rw [if_pos rfl] at ih ⊢
      cases z : sameK a k with
      | true => simp [z]
      | false => simp only [z, Bool.false_eq_true, if_false]; exact ih
    · rw [if_neg hk] at ih ⊢
      cases z : sameK a k with
      | true =>
        have z' : sameK a k' = false := by
          unfold sameK at z ⊢
          cases hn : nkOf a with
          | none => rfl
          | some q =>
            rw [hn] at z
            have := NestedKey.eq_of_beq _ _ z
            subst this
            dsimp only
            cases zz : NestedKey.beq q k' with
            | false => rfl
            | true => exact absurd (NestedKey.eq_of_beq _ _ zz) hk
        simp only [z', if_true, Bool.false_eq_true]; exact ih
      | false =>
        simp only [Bool.false_eq_true, if_false]
        cases z' : sameK a k' with
        | true => rfl
        | false => exact ih
theorem find_store {kvs : List (PV × PV)} {k k' : NestedKey} {kp v : PV} (h : nkOf kp = some k) : dFind (dStore kvs k kp v) k' = if k = k' then some v else dFind kvs k' := by
  unfold dStore
  cases z : dFind kvs k with
  | some u =>
    rw [if_pos (show (some u).isSome = true from rfl), find_map, z]; rfl
  | none =>
    rw [if_neg (by simp)]
    unfold dFind at z ⊢
    rw [List.find?_append]
    by_cases hk : k = k'
    · subst hk
      rw [if_pos rfl]
      have : kvs.find? (fun p => sameK p.1 k) = none := by
        cases y : kvs.find? (fun p => sameK p.1 k) with
        | none => rfl
        | some _ => rw [y] at z; cases z
      rw [this]
      simp [List.find?_cons, sameK_iff h]
    · rw [if_neg hk]
      simp [List.find?_cons, sameK_iff h, hk]
theorem store_len {kvs : List (PV × PV)} {k : NestedKey} {kp v : PV} : (dStore kvs k kp v).length ≤ kvs.length + 1 := by
  unfold dStore
  split
  · rw [List.length_map]; omega
  · rw [List.length_append]; exact Nat.le_refl _
theorem store_all {kvs : List (PV × PV)} {k : NestedKey} {kp v : PV} {f : PV → Bool} (hk : f kp = true) (h : kvs.all (fun p => f p.1) = true) : (dStore kvs k kp v).all (fun p => f p.1) = true := by
  unfold dStore
  rw [List.all_eq_true] at h ⊢
  split
  · intro x hx
    obtain ⟨y, hy, rfl⟩ := List.mem_map.mp hx
    split <;> exact h y hy
  · intro x hx
    rcases List.mem_append.mp hx with hx | hx
    · exact h x hx
    · rw [List.mem_singleton.mp hx]; exact hk
section
variable {C : Orc} {ct : Ct} {l : Loc} {h : PHeap} {i : Nat} {Q : PV → PHeap → Prop}
theorem okO_getD {kvs : List (PV × PV)} {k d : PV} {Q : PV → Prop} (e : h[i]? = some (.dic kvs)) (g : dGetF kvs k = some d) (q : Q d) : OkO (getF (.ref i) k h) Q := okO_of ((get_dic e).trans g) q
theorem okO_putD {kvs kvs' : List (PV × PV)} {k v : PV} {Q : PHeap → Prop} (e : h[i]? = some (.dic kvs)) (g : dPutF kvs k v = some kvs') (q : Q (h.set i (.dic kvs'))) : OkO (putF (.ref i) k v h) Q := by
  refine okO_of ?_ q
  simp only [putF, e, g]; rfl
theorem okP_attr {c f : Nat} {fs : List (Nat × PV)} {d : PV} (e : h[i]? = some (.ins c fs)) (o : ownF ct c f = true) (g : fs.lookup f = some d) (q : Q d h) : OkP (attrF ct f [.ref i] h) Q := by
  refine okP_of ?_ q
  simp only [attrF, e, o, g]; rfl
theorem okO_fld {c f : Nat} {fs : List (Nat × PV)} {v : PV} {Q : PHeap → Prop} (e : h[i]? = some (.ins c fs)) (o : ownF ct c f = true) (g : fs.length < 900) (q : Q (h.set i (.ins c (setFl fs f v)))) : OkO (fldF ct (.ref i) f v h) Q := by
  refine okO_of ?_ q
  simp only [fldF, e, o, decide_eq_true g]; rfl
theorem w_make {c f : Nat} {es : Exs} : Ok (evE C (.make c f es) l h) Q ↔ Ok (evA C es l h) fun ds h1 => Ok (C.call f (.ref h1.length :: ds) (h1 ++ [.ins c []])) fun d h2 => d = .non ∧ Q (.ref h1.length) h2 := by
  show Ok (R.bind _ _) _ ↔ _
  rw [ok_bind]
  refine iff_of_eq (congrArg _ (funext fun ds => funext fun h1 => propext ?_))
  show Ok (makeF C.call c f ds h1) Q ↔ _
  unfold makeF
  cases C.call f (.ref h1.length :: ds) (h1 ++ [.ins c []]) with
  | ok d h2 => cases d <;> simp [Ok]
  | exc => exact Iff.rfl
  | stuck => exact Iff.rfl
end
namespace Law
def nk : E → NestedKey
  | .label s => .tup [.text "label", .text s]
  | .root => .tup [.text "root"]
  | .level r m => .tup [.text "level", .num r, .num m]
  | .parent e => .tup [.text "parent", nk e]
  | .above e => .tup [.text "above", nk e]
  | .neg e => .tup [.text "not", nk e]
  | .conj a b => .tup [.text "and", nk a, nk b]
  | .disj a b => .tup [.text "or", nk a, nk b]
theorem nk_pv : ∀ e, nkOf (pv e) = some (nk e)
  | .label s => by simp only [pv, nk, nkOf, nkOfs]; rfl
  | .root => by simp only [pv, nk, nkOf, nkOfs]; rfl
  | .level r m => by simp only [pv, nk, nkOf, nkOfs]; rfl
  | .parent e => by simp only [pv, nk, nkOf, nkOfs, nk_pv e]; rfl
  | .above e => by simp only [pv, nk, nkOf, nkOfs, nk_pv e]; rfl
  | .neg e => by simp only [pv, nk, nkOf, nkOfs, nk_pv e]; rfl
  | .conj a b => by simp only [pv, nk, nkOf, nkOfs, nk_pv a, nk_pv b]; rfl
  | .disj a b => by simp only [pv, nk, nkOf, nkOfs, nk_pv a, nk_pv b]; rfl
theorem nk_depth : ∀ e, (nk e).depth = dp e
  | .label s => rfl
  | .root => rfl
  | .level r m => rfl
  | .parent e => by have := nk_depth e; simp only [nk, dp, NestedKey.depth, NestedKey.depthAll]; omega
  | .above e => by have := nk_depth e; simp only [nk, dp, NestedKey.depth, NestedKey.depthAll]; omega
  | .neg e => by have := nk_depth e; simp only [nk, dp, NestedKey.depth, NestedKey.depthAll]; omega
  | .conj a b => by have h1 := nk_depth a; have h2 := nk_depth b; simp only [nk, dp, NestedKey.depth, NestedKey.depthAll]; omega
  | .disj a b => by have h1 := nk_depth a; have h2 := nk_depth b; simp only [nk, dp, NestedKey.depth, NestedKey.depthAll]; omega
def wd : NestedKey → Str
  | .tup (.text x :: _) => x
  | _ => ""
theorem nk_inj (a : E) : ∀ b, nk a = nk b → a = b := by
  induction a with
  | label s =>
    intro b h
    have hw := congrArg wd h
    cases b <;> simp only [nk, wd] at hw <;> first | exact absurd hw (by decide +kernel) | skip
    simp only [nk, NestedKey.tup.injEq, List.cons.injEq, NestedKey.text.injEq, and_true, true_and] at h
    rw [h]
  | root =>
    intro b h
    have hw := congrArg wd h
    cases b <;> simp only [nk, wd] at hw <;> first | exact absurd hw (by decide +kernel) | rfl
  | level r m =>
    intro b h
    have hw := congrArg wd h
    cases b <;> simp only [nk, wd] at hw <;> first | exact absurd hw (by decide +kernel) | skip
    simp only [nk, NestedKey.tup.injEq, List.cons.injEq, NestedKey.num.injEq, and_true, true_and] at h
    rw [h.1, h.2]
  | parent e ih =>
    intro b h
    have hw := congrArg wd h
    cases b <;> simp only [nk, wd] at hw <;> first | exact absurd hw (by decide +kernel) | skip
    simp only [nk, NestedKey.tup.injEq, List.cons.injEq, and_true, true_and] at h
    rw [ih _ h]
  | above e ih =>
    intro b h
    have hw := congrArg wd h
    cases b <;> simp only [nk, wd] at hw <;> first | exact absurd hw (by decide +kernel) | skip
    simp only [nk, NestedKey.tup.injEq, List.cons.injEq, and_true, true_and] at h
    rw [ih _ h]
  | neg e ih =>
    intro b h
    have hw := congrArg wd h
    cases b <;> simp only [nk, wd] at hw <;> first | exact absurd hw (by decide +kernel) | skip
    simp only [nk, NestedKey.tup.injEq, List.cons.injEq, and_true, true_and] at h
    rw [ih _ h]
  | conj x y ih1 ih2 =>
    intro b h
    have hw := congrArg wd h
    cases b <;> simp only [nk, wd] at hw <;> first | exact absurd hw (by decide +kernel) | skip
    simp only [nk, NestedKey.tup.injEq, List.cons.injEq, and_true, true_and] at h
    rw [ih1 _ h.1, ih2 _ h.2]
  | disj x y ih1 ih2 =>
    intro b h
    have hw := congrArg wd h
    cases b <;> simp only [nk, wd] at hw <;> first | exact absurd hw (by decide +kernel) | skip
    simp only [nk, NestedKey.tup.injEq, List.cons.injEq, and_true, true_and] at h
    rw [ih1 _ h.1, ih2 _ h.2]
/-- what is held at a way, for the parts S -/
structure HD (kvs : List (PV × PV)) (S : List E) (w : List Str) : Prop where
  keys : kvs.all (fun p => isTupP p.1) = true
  len : kvs.length ≤ S.length
  val : ∀ q ∈ S, dFind kvs (nk q) = some (.bl (sem q w))
theorem isT_pv (e : E) : isTupP (pv e) = true := by cases e <;> rfl
theorem fits {kvs : List (PV × PV)} {e : E} (h : kvs.all (fun p => isTupP p.1) = true) (d : dp e ≤ 8) : fitsK kvs (pv e) (nk e) = true := by
  unfold fitsK
  rw [isT_pv, nk_depth, decide_eq_true d, h]; simp
theorem HD.get {kvs : List (PV × PV)} {S : List E} {w : List Str} {q : E} (hd : HD kvs S w) (m : q ∈ S) (d : dp q ≤ 8) : dGetF kvs (pv q) = some (.bl (sem q w)) := by
  unfold dGetF
  rw [nk_pv]
  dsimp only
  rw [if_pos (fits hd.keys d), hd.val q m]
theorem HD.put {kvs : List (PV × PV)} {S : List E} {w : List Str} {q : E} (hd : HD kvs S w) (d : dp q ≤ 8) (hl : S.length ≤ 500) : ∃ kvs', dPutF kvs (pv q) (.bl (sem q w)) = some kvs' ∧ HD kvs' (S ++ [q]) w := by
  refine ⟨dStore kvs (nk q) (pv q) (.bl (sem q w)), ?_, ?_, ?_, ?_⟩
  · unfold dPutF
    rw [nk_pv]
    dsimp only
    have := hd.len
    rw [fits hd.keys d, decide_eq_true (Nat.lt_of_lt_of_le (by omega : kvs.length < 1000) (line_of (Nat.le_refl _)))]; rfl
  · exact store_all (isT_pv q) hd.keys
  · have := hd.len
    have h2 := @store_len kvs (nk q) (pv q) (.bl (sem q w))
    rw [List.length_append]; simp; omega
  · intro x hx
    rw [find_store (nk_pv q)]
    by_cases z : nk q = nk x
    · rw [if_pos z, nk_inj q x z]
    · rw [if_neg z]
      rcases List.mem_append.mp hx with hx | hx
      · exact hd.val x hx
      · rw [List.mem_singleton.mp hx] at z; exact absurd rfl z
end Law
end Zed
end
section
set_option Elab.async false
set_option linter.all false
set_option maxRecDepth 100000
set_option maxHeartbeats 1000000
set_option exponentiation.threshold 10000
namespace Zed
namespace Law
open PySem L2
theorem t_holds_at : TB 28 = some f_holds_at := rfl
theorem t_init : TB 30 = some f_Node___init__ := rfl
theorem t_below : TB 12 = some f_node_below := rfl
theorem t_holds : TB 21 = some f_holds := rfl
/-- the node of a way: none ahead of the first label -/
def Abv (h : PHeap) (S : List E) (w : List Str) (v : PV) : Prop :=
  (w = [] ∧ v = .non) ∨ (w ≠ [] ∧ ∃ a hd kvs, v = .ref a ∧ h[a]? = some (.ins 29 [(27, .int ((w.length - 1 : Int) % 12 + 1)), (26, .ref hd)]) ∧ h[hd]? = some (.dic kvs) ∧ HD kvs S w)
theorem Abv.fr {h h' : PHeap} {S : List E} {w : List Str} {v : PV} (a : Abv h S w v) (f : Fr [] h h') : Abv h' S w v := by
  rcases a with a | ⟨a1, a, hd, kvs, a2, a3, a4, a5⟩
  · exact .inl a
  · exact .inr ⟨a1, a, hd, kvs, a2, f.get0 a3, f.get0 a4, a5⟩
/-! what an expression tells behind one more label -/
theorem sem_above {e : E} {w : List Str} {s : Str} (hw : w ≠ []) : sem (.above e) (w ++ [s]) = (sem (.above e) w || sem e w) := by
  have hl : 0 < w.length := List.length_pos_iff.mpr hw
  show (List.range ((w ++ [s]).length - 1)).any (fun k => sem e ((w ++ [s]).take (k + 1))) = ((List.range (w.length - 1)).any (fun k => sem e (w.take (k + 1))) || sem e w)
  have e1 : (w ++ [s]).length - 1 = (w.length - 1) + 1 := by rw [List.length_append]; simp; omega
  rw [e1, List.range_succ, List.any_append]
  congr 1
  · rw [Bool.eq_iff_iff, List.any_eq_true, List.any_eq_true]
    refine exists_congr fun k => and_congr_right fun hk => ?_
    rw [List.mem_range] at hk
    rw [List.take_append_of_le_length (by omega)]
  · rw [List.any_cons, List.any_nil, Bool.or_false, show w.length - 1 + 1 = w.length by omega, List.take_append_of_le_length (Nat.le_refl _), List.take_length]
theorem sem_above1 {e : E} {s : Str} : sem (.above e) [s] = false := rfl
theorem sem_parent {e : E} {w : List Str} {s : Str} (hw : w ≠ []) : sem (.parent e) (w ++ [s]) = sem e w := by
  have hl : 0 < w.length := List.length_pos_iff.mpr hw
  show (decide (1 < (w ++ [s]).length) && sem e (w ++ [s]).dropLast) = sem e w
  rw [List.dropLast_concat, decide_eq_true (by rw [List.length_append]; simp; omega), Bool.true_and]
theorem sem_parent1 {e : E} {s : Str} : sem (.parent e) [s] = false := rfl
theorem sem_level {n : Nat} {r m : Int} (h2 : 2 ≤ m) (h4 : m ≤ 4) (hn : 0 < n) : (((n : Int) - 1) % 12 + 1) % m = (n : Int) % m := by
  obtain rfl | rfl | rfl : m = 2 ∨ m = 3 ∨ m = 4 := by omega
  · omega
  · omega
  · omega
theorem own26 : ownF CT 29 26 = true := rfl
theorem own27 : ownF CT 29 27 = true := rfl
theorem ok_holds_at {n : Nat} {h : PHeap} {p : E} {s : Str} {w : List Str} {v : PV} {S S0 : List E} {hd : Nat} {kvs : List (PV × PV)} (o : okE p) (hs : s ∈ lab4) (a : Abv h S w v) (g : h[hd]? = some (.dic kvs)) (H : HD kvs S0 (w ++ [s])) (k0 : ∀ c ∈ kids p, c ∈ S0) (k1 : ∀ c ∈ kids p, c ∈ S) (k2 : p ∈ S) (dd : dp p ≤ 8) :
    Ok (cl (n + 1) 28 [pv p, .str s, .int (((w ++ [s]).length - 1 : Int) % 12 + 1), v, .ref hd] h) fun d h' => d = .bl (sem p (w ++ [s])) ∧ h' = h := by
  refine (f_call t_holds_at rfl).mpr ?_
  cases p with
  | label t =>
    (unfold f_holds_at; dsimp only [List.map, List.append, HAppend.hAppend, Append.append, List.replicate, Nat.reduceSub])
    walk_at "zz"
    refine okO_eqs (lab_ok hs) (lab_ok o) ?_
    refine ⟨?_, rfl⟩
    congr 1
    show (s == t) = ((w ++ [s]).getLast? == some t)
    rw [List.getLast?_concat, Bool.eq_iff_iff, beq_iff_eq, beq_iff_eq, Option.some_inj]
  | root =>
    rcases a with ⟨a1, a2⟩ | ⟨a1, ai, hi, kv, a2, a3, a4, a5⟩
    · subst a1; subst a2
      (unfold f_holds_at; dsimp only [List.map, List.append, HAppend.hAppend, Append.append, List.replicate, Nat.reduceSub])
      walk_at "zz"
      exact ⟨rfl, rfl⟩
    · subst a2
      (unfold f_holds_at; dsimp only [List.map, List.append, HAppend.hAppend, Append.append, List.replicate, Nat.reduceSub])
      walk_at "zz"
      refine ⟨?_, rfl⟩
      have hl : 0 < w.length := List.length_pos_iff.mpr a1
      congr 1
      show false = ((w ++ [s]).length == 1)
      symm
      rw [beq_eq_false_iff_ne, List.length_append]
      simp; omega
  | level r m =>
    obtain ⟨p1, p2, p3, p4⟩ := o
    (unfold f_holds_at; dsimp only [List.map, List.append, HAppend.hAppend, Append.append, List.replicate, Nat.reduceSub])
    walk_at "zz"
    refine okP_mod (by omega) ?_
    walk_at "zz"
    refine ⟨?_, rfl⟩
    congr 1
    show (((((w ++ [s]).length : Int) - 1) % 12 + 1) % m == r) = (((w ++ [s]).length : Int) % m == r)
    rw [sem_level (r := r) p3 p4 (by rw [List.length_append]; simp)]
  | parent c =>
    have dc : dp c + 1 ≤ 8 := dd
    rcases a with ⟨a1, a2⟩ | ⟨a1, ai, hi, kv, a2, a3, a4, a5⟩
    · subst a1; subst a2
      (unfold f_holds_at; dsimp only [List.map, List.append, HAppend.hAppend, Append.append, List.replicate, Nat.reduceSub])
      walk_at "zz"
      exact ⟨rfl, rfl⟩
    · subst a2
      (unfold f_holds_at; dsimp only [List.map, List.append, HAppend.hAppend, Append.append, List.replicate, Nat.reduceSub])
      walk_at "zz"
      refine okP_attr a3 own26 rfl ?_
      walk_at "zz"
      refine okO_getD a4 (a5.get (k1 c (by simp [kids])) (by omega)) ?_
      exact ⟨(congrArg PV.bl (sem_parent (s := s) a1)).symm, rfl⟩
  | above c =>
    have dc : dp c + 1 ≤ 8 := dd
    rcases a with ⟨a1, a2⟩ | ⟨a1, ai, hi, kv, a2, a3, a4, a5⟩
    · subst a1; subst a2
      (unfold f_holds_at; dsimp only [List.map, List.append, HAppend.hAppend, Append.append, List.replicate, Nat.reduceSub])
      walk_at "zz"
      exact ⟨rfl, rfl⟩
    · subst a2
      (unfold f_holds_at; dsimp only [List.map, List.append, HAppend.hAppend, Append.append, List.replicate, Nat.reduceSub])
      walk_at "zz"
      refine okP_attr a3 own26 rfl ?_
      walk_at "zz"
      refine okO_getD a4 (show dGetF kv (pv (.above c)) = _ from a5.get k2 dd) ?_
      walk_at "zz"
      have sa := sem_above (e := c) (s := s) a1
      refine ⟨fun z => ⟨congrArg PV.bl (by rw [z] at sa ⊢; exact sa.symm), rfl⟩, fun z => ?_⟩
      walk_at "zz"
      refine okP_attr a3 own26 rfl ?_
      walk_at "zz"
      refine okO_getD a4 (a5.get (k1 c (by simp [kids])) (by omega)) ?_
      exact ⟨congrArg PV.bl (by rw [z] at sa; exact sa.symm), rfl⟩
  | neg c =>
    have dc : dp c + 1 ≤ 8 := dd
    (unfold f_holds_at; dsimp only [List.map, List.append, HAppend.hAppend, Append.append, List.replicate, Nat.reduceSub])
    walk_at "zz"
    refine okO_getD g (H.get (k0 c (by simp [kids])) (by omega)) ?_
    walk_at "zz"
    exact ⟨rfl, rfl⟩
  | conj c c' =>
    have dc : max (dp c) (dp c') + 1 ≤ 8 := dd
    (unfold f_holds_at; dsimp only [List.map, List.append, HAppend.hAppend, Append.append, List.replicate, Nat.reduceSub])
    walk_at "zz"
    refine okO_getD g (H.get (k0 c (by simp [kids])) (by omega)) ?_
    walk_at "zz"
    show (_ → _) ∧ (_ → PV.bl (sem c (w ++ [s])) = PV.bl (sem c (w ++ [s]) && sem c' (w ++ [s])) ∧ _)
    refine ⟨fun z => ?_, fun z => ⟨by rw [z]; rfl, rfl⟩⟩
    walk_at "zz"
    refine okO_getD g (H.get (k0 c' (by simp [kids])) (by omega)) ?_
    exact ⟨by show _ = PV.bl (sem c (w ++ [s]) && sem c' (w ++ [s])); rw [z]; rfl, rfl⟩
  | disj c c' =>
    have dc : max (dp c) (dp c') + 1 ≤ 8 := dd
    (unfold f_holds_at; dsimp only [List.map, List.append, HAppend.hAppend, Append.append, List.replicate, Nat.reduceSub])
    walk_at "zz"
    refine okO_getD g (H.get (k0 c (by simp [kids])) (by omega)) ?_
    walk_at "zz"
    show (_ → PV.bl (sem c (w ++ [s])) = PV.bl (sem c (w ++ [s]) || sem c' (w ++ [s])) ∧ _) ∧ (_ → _)
    refine ⟨fun z => ⟨by rw [z]; rfl, rfl⟩, fun z => ?_⟩
    walk_at "zz"
    refine okO_getD g (H.get (k0 c' (by simp [kids])) (by omega)) ?_
    exact ⟨by show _ = PV.bl (sem c (w ++ [s]) || sem c' (w ++ [s])); rw [z]; rfl, rfl⟩
theorem ok_init {n : Nat} {h : PHeap} {d : PV} {v : PV} : Ok (cl (n + 1) 30 [.ref h.length, d, v] (h ++ [.ins 29 []])) fun x h' => x = .non ∧ Fr [] h h' ∧ h'[h.length]? = some (.ins 29 [(27, d), (26, v)]) := by
  refine (f_call t_init rfl).mpr ?_
  (unfold f_Node___init__; dsimp only [List.map, List.append, HAppend.hAppend, Append.append, List.replicate, Nat.reduceSub])
  walk_at "zz"
  refine okO_fld get_new own27 (Nat.le_of_ble_eq_true rfl) ?_
  walk_at "zz"
  refine okO_fld (get_self get_new) own26 (Nat.le_of_ble_eq_true rfl) ?_
  walk_at "zz"
  refine ⟨rfl, ?_, get_self (get_self get_new)⟩
  exact (((Fr.app (S := [h.length]) _).trans (.set List.mem_cons_self)).trans (.set List.mem_cons_self)).drop fun z hz => .inl (by rw [List.mem_singleton.mp hz]; exact Nat.le_refl _)
/-! the parts in their order -/
def Closed (l : List E) : Prop := ∀ i p, l[i]? = some p → ∀ c ∈ kids p, c ∈ l.take i
theorem Closed.app {l l' : List E} (a : Closed l) (b : Closed l') : Closed (l ++ l') := by
  intro i p hp c hc
  by_cases q : i < l.length
  · rw [List.getElem?_append_left q] at hp
    rw [List.take_append_of_le_length (by omega)]
    exact a i p hp c hc
  · rw [List.getElem?_append_right (by omega)] at hp
    rw [List.take_append, List.mem_append]
    exact .inr (b _ p hp c hc)
theorem Closed.add {l : List E} {x : E} (a : Closed l) (k : ∀ c ∈ kids x, c ∈ l) : Closed (l ++ [x]) := by
  intro i p hp c hc
  by_cases q : i < l.length
  · rw [List.getElem?_append_left q] at hp
    rw [List.take_append_of_le_length (by omega)]
    exact a i p hp c hc
  · rw [List.getElem?_append_right (by omega)] at hp
    rw [List.take_append, List.mem_append]
    have : p = x := by
      cases z : i - l.length with
      | zero => rw [z] at hp; exact (Option.some.inj hp).symm
      | succ j => rw [z] at hp; cases hp
    subst this
    exact .inl (by rw [List.take_of_length_le (by omega)]; exact k c hc)
theorem self_post : ∀ e, e ∈ post e
  | .parent e => by simp [post]
  | .above e => by simp [post]
  | .neg e => by simp [post]
  | .conj a b => by simp [post]
  | .disj a b => by simp [post]
  | .label _ => by simp [post]
  | .root => by simp [post]
  | .level _ _ => by simp [post]
theorem closed_leaf {x : E} (h : kids x = []) : Closed [x] := by
  have := Closed.add (l := []) (x := x) (fun i p hp => by cases hp) (by rw [h]; exact fun c hc => nomatch hc)
  exact this
theorem closed_post : ∀ e, Closed (post e)
  | .parent e => (closed_post e).add (by intro c hc; simp only [kids, List.mem_singleton] at hc; subst hc; exact self_post c)
  | .above e => (closed_post e).add (by intro c hc; simp only [kids, List.mem_singleton] at hc; subst hc; exact self_post c)
  | .neg e => (closed_post e).add (by intro c hc; simp only [kids, List.mem_singleton] at hc; subst hc; exact self_post c)
  | .conj a b => ((closed_post a).app (closed_post b)).add (by
      intro c hc
      simp only [kids, List.mem_cons, List.not_mem_nil, or_false] at hc
      rw [List.mem_append]
      rcases hc with rfl | rfl
      · exact .inl (self_post c)
      · exact .inr (self_post c))
  | .disj a b => ((closed_post a).app (closed_post b)).add (by
      intro c hc
      simp only [kids, List.mem_cons, List.not_mem_nil, or_false] at hc
      rw [List.mem_append]
      rcases hc with rfl | rfl
      · exact .inl (self_post c)
      · exact .inr (self_post c))
  | .label _ => closed_leaf rfl
  | .root => closed_leaf rfl
  | .level _ _ => closed_leaf rfl
theorem Ex9.un {x c : E} (a : Ex9 x) (o : okE x → okE c) (d : Law.dp c ≤ Law.dp x) (s : Law.sz c ≤ Law.sz x) : Ex9 c := ⟨o a.ok, Nat.le_trans d a.dp, Nat.le_trans s a.sz⟩
/-- the parts of a right expression are right -/
theorem Ex9.kid {x c : E} (a : Ex9 x) (m : c ∈ kids x) : Ex9 c := by
  cases x with
  | label _ => exact nomatch m
  | root => exact nomatch m
  | level _ _ => exact nomatch m
  | parent e => simp only [kids, List.mem_singleton] at m; subst m; exact a.un id (by simp only [Law.dp]; omega) (by simp only [Law.sz]; omega)
  | above e => simp only [kids, List.mem_singleton] at m; subst m; exact a.un id (by simp only [Law.dp]; omega) (by simp only [Law.sz]; omega)
  | neg e => simp only [kids, List.mem_singleton] at m; subst m; exact a.un id (by simp only [Law.dp]; omega) (by simp only [Law.sz]; omega)
  | conj x y =>
    simp only [kids, List.mem_cons, List.not_mem_nil, or_false] at m
    rcases m with rfl | rfl
    · exact a.un And.left (by simp only [Law.dp]; omega) (by simp only [Law.sz]; omega)
    · exact a.un And.right (by simp only [Law.dp]; omega) (by simp only [Law.sz]; omega)
  | disj x y =>
    simp only [kids, List.mem_cons, List.not_mem_nil, or_false] at m
    rcases m with rfl | rfl
    · exact a.un And.left (by simp only [Law.dp]; omega) (by simp only [Law.sz]; omega)
    · exact a.un And.right (by simp only [Law.dp]; omega) (by simp only [Law.sz]; omega)
theorem ex_post : ∀ (e : E), Ex9 e → ∀ p ∈ post e, Ex9 p
  | .parent e, a, p, m => by
    simp only [post, List.mem_append, List.mem_singleton] at m
    rcases m with m | rfl
    · exact ex_post e (a.kid (by simp [kids])) p m
    · exact a
  | .above e, a, p, m => by
    simp only [post, List.mem_append, List.mem_singleton] at m
    rcases m with m | rfl
    · exact ex_post e (a.kid (by simp [kids])) p m
    · exact a
  | .neg e, a, p, m => by
    simp only [post, List.mem_append, List.mem_singleton] at m
    rcases m with m | rfl
    · exact ex_post e (a.kid (by simp [kids])) p m
    · exact a
  | .conj x y, a, p, m => by
    simp only [post, List.mem_append, List.mem_singleton] at m
    rcases m with (m | m) | rfl
    · exact ex_post x (a.kid (by simp [kids])) p m
    · exact ex_post y (a.kid (by simp [kids])) p m
    · exact a
  | .disj x y, a, p, m => by
    simp only [post, List.mem_append, List.mem_singleton] at m
    rcases m with (m | m) | rfl
    · exact ex_post x (a.kid (by simp [kids])) p m
    · exact ex_post y (a.kid (by simp [kids])) p m
    · exact a
  | .label _, a, p, m => by simp only [post, List.mem_singleton] at m; subst m; exact a
  | .root, a, p, m => by simp only [post, List.mem_singleton] at m; subst m; exact a
  | .level _ _, a, p, m => by simp only [post, List.mem_singleton] at m; subst m; exact a
theorem pre_post : ∀ (e p : E), p ∈ pre e ↔ p ∈ post e
  | .parent e, p => by simp only [pre, post, List.mem_cons, List.mem_append, List.not_mem_nil, or_false, pre_post e p]; exact or_comm
  | .above e, p => by simp only [pre, post, List.mem_cons, List.mem_append, List.not_mem_nil, or_false, pre_post e p]; exact or_comm
  | .neg e, p => by simp only [pre, post, List.mem_cons, List.mem_append, List.not_mem_nil, or_false, pre_post e p]; exact or_comm
  | .conj a b, p => by simp only [pre, post, List.mem_cons, List.mem_append, List.not_mem_nil, or_false, pre_post a p, pre_post b p]; exact or_comm
  | .disj a b, p => by simp only [pre, post, List.mem_cons, List.mem_append, List.not_mem_nil, or_false, pre_post a p, pre_post b p]; exact or_comm
  | .label _, p => Iff.rfl
  | .root, p => Iff.rfl
  | .level _ _, p => Iff.rfl
end Law
end Zed
end
section
set_option Elab.async false
set_option linter.all false
set_option maxRecDepth 100000
set_option maxHeartbeats 1000000
set_option exponentiation.threshold 10000
namespace Zed
namespace Law
open PySem L2
def belowB : Sxs := (.cons (.asg (.nm 4) .dic0)
  (.cons (.for_ (.nm 5) (.val (.loc 0))
  (.cons (.put (.loc 4) (.loc 5) (.call 28 (.cons (.loc 5) (.cons (.loc 2) (.cons (.loc 3) (.cons (.loc 1) (.cons (.loc 4) .nil)))))))
  .nil))
  (.cons (.ret (.make 29 30 (.cons (.loc 3) (.cons (.loc 4) .nil))))
  .nil)))
theorem ok_belowB {n k : Nat} {h : PHeap} {e : E} {w : List Str} {s : Str} {v : PV} {N : Loc → PHeap → Prop} (x : Ex9 e) (hs : s ∈ lab4) (g : h[k]? = some (.lst ((post e).map pv))) (a : Abv h (post e) w v) :
    OkS (exSs ⟨cl (n + 2), CT⟩ belowB [some (.ref k), some v, some (.str s), some (.int (((w ++ [s]).length - 1 : Int) % 12 + 1)), none, none] h) N fun d h' => Abv h' (post e) (w ++ [s]) d ∧ Fr [] h h' := by
  unfold belowB
  walk_at "zz"
  have g1 := (Fr.app (S := []) [PObj.dic []]).get0 g
  have kl := lt_of_get g
  refine okO_srcL g1 ?_
  have sl : srcLen (h ++ [.dic []]) (.lst k) = ((post e).map pv).length := by simp only [srcLen, g1]
  rw [sl]
  have pl := post_len e
  have x9 := x.sz
  refine ok_for (ds := (post e).map pv) (fun i l h' => (∃ z, l = [some (.ref k), some v, some (.str s), some (.int (((w ++ [s]).length - 1 : Int) % 12 + 1)), some (.ref h.length), z]) ∧ Fr [] h h' ∧ ∃ kvs, h'[h.length]? = some (.dic kvs) ∧ HD kvs ((post e).take i) (w ++ [s])) ?_ ?_ ?_ _ 0 _ _ rfl (Nat.zero_le _) ⟨⟨_, rfl⟩, .app _, [], get_new, ⟨rfl, Nat.zero_le _, fun q hq => by simp at hq⟩⟩
  · intro i l h' ⟨_, f, _⟩
    have := f.get0 g
    simp only [srcAt, this]
  · intro i d l h' hd ⟨⟨z, el⟩, f, kvs, gk, H⟩
    subst el
    rw [List.getElem?_map] at hd
    cases hp : (post e)[i]? with
    | none => rw [hp] at hd; cases hd
    | some p =>
      rw [hp] at hd
      cases hd
      have mp : p ∈ post e := List.mem_of_getElem? hp
      have xp := ex_post e x p mp
      have dp5 := xp.dp
      have kc := closed_post e i p hp
      walk_at "zz"
      refine (ok_holds_at (n := n + 1) xp.ok hs (a.fr f) gk H kc (fun c hc => List.mem_of_mem_take (kc c hc)) mp (by omega)).mono fun d h2 ⟨e1, e2⟩ => ?_
      subst e1
      subst e2
      walk_at "zz"
      obtain ⟨kvs', hk1, hk2⟩ := H.put (q := p) (by omega) (by rw [List.length_take]; omega)
      refine okO_putD gk hk1 ?_
      walk_at "zz"
      refine ⟨⟨_, rfl⟩, ?_, kvs', get_self gk, ?_⟩
      · exact ((f.mono (S' := [h.length]) (by simp)).trans (.set List.mem_cons_self)).drop fun z hz => .inl (by rw [List.mem_singleton.mp hz]; exact Nat.le_refl _)
      · rw [List.take_succ, hp]; exact hk2
  · intro l h' ⟨⟨z, el⟩, f, kvs, gk, H⟩
    subst el
    walk_at "zz"
    refine w_make.mpr ?_
    walk_at "zz"
    refine (ok_init (n := n + 1)).mono fun d h2 ⟨e1, f2, g2⟩ => ?_
    refine ⟨e1, .inr ⟨by simp, _, _, kvs, rfl, g2, f2.get0 gk, ?_⟩, f.trans f2⟩
    rw [List.length_map, List.take_length] at H
    exact H
theorem ok_below {n k : Nat} {h : PHeap} {e : E} {w : List Str} {s : Str} {v : PV} (x : Ex9 e) (hs : s ∈ lab4) (g : h[k]? = some (.lst ((post e).map pv))) (a : Abv h (post e) w v) :
    Ok (cl (n + 3) 12 [.ref k, v, .str s] h) fun d h' => Abv h' (post e) (w ++ [s]) d ∧ Fr [] h h' := by
  refine (f_call t_below rfl).mpr ?_
  have key := fun {N} => ok_belowB (n := n) (N := N) x hs g a
  unfold belowB at key
  unfold f_node_below
  refine s_cons.mpr (OkS.mono (N := fun l1 h1 => l1 = [some (.ref k), some v, some (.str s), some (.int (((w ++ [s]).length - 1 : Int) % 12 + 1)), none, none] ∧ h1 = h) (T := fun _ _ => False) ?_ (fun l1 h1 ⟨e1, e2⟩ => by subst e1; subst e2; exact key) (fun _ _ q => q.elim))
  dsimp only [List.map, List.replicate, Nat.reduceSub]
  show OkS (exS _ _ [some (.ref k), some v, some (.str s), none, none, none] h) _ _
  rcases a with ⟨a1, a2⟩ | ⟨a1, ai, hi, kv, a2, a3, a4, a5⟩
  · subst a1; subst a2
    walk_at "zz"
    exact ⟨rfl, rfl⟩
  · subst a2
    walk_at "zz"
    refine okP_attr a3 own27 rfl ?_
    walk_at "zz"
    refine (ok_level (n := n + 1)).mono fun d h1 ⟨e1, e2⟩ => ?_
    subst e1
    subst e2
    walk_at "zz"
    have e4 : (((w.length : Int) - 1) % 12 + 1 + 1 - 1) % 12 + 1 = (((w ++ [s]).length : Int) - 1) % 12 + 1 := by
      rw [List.length_append]
      simp only [List.length_cons, List.length_nil]
      omega
    rw [e4]
    exact ⟨rfl, rfl⟩
theorem ok_holds {N : Nat} {h : PHeap} {e : E} {w : List Str} (x : Ex9 e) (hw : Way w) (hN : 10 ≤ N) : Ok (cl N 21 [pv e, .tup (w.map PV.str)] h) fun d h' => d = .bl (sem e w) ∧ Fr [] h h' := by
  obtain ⟨n, rfl⟩ := lvl hN
  have hd5 := x.dp
  have hz9 := x.sz
  refine (f_call (n := n + 9) t_holds rfl).mpr ?_
  (unfold f_holds; dsimp only [List.map, List.append, HAppend.hAppend, Append.append, List.replicate, Nat.reduceSub])
  walk_at "zz"
  refine (ok_req (N := n + 9) x (by omega)).mono fun d h1 ⟨e1, f1⟩ => ?_
  subst e1
  walk_at "zz"
  refine (ok_is_way (n := n + 6) hw).mono fun d h2 ⟨e2, f2⟩ => ?_
  subst e2
  walk_at "zz"
  refine (ok_partsN (N := n + 9) (by omega) (by omega)).mono fun d h3 ⟨k, e3, l3, g3, f3⟩ => ?_
  subst e3
  walk_at "zz"
  have f03 : Fr [] h h3 := (f1.trans f2).trans f3
  refine ok_for (ds := w.map PV.str) (fun i l h' => (∃ z v, l = [some (pv e), some (.tup (w.map PV.str)), z, some (.ref k), some v] ∧ Abv h' (post e) (w.take i) v) ∧ Fr [] h3 h') ?_ ?_ ?_ _ 0 _ _ rfl (Nat.zero_le _) ⟨⟨_, _, rfl, .inl ⟨rfl, rfl⟩⟩, .refl⟩
  · intro i l h' _
    rfl
  · intro i d l h' hd ⟨⟨z, v, el, a⟩, f⟩
    subst el
    rw [List.getElem?_map] at hd
    cases hp : w[i]? with
    | none => rw [hp] at hd; cases hd
    | some s =>
      rw [hp] at hd
      cases hd
      walk_at "zz"
      refine (ok_below (n := n + 6) x (hw.lab s (List.mem_of_getElem? hp)) (f.get0 g3) a).mono fun d h4 ⟨a4, f4⟩ => ?_
      walk_at "zz"
      refine ⟨⟨_, _, rfl, ?_⟩, f.trans f4⟩
      rw [List.take_succ, hp]; exact a4
  · intro l h' ⟨⟨z, v, el, a⟩, f⟩
    subst el
    rw [List.length_map, List.take_length] at a
    rcases a with ⟨a1, a2⟩ | ⟨a1, ai, hi, kv, a2, a3, a4, a5⟩
    · exact absurd a1 hw.ne
    · subst a2
      walk_at "zz"
      refine okP_attr a3 own26 rfl ?_
      walk_at "zz"
      refine okO_getD a4 (a5.get (self_post e) (by omega)) ?_
      exact ⟨rfl, f03.trans f⟩
end Law
end Zed
end
section
set_option Elab.async false
set_option linter.all false
set_option maxRecDepth 100000
set_option maxHeartbeats 1000000
set_option exponentiation.threshold 10000
namespace Zed
open PySem L2
theorem okP_tcat {h : PHeap} {xs ys : List PV} {Q : PV → PHeap → Prop} (hl : xs.length + ys.length ≤ 1000) (q : Q (.tup (xs ++ ys)) h) : OkP (bopF .add [.tup xs, .tup ys] h) Q := by
  refine okP_of ?_ q
  show (if xs.length + ys.length ≤ sizeLine then some (PV.tup (xs ++ ys), h) else none) = _
  rw [if_pos (line_of hl)]
theorem okO_srcT {h : PHeap} {ds : List PV} {Q : Src → Prop} (q : Q (.seq ds)) : OkO (srcOf h (.tup ds)) Q := q
theorem okO_bind2 {i j : Nat} {d e : PV} {l : Loc} {Q : Loc → Prop} (hi : i < l.length) (hj : j < l.length) (q : Q ((l.set i (some d)).set j (some e))) : OkO (bindT (.tp (.cons (.nm i) (.cons (.nm j) .nil))) (.tup [d, e]) l) Q := by
  show OkO (bindTs _ _ _) Q
  unfold bindTs bindT
  rw [if_pos hi]
  dsimp only
  unfold bindTs bindT
  rw [List.length_set, if_pos hj]
  exact q
namespace Law
theorem t_rows : TB 20 = some f_law_rows := rfl
/-- rows of labels: at most m, each with at most b labels -/
def Rws (ds : List PV) (m b : Nat) : Prop := ds.length ≤ m ∧ ∀ d ∈ ds, ∃ w : List Str, d = .tup (w.map .str) ∧ (∀ s ∈ w, s ∈ lab4) ∧ w.length ≤ b
theorem Rws.app {xs ys : List PV} {m n b : Nat} (a : Rws xs m b) (c : Rws ys n b) : Rws (xs ++ ys) (m + n) b :=
  ⟨by rw [List.length_append]; exact Nat.add_le_add a.1 c.1, fun d hd => (List.mem_append.mp hd).elim (a.2 d) (c.2 d)⟩
theorem Rws.up {xs : List PV} {m n b c : Nat} (a : Rws xs m b) (h1 : m ≤ n) (h2 : b ≤ c) : Rws xs n c :=
  ⟨Nat.le_trans a.1 h1, fun d hd => by obtain ⟨w, e, l, k⟩ := a.2 d hd; exact ⟨w, e, l, Nat.le_trans k h2⟩⟩
def rowB : Sxs := (.cons (.ex (.meth .extend (.loc 5) (.cons (.lc (.bin .add (.loc 6) (.tup (.cons (.loc 7) .nil))) (.nm 7) (.val (.loc 0)) .no [7]) .nil))) .nil)
theorem ok_rowB {C : Orc} {h : PHeap} {j c : Nat} {ls : List Str} {x1 x2 x3 x4 z : Option PV} {w : List Str} {L : List PV} {m b : Nat} {T : PV → PHeap → Prop} (hw : ∀ s ∈ w, s ∈ lab4) (wb : w.length ≤ b) (hb : b < 100)
    (hl : ∀ s ∈ ls, s ∈ lab4) (h3 : ls.length ≤ 3) (ej : h[j]? = some (.lst (ls.map .str))) (ec : h[c]? = some (.lst L)) (r : Rws L m (b + 1)) (hm : m ≤ 500) :
    OkS (exSs C rowB [some (.ref j), x1, x2, x3, x4, some (.ref c), some (.tup (w.map .str)), z] h) (fun l h' => l = [some (.ref j), x1, x2, x3, x4, some (.ref c), some (.tup (w.map .str)), z] ∧ Fr [c] h h' ∧ ∃ L', h'[c]? = some (.lst L') ∧ Rws L' (m + 3) (b + 1)) T := by
  unfold rowB
  walk_at "zz"
  refine ⟨rcv_lst ec, ?_⟩
  walk_at "zz"
  refine okO_srcL ej ?_
  have sl : srcLen h (.lst j) = (ls.map PV.str).length := by simp only [srcLen, ej]
  rw [sl]
  refine (ok_lc (ds := ls.map PV.str) (fun i acc h' => h' = h ∧ Rws acc i (b + 1)) (by rw [List.length_map]; omega) ?_ ?_ _ 0 [] h rfl (Nat.zero_le _) (Nat.le_refl _) ⟨rfl, Nat.le_refl _, fun d hd => nomatch hd⟩).mono fun acc h3' ⟨e3, ra⟩ => ?_
  · intro i acc h' ⟨e1, _⟩
    subst e1
    simp only [srcAt, ej]
  · intro i d acc h' hd ⟨e1, ra⟩
    subst e1
    obtain ⟨s, hs, rfl⟩ := List.mem_map.mp (List.mem_of_getElem? hd)
    dsimp only [wipeP, List.set]
    walk_at "zz"
    refine ⟨fun z => (nomatch z), fun _ => ?_⟩
    walk_at "zz"
    refine okP_tcat (by rw [List.length_map]; simp; omega) ?_
    refine ⟨rfl, ra.app (n := 1) ⟨Nat.le_refl _, fun d hd => ?_⟩⟩
    rw [List.mem_singleton.mp hd]
    refine ⟨w ++ [s], by simp, ?_, by rw [List.length_append]; simp; omega⟩
    intro t ht
    rcases List.mem_append.mp ht with ht | ht
    · exact hw t ht
    · rw [List.mem_singleton.mp ht]; exact hl s hs
  subst e3
  rw [List.length_map] at ra
  have lc := lt_of_get ec
  have l1 := r.1
  have l2 := ra.1
  walk_at "zz"
  refine okP_ext ((Fr.app (S := []) _).get0 ec) get_new (by omega) (by omega) ?_
  walk_at "zz"
  refine ⟨rfl, (Fr.app _).trans (.set List.mem_cons_self), _, get_self ((Fr.app (S := []) _).get0 ec), (r.app ra).up (by omega) (Nat.le_refl _)⟩
def rowsB : Sxs := (.cons (.asg (.nm 5) (.lst .nil))
  (.cons (.for_ (.nm 6) (.val (.loc 4)) rowB)
  (.cons (.asg (.tp (.cons (.nm 3) (.cons (.nm 4) .nil))) (.tup (.cons (.bin .add (.loc 3) (.loc 5)) (.cons (.loc 5) .nil))))
  .nil)))
theorem ok_rowsB {C : Orc} {h : PHeap} {j a b : Nat} {ls : List Str} {x1 x2 x5 x6 x7 : Option PV} {A B : List PV} {m n q : Nat} {T : PV → PHeap → Prop}
    (hl : ∀ s ∈ ls, s ∈ lab4) (h3 : ls.length ≤ 3) (ej : h[j]? = some (.lst (ls.map .str))) (ea : h[a]? = some (.lst A)) (eb : h[b]? = some (.lst B)) (ra : Rws A m q) (rb : Rws B n q) (hq : q < 100) (hm : m ≤ 100) (hn : n ≤ 100) :
    OkS (exSs C rowsB [some (.ref j), x1, x2, some (.ref a), some (.ref b), x5, x6, x7] h) (fun l h' => Fr [] h h' ∧ ∃ a' b' A' B' x5 x6 x7, l = [some (.ref j), x1, x2, some (.ref a'), some (.ref b'), x5, x6, x7] ∧ h'[a']? = some (.lst A') ∧ h'[b']? = some (.lst B') ∧ Rws A' (m + 3 * n) (q + 1) ∧ Rws B' (3 * n) (q + 1)) T := by
  unfold rowsB
  walk_at "zz"
  have lb := lt_of_get eb
  have la := lt_of_get ea
  have lj := lt_of_get ej
  refine okO_srcL ((Fr.app (S := []) _).get0 eb) ?_
  have sl : srcLen (h ++ [.lst []]) (.lst b) = B.length := by simp only [srcLen, (Fr.app (S := []) [PObj.lst []]).get0 eb]
  rw [sl]
  have lB := rb.1
  refine ok_for (ds := B) (fun i l h' => (∃ z6, l = [some (.ref j), x1, x2, some (.ref a), some (.ref b), some (.ref h.length), z6, x7]) ∧ Fr [] h h' ∧ ∃ L, h'[h.length]? = some (.lst L) ∧ Rws L (3 * i) (q + 1)) ?_ ?_ ?_ _ 0 _ _ rfl (Nat.zero_le _) ⟨⟨_, rfl⟩, .app _, [], get_new, Nat.le_refl _, fun d hd => nomatch hd⟩
  · intro i l h' ⟨_, f, _⟩
    simp only [srcAt, f.get0 eb]
  · intro i d l h' hd ⟨⟨z6, el⟩, f, L, eL, rL⟩
    subst el
    have hi : i < B.length := (List.getElem?_eq_some_iff.mp hd).1
    obtain ⟨w, rfl, w1, w2⟩ := rb.2 d (List.mem_of_getElem? hd)
    walk_at "z1"
    refine (ok_rowB w1 w2 hq hl h3 (f.get0 ej) eL rL (by omega)).mono (fun l2 h2 ⟨e2, f2, L', eL', rL'⟩ => ?_) fun _ _ k => k
    refine ⟨⟨_, e2⟩, ?_, L', eL', rL'⟩
    exact ((f.mono (S' := [h.length]) (by simp)).trans f2).drop fun z hz => .inl (by rw [List.mem_singleton.mp hz]; exact Nat.le_refl _)
  · intro l h' ⟨⟨z6, el⟩, f, L, eL, rL⟩
    subst el
    have l1 := ra.1
    have l2 := rL.1
    walk_at "zz"
    refine okP_cat (f.get0 ea) eL (by omega) ?_
    walk_at "zz"
    refine ⟨f.trans (.app _), _, _, _, _, _, _, _, rfl, get_new, (Fr.app (S := []) _).get0 eL, ?_, ?_⟩
    · exact ((ra.up (Nat.le_refl _) (by omega)).app rL).up (by omega) (Nat.le_refl _)
    · exact rL.up (by omega) (Nat.le_refl _)
theorem ok_rows {N j : Nat} {h : PHeap} {ls : List Str} (hl : ∀ s ∈ ls, s ∈ lab4) (h3 : ls.length ≤ 3) (ej : h[j]? = some (.lst (ls.map .str))) :
    Ok (cl (N + 1) 20 [.ref j, .int 3] h) fun d h' => Fr [] h h' ∧ ∃ k A, d = .ref k ∧ h'[k]? = some (.lst A) ∧ Rws A 40 3 := by
  refine (f_call t_rows rfl).mpr ?_
  (unfold f_law_rows; dsimp only [List.map, List.append, HAppend.hAppend, Append.append, List.replicate, Nat.reduceSub])
  walk_at "zy"
  refine ⟨3, rfl, by decide, by decide, ?_⟩
  have r0 : Rws [PV.tup []] 1 0 := ⟨Nat.le_refl _, fun d hd => ⟨[], by rw [List.mem_singleton.mp hd]; rfl, fun s hs => (nomatch hs), Nat.le_refl _⟩⟩
  have f0 : Fr [] h (h ++ [.lst [.tup []]] ++ [.lst [.tup []]]) := (Fr.app _).trans (.app _)
  refine for_step (n := 3) (show srcAt _ _ _ = some (some (PV.int 0)) from rfl) ?_
  walk_at "z1"
  refine (ok_rowsB hl h3 (f0.get0 ej) ((Fr.app (S := []) _).get0 get_new) get_new r0 r0 (by decide) (by decide) (by decide)).mono (fun l1 h1 ⟨f1, a1, b1, A1, B1, y5, y6, y7, el, ea, eb, ra, rb⟩ => ?_) fun _ _ k => k
  subst el
  refine for_step (n := 2) (show srcAt _ _ _ = some (some (PV.int 1)) from rfl) ?_
  walk_at "z1"
  have f01 := f0.trans f1
  refine (ok_rowsB hl h3 (f01.get0 ej) ea eb ra rb (by decide) (by decide) (by decide)).mono (fun l1 h2 ⟨f2, a2, b2, A2, B2, y5, y6, y7, el, ea, eb, ra, rb⟩ => ?_) fun _ _ k => k
  subst el
  refine for_step (n := 1) (show srcAt _ _ _ = some (some (PV.int 2)) from rfl) ?_
  walk_at "z1"
  have f02 := f01.trans f2
  refine (ok_rowsB hl h3 (f02.get0 ej) ea eb ra rb (by decide) (by decide) (by decide)).mono (fun l1 h3 ⟨f3, a3, b3, A3, B3, y5, y6, y7, el, ea, eb, ra, rb⟩ => ?_) fun _ _ k => k
  subst el
  refine for_end (n := 0) (show srcAt _ _ _ = some none from rfl) ?_
  walk_at "zz"
  exact ⟨f02.trans f3, _, _, rfl, ea, ra⟩
end Law
end Zed
end
section
set_option Elab.async false
set_option linter.all false
set_option maxRecDepth 100000
set_option maxHeartbeats 1000000
set_option exponentiation.threshold 10000
namespace Zed
namespace Law
open PySem L2
theorem t_right : TB 23 = some f_law_right := rfl
theorem atI_neg1 {ds : List PV} (h : ds ≠ []) : ∃ d, atI ds (-1) = some d ∧ d ∈ ds := by
  have hl : 0 < ds.length := List.length_pos_iff.mpr h
  have q : ((-1 : Int) + (ds.length : Nat)).toNat < ds.length := by omega
  refine ⟨ds[((-1 : Int) + (ds.length : Nat)).toNat], ?_, List.getElem_mem q⟩
  unfold atI ixN
  rw [if_neg (by decide), if_pos (by omega)]
  exact List.getElem?_eq_getElem q
theorem okO_getN {h : PHeap} {k : Nat} {ds : List PV} {Q : PV → Prop} (e : h[k]? = some (.lst ds)) (h0 : ds ≠ []) (q : ∀ d ∈ ds, Q d) : OkO (getF (.ref k) (.int (-1)) h) Q := by
  obtain ⟨d, d1, d2⟩ := atI_neg1 h0
  exact okO_get e d1 (q d d2)
def pairB : Sxs := (.cons (.iff (.cmp .ne (.blt .repr (.cons (.call 21 (.cons (.loc 7) (.cons (.loc 4) .nil))) .nil)) (.blt .repr (.cons (.call 16 (.cons (.loc 7) (.cons (.loc 4) .nil))) .nil)))
  (.cons (.ret (.con (.bl false)))
  .nil)
  .nil)
  .nil)
theorem ok_pair {n : Nat} {h : PHeap} {p : E} {w : List Str} {x0 x1 x2 x3 x5 x6 x8 : Option PV} {T : PV → PHeap → Prop} (x : Ex9 p) (hw : Way w) :
    OkS (exSs ⟨cl (n + 12), CT⟩ pairB [x0, x1, x2, x3, some (.tup (w.map .str)), x5, x6, some (pv p), x8] h) (fun l h' => l = [x0, x1, x2, x3, some (.tup (w.map .str)), x5, x6, some (pv p), x8] ∧ Fr [] h h') T := by
  unfold pairB
  have hd5 := x.dp
  walk_at "zz"
  refine (ok_holds (N := n + 12) x hw (by omega)).mono fun d h1 ⟨e1, f1⟩ => ?_
  subst e1
  walk_at "zz"
  refine ((ok_lholds p).at (N := n + 12) x.ok hw (by omega)).mono fun d h2 ⟨e2, f2⟩ => ?_
  subst e2
  cases sem p w with
  | true => walk_at "zz"; exact ⟨rfl, f1.trans f2⟩
  | false => walk_at "zz"; exact ⟨rfl, f1.trans f2⟩
def wayB : Sxs := (.cons (.for_ (.nm 7) (.val (.lst (.cons (.loc 5) (.cons (.sub (.loc 1) (.neg (.con (.int 1)))) (.cons (.sub (.loc 1) (.call 13 (.cons (.loc 0) (.cons (.blt .len (.cons (.loc 1) .nil)) .nil)))) .nil)))))
  pairB)
  .nil)
theorem ok_way {n i k : Nat} {B : Int} {h : PHeap} {e : E} {w : List Str} {x2 x3 x6 x7 x8 : Option PV} {T : PV → PHeap → Prop} (x : Ex9 e) (hw : Way w) (d : Dice h i B) (ek : h[k]? = some (.lst ((pre e).map pv))) (ne : k ≠ i) (hB : B < 2 ^ 100) :
    OkS (exSs ⟨cl (n + 12), CT⟩ wayB [some (.ref i), some (.ref k), x2, x3, some (.tup (w.map .str)), some (pv e), x6, x7, x8] h) (fun l h' => (∃ z7, l = [some (.ref i), some (.ref k), x2, x3, some (.tup (w.map .str)), some (pv e), x6, z7, x8]) ∧ Fr [i] h h' ∧ Dice h' i (B + 1)) T := by
  unfold wayB
  have pl := pre_len e
  have hz9 := x.sz
  have pn : (pre e).map pv ≠ [] := by cases e <;> simp [pre]
  have px : ∀ d ∈ (pre e).map pv, ∃ p, d = pv p ∧ Ex9 p := by
    intro d hd
    obtain ⟨p, hp, rfl⟩ := List.mem_map.mp hd
    exact ⟨p, rfl, ex_post e x p ((pre_post e p).mp hp)⟩
  walk_at "zz"
  refine x_negc ?_
  refine okO_getN ek pn fun d1 m1 => ?_
  obtain ⟨p1, rfl, x1⟩ := px d1 m1
  walk_at "zz"
  refine okP_len ek ?_
  walk_at "zz"
  have lp : 0 < ((pre e).map pv).length := List.length_pos_iff.mpr pn
  have lp9 : ((pre e).map pv).length ≤ 9 := by rw [List.length_map]; omega
  refine (ok_roll d (by omega) hB (by omega)).mono fun y h1 ⟨r, er, r0, r1, f1, d1⟩ => ?_
  subst er
  obtain ⟨d2, g2, m2, _⟩ := atI_mem r0 r1
  obtain ⟨p2, rfl, x2⟩ := px d2 m2
  refine okO_get (f1.get ek (by simpa using ne)) g2 ?_
  walk_at "zz"
  refine okO_srcL get_new ?_
  have sl : srcLen (h1 ++ [PObj.lst [pv e, pv p1, pv p2]]) (.lst h1.length) = 3 := by simp only [srcLen, get_new]; rfl
  rw [sl]
  have f2 : Fr [] h1 (h1 ++ [PObj.lst [pv e, pv p1, pv p2]]) := .app _
  refine for_step (n := 3) (d := pv e) (by simp only [srcAt, get_new]; rfl) ?_
  walk_at "z1"
  refine (ok_pair x hw).mono (fun l2 h2 ⟨el, f3⟩ => ?_) fun _ _ k => k
  subst el
  refine for_step (n := 2) (d := pv p1) (by simp only [srcAt, f3.get0 get_new]; rfl) ?_
  walk_at "z1"
  refine (ok_pair x1 hw).mono (fun l2 h3 ⟨el, f4⟩ => ?_) fun _ _ k => k
  subst el
  refine for_step (n := 1) (d := pv p2) (by simp only [srcAt, (f3.trans f4).get0 get_new]; rfl) ?_
  walk_at "z1"
  refine (ok_pair x2 hw).mono (fun l2 h4 ⟨el, f5⟩ => ?_) fun _ _ k => k
  subst el
  refine for_end (n := 0) (by simp only [srcAt, ((f3.trans f4).trans f5).get0 get_new]; rfl) ?_
  walk_at "zz"
  have f6 := (((f2.trans f3).trans f4).trans f5)
  exact ⟨⟨_, rfl⟩, f1.trans (f6.mono (by simp)), d1.fr f6 List.not_mem_nil⟩
/-- ways, at most m -/
def Wys (ds : List PV) (m : Nat) : Prop := ds.length ≤ m ∧ ∀ d ∈ ds, ∃ w : List Str, d = .tup (w.map .str) ∧ Way w
theorem Wys.add {ds : List PV} {m : Nat} {w : List Str} (a : Wys ds m) (hw : Way w) : Wys (ds ++ [.tup (w.map .str)]) (m + 1) :=
  ⟨by rw [List.length_append]; exact Nat.add_le_add a.1 (Nat.le_refl _), fun d hd => (List.mem_append.mp hd).elim (a.2 d) fun z => ⟨w, List.mem_singleton.mp z, hw⟩⟩
def addB : Sxs := (.cons (.ex (.meth .append (.loc 2) (.cons (.blt .tuple (.cons (.lc (.call 14 (.cons (.loc 0) (.cons (.loc 6) .nil))) (.nm 8) (.rng1 (.bin .add (.con (.int 4)) (.call 13 (.cons (.loc 0) (.cons (.con (.int 4)) .nil))))) .no [8]) .nil)) .nil)))
  .nil)
theorem ok_addB {n i j k : Nat} {B : Int} {h : PHeap} {ls : List Str} {W : List PV} {m : Nat} {x1 x3 x4 x5 x7 x8 : Option PV} {T : PV → PHeap → Prop} (hl : ∀ s ∈ ls, s ∈ lab4) (h0 : ls ≠ []) (h3 : ls.length ≤ 3) (d : Dice h i B) (ej : h[j]? = some (.lst (ls.map .str))) (ek : h[k]? = some (.lst W)) (rW : Wys W m) (hm : m ≤ 100) (n1 : j ≠ i) (n2 : k ≠ i) (n3 : k ≠ j) (hB : B + 10 < 2 ^ 100) :
    OkS (exSs ⟨cl (n + 12), CT⟩ addB [some (.ref i), x1, some (.ref k), x3, x4, x5, some (.ref j), x7, x8] h) (fun l h' => l = [some (.ref i), x1, some (.ref k), x3, x4, x5, some (.ref j), x7, x8] ∧ Fr [i, k] h h' ∧ Dice h' i (B + 8) ∧ ∃ W', h'[k]? = some (.lst W') ∧ Wys W' (m + 1)) T := by
  unfold addB
  walk_at "zz"
  refine ⟨rcv_lst ek, ?_⟩
  walk_at "zy"
  refine (ok_roll d (by decide) (by omega) (by decide)).mono fun y h1 ⟨r, er, r0, r1, f1, d1⟩ => ?_
  subst er
  walk_at "zz"
  refine ⟨_, rfl, by omega, by omega, ?_⟩
  obtain ⟨q, hq⟩ : ∃ q : Nat, (4 + r).toNat = q := ⟨_, rfl⟩
  rw [hq]
  have q4 : 4 ≤ q := by omega
  have q7 : q ≤ 7 := by omega
  refine (ok_lc (ds := (List.range q).map fun (i : Nat) => PV.int (0 + i)) (fun t acc h' => Fr [i] h1 h' ∧ Dice h' i (B + 1 + t) ∧ ∃ w : List Str, acc = w.map .str ∧ w.length = t ∧ ∀ s ∈ w, s ∈ lab4) (by simp; omega) ?_ ?_ _ 0 [] h1 (by simp [srcLen]) (Nat.zero_le _) (Nat.le_refl _) ⟨.refl, d1.up (by omega), [], rfl, rfl, fun s hs => nomatch hs⟩).mono fun acc h2 ⟨f2, d2, w, ea, wl, wm⟩ => ?_
  · intro t acc h' _
    rfl
  · intro t dd acc h' hd ⟨f2, d2, w, ea, wl, wm⟩
    subst ea
    have ht : t < q := by
      have := (List.getElem?_eq_some_iff.mp hd).1
      simpa using this
    dsimp only [wipeP, List.set]
    walk_at "zz"
    refine ⟨fun z => (nomatch z), fun _ => ?_⟩
    walk_at "zz"
    refine (ok_one_of (n := n + 10) d2 ((f1.trans f2).get ej (by simpa using n1)) n1 (by simpa using h0) (by rw [List.length_map]; omega) (by omega)).mono fun y h3 ⟨my, f3, d3⟩ => ?_
    obtain ⟨s, hs, rfl⟩ := List.mem_map.mp my
    refine ⟨f2.trans f3, d3.up (by omega), w ++ [s], by simp, by rw [List.length_append, wl]; rfl, ?_⟩
    intro u hu
    rcases List.mem_append.mp hu with hu | hu
    · exact wm u hu
    · rw [List.mem_singleton.mp hu]; exact hl s hs
  subst ea
  rw [List.length_map, List.length_range] at wl d2
  walk_at "zz"
  refine okP_tuple get_new ?_
  walk_at "zz"
  have lW := rW.1
  have f12 := (f1.trans f2)
  have ek2 := f12.get ek (by simpa using n2)
  have ek3 := (Fr.app (S := []) [PObj.lst (w.map PV.str)]).get0 ek2
  refine okP_app ek3 (by omega) ?_
  walk_at "zz"
  refine ⟨rfl, ?_, ?_, _, get_self ek3, rW.add ⟨wm, ?_, by omega⟩⟩
  · exact ((f12.mono (by simp)).trans (.app _)).trans (.set (by simp))
  · exact ((d2.up (by omega)).fr (.app (S := []) _) List.not_mem_nil).fr (.set (S := [k]) List.mem_cons_self) (by simpa using n2.symm)
  · intro z
    rw [z] at wl
    simp at wl; omega
end Law
end Zed
end
section
set_option Elab.async false
set_option linter.all false
set_option maxRecDepth 100000
set_option maxHeartbeats 1000000
set_option exponentiation.threshold 10000
namespace Zed
namespace Law
open PySem L2
theorem eq_way {h : PHeap} {u v : List Str} (hu : ∀ s ∈ u, s ∈ lab4) (hv : ∀ s ∈ v, s ∈ lab4) : eqF h (.tup (u.map PV.str)) (.tup (v.map PV.str)) = some (PyData.eqv (.tuple (u.map PyData.str)) (.tuple (v.map PyData.str))) := by
  unfold eqF
  rw [toD_way, toD_way]
  exact if_pos ⟨shaped_way hu, shaped_way hv⟩
theorem eqv_way {u : List Str} (hu : ∀ s ∈ u, s ∈ lab4) : PyData.eqv (.tuple (u.map PyData.str)) (.tuple (u.map PyData.str)) = true := by
  refine SeqAt.eqv_refl _ ?_
  simp only [PyData.canLay0]
  exact lay_strs u fun s hs => lab_ok (hu s hs)
theorem ne_unit {h : PHeap} {u : List Str} (hu : ∀ s ∈ u, s ∈ lab4) : cmpB .ne h (.tup (u.map PV.str)) (.tup []) = some (!u.isEmpty) := by
  show (eqF h (.tup (u.map PV.str)) (.tup (List.map PV.str []))).map (!·) = _
  rw [eq_way hu (v := []) (fun s hs => absurd hs List.not_mem_nil)]
  cases u <;> rfl
theorem labs_mem {es : List E} {s : Str} : s ∈ labs es ↔ .label s ∈ es := by
  unfold labs
  rw [List.mem_filterMap]
  constructor
  · rintro ⟨e, m, h⟩
    cases e <;> simp [lab1] at h
    subst h; exact m
  · intro m
    exact ⟨_, m, rfl⟩
def labB : Ex := .lc (.sub (.loc 7) (.con (.int 1))) (.nm 7) (.val (.loc 1)) (.yes (.cmp .eq (.sub (.loc 7) (.con (.int 0))) (.con (.str "label")))) [7]
theorem ok_labB {C : Orc} {h : PHeap} {k : Nat} {ps : List E} {x0 x2 x3 x4 x5 x6 x7 x8 : Option PV} {Q : PV → PHeap → Prop} (g2 : h[k]? = some (.lst (ps.map pv))) (hp : ps.length ≤ 100) (q : Q (.ref h.length) (h ++ [.lst ((labs ps).map PV.str)])) :
    Ok (evE C labB [x0, some (.ref k), x2, x3, x4, x5, x6, x7, x8] h) Q := by
  unfold labB
  walk_at "zz"
  refine okO_srcL g2 ?_
  have sl : srcLen h (.lst k) = (ps.map pv).length := by simp only [srcLen, g2]
  rw [sl]
  refine (ok_lc (ds := ps.map pv) (fun i acc h' => h' = h ∧ acc = (labs (ps.take i)).map PV.str) (by rw [List.length_map]; omega) ?_ ?_ _ 0 [] h rfl (Nat.zero_le _) (Nat.le_refl _) ⟨rfl, rfl⟩).mono fun acc h3 ⟨e3, ea⟩ => ?_
  · intro i acc h' ⟨e1, _⟩
    subst e1
    simp only [srcAt, g2]
  · intro i d acc h' hd' ⟨e1, ea⟩
    subst e1
    subst ea
    rw [List.getElem?_map] at hd'
    cases hp : ps[i]? with
    | none => rw [hp] at hd'; cases hd'
    | some p =>
      rw [hp] at hd'
      cases hd'
      have tk : ps.take (i + 1) = ps.take i ++ [p] := by rw [List.take_succ, hp]; rfl
      have lt : labs (ps.take (i + 1)) = labs (ps.take i) ++ labs [p] := by rw [tk]; unfold labs; rw [List.filterMap_append]
      rw [lt]
      dsimp only [wipeP, List.set]
      cases p with
      | label s =>
        walk_at "zz"
        refine ⟨fun z => absurd z (by decide +kernel), fun _ => ?_⟩
        walk_at "zz"
        exact ⟨rfl, by simp [labs, lab1]⟩
      | root => walk_at "zz"; exact ⟨fun _ => ⟨rfl, by simp [labs, lab1]⟩, fun z => absurd z (by decide +kernel)⟩
      | level r m => walk_at "zz"; exact ⟨fun _ => ⟨rfl, by simp [labs, lab1]⟩, fun z => absurd z (by decide +kernel)⟩
      | parent a => walk_at "zz"; exact ⟨fun _ => ⟨rfl, by simp [labs, lab1]⟩, fun z => absurd z (by decide +kernel)⟩
      | above a => walk_at "zz"; exact ⟨fun _ => ⟨rfl, by simp [labs, lab1]⟩, fun z => absurd z (by decide +kernel)⟩
      | neg a => walk_at "zz"; exact ⟨fun _ => ⟨rfl, by simp [labs, lab1]⟩, fun z => absurd z (by decide +kernel)⟩
      | conj a b => walk_at "zz"; exact ⟨fun _ => ⟨rfl, by simp [labs, lab1]⟩, fun z => absurd z (by decide +kernel)⟩
      | disj a b => walk_at "zz"; exact ⟨fun _ => ⟨rfl, by simp [labs, lab1]⟩, fun z => absurd z (by decide +kernel)⟩
  subst e3
  rw [List.length_map, List.take_length] at ea
  subst ea
  exact q
/-- behind the labels: the ways, and what holds at them -/
def restB : Sxs := (.cons (.asg (.nm 2) (.lc (.loc 4) (.nm 4) (.val (.call 20 (.cons (.loc 6) (.cons (.con (.int 3)) .nil)))) (.yes (.cmp .ne (.loc 4) (.tup .nil))) [4]))
  (.cons (.for_ (.nm 3) (.rng1 (.con (.int 3))) addB)
  (.cons (.for_ (.nm 4) (.val (.loc 2)) wayB)
  (.cons (.ret (.con (.bl true)))
  .nil))))
theorem ok_restB {n i j k : Nat} {B : Int} {h : PHeap} {e : E} {ls : List Str} {x2 x3 x4 x7 x8 : Option PV} {N : Loc → PHeap → Prop} (x : Ex9 e) (hl : ∀ s ∈ ls, s ∈ lab4) (h0 : ls ≠ []) (h3 : ls.length ≤ 3) (d : Dice h i B) (ej : h[j]? = some (.lst (ls.map .str))) (ek : h[k]? = some (.lst ((pre e).map pv))) (n1 : j ≠ i) (n2 : k ≠ i) (hB : B + 100 < 2 ^ 100) :
    OkS (exSs ⟨cl (n + 12), CT⟩ restB [some (.ref i), some (.ref k), x2, x3, x4, some (pv e), some (.ref j), x7, x8] h) N (fun v h' => v = .bl true ∧ Fr [i] h h' ∧ Dice h' i (B + 67)) := by
  unfold restB
  walk_at "zz"
  refine (ok_rows (N := n + 11) hl h3 ej).mono fun v h1 ⟨f1, ka, A, ev, ea, ra⟩ => ?_
  subst ev
  walk_at "zz"
  refine okO_srcL ea ?_
  have sl : srcLen h1 (.lst ka) = A.length := by simp only [srcLen, ea]
  rw [sl]
  have lA := ra.1
  refine (ok_lc (ds := A) (fun i acc h' => h' = h1 ∧ Wys acc i) (by omega) ?_ ?_ _ 0 [] h1 rfl (Nat.zero_le _) (Nat.le_refl _) ⟨rfl, Nat.le_refl _, fun d hd => nomatch hd⟩).mono fun acc h2 ⟨e2, rw_⟩ => ?_
  · intro t acc h' ⟨e1, _⟩
    subst e1
    simp only [srcAt, ea]
  · intro t dd acc h' hd ⟨e1, rw_⟩
    subst e1
    obtain ⟨w, rfl, w1, w2⟩ := ra.2 dd (List.mem_of_getElem? hd)
    dsimp only [wipeP, List.set]
    walk_at "zz"
    refine okO_of (ne_unit w1) ?_
    walk_at "zz"
    refine ⟨fun _ => ⟨rfl, Nat.le_succ_of_le rw_.1, rw_.2⟩, fun z => ?_⟩
    walk_at "zz"
    refine ⟨rfl, rw_.add ⟨w1, ?_, by omega⟩⟩
    intro zn
    subst zn
    exact absurd z (by decide)
  subst e2
  walk_at "zz"
  have li := d.lt
  have lh1 := f1.len
  have lj := lt_of_get ej
  have lk := lt_of_get ek
  refine x_rng1 ?_
  walk_at "zz"
  refine ⟨3, rfl, by decide, by decide, ?_⟩
  have f2 : Fr [] h (h2 ++ [PObj.lst acc]) := f1.trans (.app _)
  refine for_step (n := 3) (show srcAt _ _ _ = some (some (PV.int 0)) from rfl) ?_
  walk_at "z1"
  refine (ok_addB hl h0 h3 (d.fr f2 List.not_mem_nil) (f2.get0 ej) get_new rw_ (by omega) n1 (by omega) (by omega) (by omega)).mono (fun l1 h3x ⟨el, f3, d3, W3, g3, r3⟩ => ?_) fun _ _ k => k
  subst el
  refine for_step (n := 2) (show srcAt _ _ _ = some (some (PV.int 1)) from rfl) ?_
  walk_at "z1"
  have nj : j ∉ [i, h2.length] := by simp; omega
  have nk : k ∉ [i, h2.length] := by simp; omega
  refine (ok_addB hl h0 h3 d3 (f3.get (f2.get0 ej) nj) g3 r3 (by omega) n1 (by omega) (by omega) (by omega)).mono (fun l1 h4 ⟨el, f4, d4, W4, g4, r4⟩ => ?_) fun _ _ k => k
  subst el
  refine for_step (n := 1) (show srcAt _ _ _ = some (some (PV.int 2)) from rfl) ?_
  walk_at "z1"
  refine (ok_addB hl h0 h3 d4 ((f3.trans f4).get (f2.get0 ej) nj) g4 r4 (by omega) n1 (by omega) (by omega) (by omega)).mono (fun l1 h5 ⟨el, f5, d5, W5, g5, r5⟩ => ?_) fun _ _ k => k
  subst el
  refine for_end (n := 0) (show srcAt _ _ _ = some none from rfl) ?_
  walk_at "zz"
  have f35 := (f3.trans f4).trans f5
  have ek5 := f35.get (f2.get0 ek) nk
  refine okO_srcL g5 ?_
  have sl : srcLen h5 (.lst h2.length) = W5.length := by simp only [srcLen, g5]
  rw [sl]
  have lW := r5.1
  have fe : Fr [i] h h5 := ((f2.mono (S' := [i, h2.length]) (by simp)).trans f35).drop fun z hz => by
    simp only [List.mem_cons, List.not_mem_nil, or_false] at hz
    rcases hz with rfl | rfl
    · exact .inr List.mem_cons_self
    · exact .inl lh1
  refine ok_for (ds := W5) (fun t l h' => (∃ z4 z7, l = [some (.ref i), some (.ref k), some (.ref h2.length), some (.int 2), z4, some (pv e), some (.ref j), z7, x8]) ∧ Fr [i] h5 h' ∧ Dice h' i (B + 24 + t)) ?_ ?_ ?_ _ 0 _ _ rfl (Nat.zero_le _) ⟨⟨_, _, rfl⟩, .refl, d5.up (by omega)⟩
  · intro t l h' ⟨_, f, _⟩
    simp only [srcAt, f.get g5 (by simp; omega)]
  · intro t dd l h' hd ⟨⟨z4, z7, el⟩, f, d6⟩
    subst el
    have ht : t < W5.length := (List.getElem?_eq_some_iff.mp hd).1
    obtain ⟨w, rfl, hw⟩ := r5.2 dd (List.mem_of_getElem? hd)
    walk_at "z1"
    refine (ok_way x hw d6 (f.get ek5 (by simp; omega)) n2 (by omega)).mono (fun l2 h7 ⟨⟨z7', el⟩, f7, d7⟩ => ?_) fun _ _ k => k
    exact ⟨⟨_, _, el⟩, f.trans f7, d7.up (by omega)⟩
  · intro l h' ⟨⟨z4, z7, el⟩, f, d6⟩
    subst el
    walk_at "zz"
    exact ⟨rfl, fe.trans f, d6.up (by omega)⟩
end Law
end Zed
end
section
set_option Elab.async false
set_option linter.all false
set_option maxRecDepth 100000
set_option maxHeartbeats 1000000
set_option exponentiation.threshold 10000
namespace Zed
namespace Law
open PySem L2
theorem f_right_eq : f_law_right.body = (.cons (.asg (.tp (.cons (.nm 5) (.cons (.nm 6) .nil))) (.tup (.cons (.call 15 (.cons (.loc 0) (.cons (.con (.int 5)) (.cons (.lst (.cons (.con (.int 9)) .nil)) .nil)))) (.cons (.sub (.lst (.cons (.lst (.cons (.con (.str "a")) (.cons (.con (.str "b")) .nil))) (.cons (.lst (.cons (.con (.str "a")) (.cons (.con (.str "node")) (.cons (.con (.str "zz")) .nil)))) (.cons (.lst (.cons (.con (.str "b")) .nil)) .nil)))) (.call 13 (.cons (.loc 0) (.cons (.con (.int 3)) .nil)))) .nil))))
  (.cons (.asg (.nm 1) (.call 17 (.cons (.loc 5) .nil)))
  (.cons (.iff (.or (.cmp .isnot (.call 8 (.cons (.loc 5) .nil)) (.con (.bl true))) (.cmp .ne (.call 18 (.cons (.loc 5) .nil)) (.blt .len (.cons (.loc 1) .nil))))
  (.cons (.ret (.con (.bl false)))
  .nil)
  .nil)
  (.cons (.iff (.cmp .ne (.call 19 (.cons (.loc 5) .nil)) (.blt .tuple (.cons (.blt .sorted (.cons (.blt .set (.cons labB .nil)) .nil)) .nil)))
  (.cons (.ret (.con (.bl false)))
  .nil)
  .nil)
  restB)))) := rfl
theorem ok_right {n i : Nat} {B : Int} {h : PHeap} (d : Dice h i B) (hB : B + 1000 < 2 ^ 100) : Ok (cl (n + 13) 23 [.ref i] h) fun v h' => v = .bl true ∧ Fr [i] h h' ∧ Dice h' i (B + 500) := by
  refine (f_call t_right rfl).mpr ?_
  rw [f_right_eq]
  show OkS (exSs ⟨cl (n + 12), CT⟩ _ [some (.ref i), none, none, none, none, none, none, none, none] h) _ _
  have li := d.lt
  walk_at "zz"
  have d1 := d.fr (.app (S := []) [PObj.lst [PV.int 9]]) List.not_mem_nil
  have ex := ok_expr 4 (n := n + 5) (i := i) (j := h.length) (r := 9) (B := B) (h := h ++ [.lst [.int 9]]) d1 get_new (by omega) (by decide) (by have : K 4 = 372 := by decide
                                                                                                                                                 omega)
  have k4 : K 4 = 372 := by decide
  rw [k4] at ex
  refine ex.mono fun v h1 ⟨e, ev, o1, o2, o3, _, f1, d2⟩ => ?_
  subst ev
  have x : Ex9 e := ⟨o1, by omega, by omega⟩
  have g1 : Fr [i] h h1 := ((Fr.app _).trans f1).drop fun z hz => by
    simp only [List.mem_cons, List.not_mem_nil, or_false] at hz
    rcases hz with rfl | rfl
    · exact .inr List.mem_cons_self
    · exact .inl (Nat.le_refl _)
  have l1 := g1.len
  walk_at "zz"
  generalize hL : h1 ++ [PObj.lst [.str "a", .str "b"]] ++ [PObj.lst [.str "a", .str "node", .str "zz"]] ++ [PObj.lst [.str "b"]] ++ [PObj.lst [.ref h1.length, .ref (h1 ++ [PObj.lst [.str "a", .str "b"]]).length, .ref (h1 ++ [PObj.lst [.str "a", .str "b"]] ++ [PObj.lst [.str "a", .str "node", .str "zz"]]).length]] = h2
  have f2 : Fr [] h1 h2 := by rw [← hL]; exact (((Fr.app _).trans (.app _)).trans (.app _)).trans (.app _)
  have q0 : h2[h1.length]? = some (.lst [.str "a", .str "b"]) := by
    rw [← hL]; exact (((Fr.app (S := []) _).trans (.app _)).trans (.app _)).get0 get_new
  have q1 : h2[(h1 ++ [PObj.lst [.str "a", .str "b"]]).length]? = some (.lst [.str "a", .str "node", .str "zz"]) := by
    rw [← hL]; exact ((Fr.app (S := []) _).trans (.app _)).get0 get_new
  have q2 : h2[(h1 ++ [PObj.lst [.str "a", .str "b"]] ++ [PObj.lst [.str "a", .str "node", .str "zz"]]).length]? = some (.lst [.str "b"]) := by
    rw [← hL]; exact (Fr.app (S := []) _).get0 get_new
  have q3 : h2[(h1 ++ [PObj.lst [.str "a", .str "b"]] ++ [PObj.lst [.str "a", .str "node", .str "zz"]] ++ [PObj.lst [.str "b"]]).length]? = some (.lst [.ref h1.length, .ref (h1 ++ [PObj.lst [.str "a", .str "b"]]).length, .ref (h1 ++ [PObj.lst [.str "a", .str "b"]] ++ [PObj.lst [.str "a", .str "node", .str "zz"]]).length]) := by
    rw [← hL]; exact get_new
  have m2 := d2.fr f2 List.not_mem_nil
  refine (ok_roll m2 (by decide) (by omega) (by decide)).mono fun y h3 ⟨r, er, r0, r1, f3, d3⟩ => ?_
  subst er
  have li2 : i < h1.length := d2.lt
  have l21 := f2.len
  obtain ⟨ls, jl, at1, at2, at3, at4, at5, at6⟩ : ∃ (ls : List Str) (jl : Nat), atI [PV.ref h1.length, PV.ref (h1 ++ [PObj.lst [.str "a", .str "b"]]).length, .ref (h1 ++ [PObj.lst [.str "a", .str "b"]] ++ [PObj.lst [.str "a", .str "node", .str "zz"]]).length] r = some (.ref jl) ∧ h2[jl]? = some (.lst (ls.map PV.str)) ∧ h1.length ≤ jl ∧ (∀ s ∈ ls, s ∈ lab4) ∧ ls ≠ [] ∧ ls.length ≤ 3 := by
    obtain rfl | rfl | rfl : r = 0 ∨ r = 1 ∨ r = 2 := by omega
    · exact ⟨["a", "b"], _, rfl, q0, Nat.le_refl _, by decide, by simp, by decide⟩
    · exact ⟨["a", "node", "zz"], _, rfl, q1, by rw [List.length_append]; omega, by decide, by simp, by decide⟩
    · exact ⟨["b"], _, rfl, q2, by rw [List.length_append, List.length_append]; omega, by decide, by simp, by decide⟩
  refine okO_get (f3.get q3 (by simp only [List.mem_singleton, List.length_append]; omega)) at1 ?_
  have ejl := f3.get at2 (by simp only [List.mem_singleton]; omega)
  walk_at "zz"
  have hd5 := x.dp
  have hz9 := x.sz
  obtain ⟨n', hn'⟩ := lvl (a := dp e + 2) (b := n + 12) (by omega)
  have lp := ok_lparts e (n := n') (h := h3) (by omega)
  rw [Nat.add_assoc, ← hn'] at lp
  refine lp.mono fun v h4 ⟨k, ev, lk, ek, f4⟩ => ?_
  subst ev
  walk_at "zz"
  refine (ok_isx (N := n + 12) x (by omega)).mono fun v h5 ⟨e5, f5⟩ => ?_
  subst e5
  walk_at "zz"
  refine (ok_size (N := n + 12) x (by omega)).mono fun v h6 ⟨e6, f6⟩ => ?_
  subst e6
  walk_at "zz"
  have ek6 := (f5.trans f6).get0 ek
  refine okP_len ek6 ?_
  rw [List.length_map, pre_len]
  refine okO_of (show (eqF h6 (.int (sz e)) (.int (sz e))).map (!·) = some false from ?_) ?_
  · show some (!((sz e : Int) == (sz e : Int))) = _
    simp
  walk_at "zz"
  refine (ok_labels (N := n + 12) x (by omega)).mono fun v h7 ⟨e7, f7⟩ => ?_
  subst e7
  walk_at "zz"
  have pl := pre_len e
  have ek7 := f7.get0 ek6
  refine ok_labB ek7 (by omega) ?_
  have ll := labs_len (pre e)
  walk_at "zz"
  refine okP_set get_new (by omega) ?_
  walk_at "zz"
  refine okP_sortS get_new ?_
  walk_at "zz"
  refine okP_tuple get_new ?_
  have same : sortS (dedS (labs (pre e))) = sortS (dedS (labs (post e))) := sortS_same fun s => by rw [labs_mem, labs_mem, pre_post]
  rw [same]
  have inl : ∀ s ∈ sortS (dedS (labs (post e))), s ∈ lab4 := by
    intro s hs
    have := (sortS_perm _).mem_iff.mp hs
    rw [dedS_mem, labs_mem] at this
    exact (ex_post e x _ this).ok
  refine okO_of (a := false) (show (eqF _ _ _).map (!·) = some false by rw [eq_way inl inl, eqv_way inl]; rfl) ?_
  walk_at "zz"
  generalize hH : h7 ++ [PObj.lst ((labs (pre e)).map PV.str)] ++ [PObj.set ((dedS (labs (pre e))).map PV.str)] ++ [PObj.lst ((sortS (dedS (labs (post e)))).map PV.str)] = h8
  have f78 : Fr [] h7 h8 := by rw [← hH]; exact ((Fr.app _).trans (.app _)).trans (.app _)
  have f38 : Fr [] h3 h8 := (((f4.trans f5).trans f6).trans f7).trans f78
  have f48 : Fr [] h4 h8 := ((f5.trans f6).trans f7).trans f78
  have l3 := f3.len
  refine (ok_restB (n := n) (B := B + 372 + 1) x at4 at5 at6 (d3.fr f38 List.not_mem_nil) (f38.get0 ejl) (f48.get0 ek) (by omega) (by omega) (by omega)).mono (fun _ _ k => k) fun v h9 ⟨e9, f9, d9⟩ => ?_
  exact ⟨e9, (((g1.trans (f2.mono (by simp))).trans f3).trans (f38.mono (by simp))).trans f9, d9.up (by omega)⟩
end Law
end Zed
end
section
set_option Elab.async false
set_option linter.all false
set_option maxRecDepth 100000
set_option maxHeartbeats 1000000
set_option exponentiation.threshold 10000
namespace Zed
namespace Law
open PySem L2
theorem t_law : TB 25 = some f_law := rfl
def cellB : Sxs := (.cons (.asg (.nm 4) (.call 22 (.cons (.loc 0) (.cons (.loc 1) .nil))))
  (.cons (.for_ (.nm 5) (.rng1 (.con (.int 4)))
  (.cons (.iff (.not (.call 23 (.cons (.loc 4) .nil)))
  (.cons (.ret (.con (.bl false)))
  .nil)
  .nil)
  .nil))
  .nil))
def tailB : Sxs := (.cons (.asg (.tp (.cons (.nm 6) (.cons (.nm 7) .nil))) (.tup (.cons (.tup (.cons (.con (.str "above")) (.cons (.tup (.cons (.con (.str "label")) (.cons (.con (.str "b")) .nil))) .nil))) (.cons (.tup (.cons (.con (.str "level")) (.cons (.con (.int 0)) (.cons (.con (.int 3)) .nil)))) .nil))))
  (.cons (.asg (.nm 2) (.tup (.cons (.con (.str "parent")) (.cons (.tup (.cons (.con (.str "parent")) (.cons (.tup (.cons (.con (.str "not")) (.cons (.tup (.cons (.con (.str "above")) (.cons (.tup (.cons (.con (.str "label")) (.cons (.con (.str "a")) .nil))) .nil))) .nil))) .nil))) .nil))))
  (.cons (.asg (.nm 3) (.lst (.cons (.call 21 (.cons (.loc 6) (.cons (.tup (.cons (.con (.str "b")) (.cons (.con (.str "a")) .nil))) .nil))) (.cons (.call 21 (.cons (.loc 6) (.cons (.tup (.cons (.con (.str "a")) (.cons (.con (.str "b")) .nil))) .nil))) (.cons (.call 21 (.cons (.tup (.cons (.con (.str "above")) (.cons (.loc 6) .nil))) (.cons (.tup (.cons (.con (.str "b")) (.cons (.con (.str "a")) .nil))) .nil))) .nil)))))
  (.cons (.ex (.meth .append (.loc 3) (.cons (.call 21 (.cons (.loc 7) (.cons (.bin .mul (.tup (.cons (.con (.str "a")) .nil)) (.con (.int 6))) .nil))) .nil)))
  (.cons (.asg (.nm 3) (.bin .add (.loc 3) (.lst (.cons (.call 21 (.cons (.loc 2) (.cons (.tup (.cons (.con (.str "b")) (.cons (.con (.str "b")) (.cons (.con (.str "b")) (.cons (.con (.str "a")) .nil))))) .nil))) (.cons (.call 21 (.cons (.loc 2) (.cons (.tup (.cons (.con (.str "a")) (.cons (.con (.str "b")) (.cons (.con (.str "b")) (.cons (.con (.str "b")) .nil))))) .nil))) (.cons (.call 21 (.cons (.loc 2) (.cons (.tup (.cons (.con (.str "a")) (.cons (.con (.str "b")) .nil))) .nil))) .nil))))))
  (.cons (.ret (.and (.cmp .eq (.loc 3) (.lst (.cons (.con (.bl true)) (.cons (.con (.bl false)) (.cons (.con (.bl false)) (.cons (.con (.bl true)) (.cons (.con (.bl true)) (.cons (.con (.bl false)) (.cons (.con (.bl false)) .nil))))))))) (.cmp .eq (.call 18 (.cons (.tup (.cons (.con (.str "or")) (.cons (.loc 6) (.cons (.sub (.loc 2) (.con (.int 1))) .nil)))) .nil)) (.con (.int 7)))))
  .nil))))))
theorem f_law_eq : f_law.body = .cons (.for_ (.nm 1) (.rng1 (.blt .max (.cons (.con (.int 1)) (.cons (.blt .min (.cons (.con (.int 8)) (.cons (.blt .len (.cons (.loc 0) .nil)) .nil))) .nil)))) cellB) tailB := rfl
theorem ok_cell {n : Nat} {h : PHeap} {ns : List Int} {a : Int} {x2 x3 x4 x5 x6 x7 : Option PV} {T : PV → PHeap → Prop} (a0 : 0 ≤ a) (a1 : a < 100) :
    OkS (exSs ⟨cl (n + 20), CT⟩ cellB [some (.fl (ns.map .int)), some (.int a), x2, x3, x4, x5, x6, x7] h) (fun l h' => ∃ z4 z5, l = [some (.fl (ns.map .int)), some (.int a), x2, x3, z4, z5, x6, x7]) T := by
  unfold cellB
  walk_at "zy"
  refine (ok_dice (n := n + 19) a0 a1).mono fun v h1 ⟨e1, f1, d1⟩ => ?_
  subst e1
  walk_at "zy"
  refine ⟨4, rfl, by decide, by decide, ?_⟩
  refine ok_for (ds := (List.range 4).map fun (i : Nat) => PV.int (0 + i)) (fun t l h' => (∃ z5, l = [some (.fl (ns.map .int)), some (.int a), x2, x3, some (.ref h.length), z5, x6, x7]) ∧ Dice h' h.length (500 * t)) ?_ ?_ ?_ _ 0 _ _ rfl (Nat.zero_le _) ⟨⟨_, rfl⟩, d1.up (by omega)⟩
  · intro t l h' _
    rfl
  · intro t dd l h' hd ⟨⟨z5, el⟩, d⟩
    subst el
    have ht : t < 4 := by
      have := (List.getElem?_eq_some_iff.mp hd).1
      simpa using this
    walk_at "zz"
    refine (ok_right (n := n + 7) d (by omega)).mono fun v h2 ⟨e2, f2, d2⟩ => ?_
    subst e2
    walk_at "zz"
    exact ⟨⟨_, rfl⟩, d2.up (by omega)⟩
  · intro l h' ⟨⟨z5, el⟩, d⟩
    subst el
    walk_at "zz"
    exact ⟨_, _, rfl⟩
def eSome : E := .above (.label "b")
def eThird : E := .level 0 3
def eDeep : E := .parent (.parent (.neg (.above (.label "a"))))
theorem holds_at {N : Nat} {h : PHeap} {e : E} {w : List Str} {b : Bool} (hN : 10 ≤ N) (x : Ex9 e) (hw : Way w) (hb : sem e w = b) : Ok (cl N 21 [pv e, .tup (w.map PV.str)] h) fun d h' => d = .bl b ∧ Fr [] h h' := by
  subst hb
  exact ok_holds x hw hN
theorem ok_tailB {n : Nat} {h : PHeap} {x0 x1 x2 x3 x4 x5 x6 x7 : Option PV} {N : Loc → PHeap → Prop} :
    OkS (exSs ⟨cl (n + 20), CT⟩ tailB [x0, x1, x2, x3, x4, x5, x6, x7] h) N (fun v h' => v = .bl true) := by
  have xs : Ex9 eSome := ⟨by show _ ∈ lab4; decide, by decide, by decide⟩
  have xs2 : Ex9 (.above eSome) := ⟨by show _ ∈ lab4; decide, by decide, by decide⟩
  have xt : Ex9 eThird := ⟨⟨by decide, by decide, by decide, by decide⟩, by decide, by decide⟩
  have xd : Ex9 eDeep := ⟨by show _ ∈ lab4; decide, by decide, by decide⟩
  unfold tailB
  walk_at "zz"
  refine (holds_at (N := n + 20) (e := eSome) (w := ["b", "a"]) (b := true) (by omega) xs ⟨by decide, by simp, by decide⟩ (by decide +kernel)).mono fun v h1 ⟨e1, f1⟩ => ?_
  subst e1
  walk_at "zz"
  refine (holds_at (N := n + 20) (e := eSome) (w := ["a", "b"]) (b := false) (by omega) xs ⟨by decide, by simp, by decide⟩ (by decide +kernel)).mono fun v h2 ⟨e2, f2⟩ => ?_
  subst e2
  walk_at "zz"
  refine (holds_at (N := n + 20) (e := .above eSome) (w := ["b", "a"]) (b := false) (by omega) xs2 ⟨by decide, by simp, by decide⟩ (by decide +kernel)).mono fun v h3 ⟨e3, f3⟩ => ?_
  subst e3
  walk_at "zz"
  refine ⟨rcv_lst get_new, ?_⟩
  walk_at "zz"
  refine (holds_at (N := n + 20) (e := eThird) (w := ["a", "a", "a", "a", "a", "a"]) (b := true) (by omega) xt ⟨by decide, by simp, by decide⟩ (by decide +kernel)).mono fun v h4 ⟨e4, f4⟩ => ?_
  subst e4
  walk_at "zz"
  have g4 := f4.get0 get_new
  refine okP_app g4 (Nat.le_of_ble_eq_true rfl) ?_
  have g5 := get_self (o' := .lst ([PV.bl true, PV.bl false, PV.bl false] ++ [PV.bl true])) g4
  walk_at "zz"
  refine (holds_at (N := n + 20) (e := eDeep) (w := ["b", "b", "b", "a"]) (b := true) (by omega) xd ⟨by decide, by simp, by decide⟩ (by decide +kernel)).mono fun v h6 ⟨e6, f6⟩ => ?_
  subst e6
  walk_at "zz"
  refine (holds_at (N := n + 20) (e := eDeep) (w := ["a", "b", "b", "b"]) (b := false) (by omega) xd ⟨by decide, by simp, by decide⟩ (by decide +kernel)).mono fun v h7 ⟨e7, f7⟩ => ?_
  subst e7
  walk_at "zz"
  refine (holds_at (N := n + 20) (e := eDeep) (w := ["a", "b"]) (b := false) (by omega) xd ⟨by decide, by simp, by decide⟩ (by decide +kernel)).mono fun v h8 ⟨e8, f8⟩ => ?_
  subst e8
  walk_at "zz"
  have g8 := (((f6.trans f7).trans f8).trans (.app [PObj.lst [PV.bl true, PV.bl false, PV.bl false]])).get0 g5
  refine okP_cat g8 get_new (Nat.le_of_ble_eq_true rfl) ?_
  walk_at "zz"
  have eqs : ∀ (hh : PHeap) (i j : Nat), hh[i]? = some (.lst ([PV.bl true, PV.bl false, PV.bl false] ++ [PV.bl true] ++ [PV.bl true, PV.bl false, PV.bl false])) → hh[j]? = some (.lst [PV.bl true, PV.bl false, PV.bl false, PV.bl true, PV.bl true, PV.bl false, PV.bl false]) → cmpB .eq hh (.ref i) (.ref j) = some true := by
    intro hh i j e1 e2
    show eqF hh (.ref i) (.ref j) = _
    have t1 : toD hh 70 (.ref i) = some (.list [.bool true, .bool false, .bool false, .bool true, .bool true, .bool false, .bool false]) := by
      show (match hh[i]? with | some (.lst ds) => (mapO (toD hh 69) ds).map PyData.list | _ => none) = _
      rw [e1]; rfl
    have t2 : toD hh 70 (.ref j) = some (.list [.bool true, .bool false, .bool false, .bool true, .bool true, .bool false, .bool false]) := by
      show (match hh[j]? with | some (.lst ds) => (mapO (toD hh 69) ds).map PyData.list | _ => none) = _
      rw [e2]; rfl
    unfold eqF
    rw [t1, t2]
    decide +kernel
  refine okO_of (eqs _ _ _ ((Fr.app (S := []) _).get0 get_new) get_new) ?_
  walk_at "zz"
  refine (ok_size (N := n + 20) (e := .disj eSome (.parent (.neg (.above (.label "a"))))) ⟨⟨by show _ ∈ lab4; decide, by show _ ∈ lab4; decide⟩, by decide, by decide⟩ (by omega)).mono fun v h9 ⟨e9, f9⟩ => ?_
  subst e9
  walk_at "zz"
  rfl
theorem pure_ok : ∀ ns : List Int, ns.length ≤ 63 → ∃ h', callN (ctOf crs) (tabOf (sgOf nms rows crs cst blts)) 40 25 [.fl (ns.map PV.int)] [] = .ok (.bl true) h' := by
  intro ns hns
  have key : Ok (cl (39 + 1) 25 [.fl (ns.map PV.int)] []) fun v h' => v = .bl true := by
    refine (f_call t_law rfl).mpr ?_
    rw [f_law_eq]
    show OkS (exSs ⟨cl (19 + 20), CT⟩ _ [some (.fl (ns.map .int)), none, none, none, none, none, none, none] []) _ _
    walk_at "zy"
    obtain ⟨J, hJ⟩ : ∃ J : Int, J = if (if ((ns.map PV.int).length : Int) < 8 then ((ns.map PV.int).length : Int) else 8) > 1 then (if ((ns.map PV.int).length : Int) < 8 then ((ns.map PV.int).length : Int) else 8) else 1 := ⟨_, rfl⟩
    have J0 : 0 ≤ J := by rw [hJ]; split <;> split <;> omega
    have J1 : J ≤ 8 := by rw [hJ]; split <;> split <;> omega
    refine ⟨J, by rw [hJ], J0, by omega, ?_⟩
    refine ok_for (ds := (List.range J.toNat).map fun (i : Nat) => PV.int (0 + i)) (fun t l h' => ∃ z1 z4 z5, l = [some (.fl (ns.map .int)), z1, none, none, z4, z5, none, none]) ?_ ?_ ?_ _ 0 _ _ (by simp [srcLen]) (Nat.zero_le _) ⟨_, _, _, rfl⟩
    · intro t l h' _
      rfl
    · intro t dd l h' hd ⟨z1, z4, z5, el⟩
      subst el
      rw [List.getElem?_map] at hd
      obtain ⟨ht, hd⟩ : t < J.toNat ∧ dd = PV.int (0 + t) := by
        by_cases q : t < J.toNat
        · rw [List.getElem?_range q] at hd
          exact ⟨q, (Option.some.inj hd).symm⟩
        · rw [List.getElem?_eq_none (by simp; omega)] at hd; cases hd
      subst hd
      walk_at "z1"
      refine (ok_cell (n := 19) (by omega) (by omega)).mono (fun l2 h2 ⟨z4, z5, el⟩ => ⟨_, _, _, el⟩) fun _ _ k => k
    · intro l h' ⟨z1, z4, z5, el⟩
      subst el
      exact ok_tailB (n := 19)
  obtain ⟨v, h', e, rfl⟩ := key.get
  exact ⟨h', e⟩
end Law
end Zed
end
set_option Elab.async false
set_option linter.all false
set_option maxRecDepth 100000
set_option maxHeartbeats 0
namespace Zed
namespace Law
open PySem L2
end Law
end Zed
open PySem L2 Zed Zed.Law in
theorem PySem.Challenge.cw_depthmarks_k16_expressions_hold_holds : PySem.Challenge.rw_depthmarks_k16_expressions_hold.Holds := by
  w_on
  o_law
  refine HandSHeadRun.head_any (r := Zed.Law.R) (q := PySem.W.view Zed.Law.R.prog [38]) (H := hk) (ob := ob) (M := 4000) (loose := names) (d := HandSHeadRun.topDef PySem.Challenge.pw_depthmarks_k16_expressions_hold 38) (kwd := []) ob_eq (by kernel_rfl) (fun s => by kernel_rfl) Zed.Law.run (by kernel_rfl) (by kernel_rfl) (by kernel_rfl) (by rfl)
    (by first | assumption | decide +kernel) (by decide +kernel) ⟨rfl, rfl, rfl, rfl, rfl, by decide +kernel⟩ ?hw ?hc
  case hw => w_witness2
  case hc =>
    refine law_walk (k := 40) (f := 25) (x := "_law_script") (r := r_law) rfl rfl ⟨rfl, by decide, by decide⟩ rfl (by rfl) rfl rfl rows_ok crs_ok binds_ok pure_ok
