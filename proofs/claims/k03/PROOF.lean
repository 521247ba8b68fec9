import PyProof.Rows.All
import PySem.Challenge.RW_depthmarks_k03_nodes_that_are_no_documen
import HandS.Set
import HandS.More
import HandS.SetFor
import HandS.Strs
import HandS.ForMost
import HandS.ForExc
import HandS.Slots
import KE.KeyNested
import HandS.Lambda
import HandS.IsInst
import HandS.Text
import HandS.StrMore
import HandS.Flow
import HandS.TupAny
import HandS.TupMul
import HandS.Wide
import HandS.Style
import HandS.TupLe
import PyProof.CallFns
import PyProof.ReprRoads
import HandS.TryMany
import HandS.ExcField
import HandS.ExcOwn
import HandS.SlotsOwn
import HandS.ExcInit
import KE.KExcSuper
import KE.KExcInit
import KE.KSuper
import HandS.Defaults
import HandS.ClsMeth
import HandS.Property
import PyProof.ExcBaseAll.ValueError
import KE.GoesEnum
import HandS.Zip
import HandS.CallSlots
import HandS.FStr
import OpenK.KMeth
import KE.KCallOwn
import HandS.SetBool
import HandS.CallLocal
import HandS.RaiseMore
import HandS.Star
import HandS.EndTab
import HandS.HeadWalk
import HandS.NestedK
import HandS.HeadHook4
import HandS.Head0
import HandS.Head1
import HandS.Head2
import HandS.HeadEnd
import HandS.HeadHook1
import HandS.HeadHook2
import HandS.HeadNt
section
set_option Elab.async false
set_option linter.all false
set_option maxRecDepth 100000
set_option maxHeartbeats 2000000
/-! ZedS: sets of texts. -/
namespace Zed
open PySem PySem.Spec PyProof.Rows L2
/-- the text of an entry -/
def txT (e : Int × Value) : Str := match e.2 with
  | .str k _ => k
  | _ => Str.empty
def TxE (w : World) (e : Int × Value) : Prop := ∃ k tk, e.2 = Value.str k tk ∧ e.1 = hashStr w k
/-- a set of texts: ks in the order of its table -/
structure TxD (w : World) (es : Array (Int × Value)) (t : SetTable) (ks : List Str) : Prop where
  ent : ∀ e ∈ es.toList, TxE w e
  key : es.toList.map txT = ks
  nod : ks.Nodup
  few : es.size < scanBound
  fit : t.fits es.size = true
  ris : Ris t.place.toList
  led : w.params.followText "set-order" = true ∨ t.led = true
def TxS (w : World) (h : Heap) (a : Addr) (ks : List Str) : Prop :=
  ∃ o es ep t, h.get? a = some o ∧ o.ExactSet ∧ o.data = .set es ep t ∧ TxD w es t ks
section
variable {P : Program} {w : World} {h h' : Heap} {a : Addr} {ks : List Str}
theorem TxS.at (T : TxS w h a ks) (q : ∀ o, h.get? a = some o → h'.get? a = some o) : TxS w h' a ks := by
  obtain ⟨o, es, ep, t, h1, h2⟩ := T
  exact ⟨o, es, ep, t, q o h1, h2⟩
theorem TxD.len {es : Array (Int × Value)} {t : SetTable} (T : TxD w es t ks) : es.size = ks.length := by
  rw [← T.key, List.length_map, Array.length_toList]
theorem txE_is {e : Int × Value} (g : TxE w e) (k : Str) : (strKind P w).is k e.2 = true ↔ txT e = k := by
  obtain ⟨k0, tk, h1, _⟩ := g
  unfold txT
  rw [h1]
  constructor
  · intro z
    obtain ⟨t, z⟩ := Value.isStrOf_shape (show Value.isStrOf k (.str k0 tk) = true from z)
    cases z; rfl
  · intro z
    cases z
    exact strKind_is P w _ _
theorem txE_el {l : List (Int × Value)} (g : ∀ e ∈ l, TxE w e) : ElemsOf (strKind P w) l := fun e he => by
  obtain ⟨k, tk, h1, h2⟩ := g e he
  refine ⟨⟨k, ?_, h2⟩, ?_⟩
  · rw [h1]; exact strKind_is P w k tk
  · rw [h1]; rfl
theorem txE_mem {l : List (Int × Value)} (g : ∀ e ∈ l, TxE w e) (k : Str) : k ∈ l.map txT ↔ ∃ e ∈ l, (strKind P w).is k e.2 = true := by
  refine ⟨fun z => ?_, fun ⟨e, he, q⟩ => List.mem_map.mpr ⟨e, he, (txE_is (g e he) k).mp q⟩⟩
  obtain ⟨e, he, q⟩ := List.mem_map.mp z
  exact ⟨e, he, (txE_is (g e he) k).mpr q⟩
theorem txE_strs : ∀ {l : List (Int × Value)}, (∀ e ∈ l, TxE w e) → StrsAre (l.map (·.2)) (l.map txT)
  | [], _ => .nil
  | e :: l, g => by
    obtain ⟨k, tk, h1, _⟩ := g e List.mem_cons_self
    have e1 : txT e = k := by unfold txT; rw [h1]
    show StrsAre (e.2 :: l.map (·.2)) (txT e :: l.map txT)
    rw [h1, e1]
    exact .cons k tk (txE_strs fun x hx => g x (List.mem_cons_of_mem _ hx))
end
section
variable {P : Program} {w : World} {A : Around} {E : Value → Shared → Prop} {s : Shared} {a : Addr} {ks : List Str}
/-- a table that was stored; it may be laid anew -/
theorem tx_tail {g : Bool → Sem Unit} (hg : ∀ (b : Bool) (s₁ : Shared) (Q' : Unit → Shared → Prop), Q' () s₁ → wpAny (model P w) A (g b) Q' E s₁)
    {o : Obj} {es0 es : Array (Int × Value)} {ep : Nat} {t0 t : SetTable} (ho : s.heap.get? a = some o) (hx : o.ExactSet) (hd : o.data = .set es0 ep t0) (T : TxD w es t ks) {wd : Bool} {R : Option Bool → Shared → Prop}
    (hR : ∀ h' ks', Heap.SameBut a s.heap h' → TxS w h' a ks' → ks'.Perm ks → R (some true) { s with heap := h' }) :
    wpAny (model P w) A (do
        storeSet a es t
        if (!wd && t.tooFull) = true then do
            g (relayAll t es (SetTable.grown es.size)).2.2; storeSet a (relayAll t es (SetTable.grown es.size)).1 (relayAll t es (SetTable.grown es.size)).2.1; pure (some true)
          else pure (some true)) R E s := by
  refine wpAny_bind (wpAny_storeSet_of ho hd ?_ (fits_of_scanBound T.few))
  have o1 := store_at (es' := es) (t' := t) ho hd
  have sb := Heap.SameBut.update s.heap a (Obj.putSet es t)
  split
  · have p1 := relayAll_perm t es (SetTable.grown es.size)
    have p2 := relayAll_fits t es (SetTable.grown es.size)
    have p3 := relayAll_ris t es (SetTable.grown es.size)
    have p4 := relayAll_led t es (SetTable.grown es.size)
    generalize relayAll t es (SetTable.grown es.size) = Z at p1 p2 p3 p4 ⊢
    obtain ⟨es2, t2, gv⟩ := Z
    dsimp only at p1 p2 p3 p4 ⊢
    have z2 : es2.size = es.size := by
      have := p1.length_eq
      rwa [Array.length_toList, Array.length_toList] at this
    have T2 : TxD w es2 t2 (es2.toList.map txT) := ⟨fun e he => T.ent e (p1.mem_iff.mp he), rfl, (p1.map txT).nodup_iff.mpr (by rw [T.key]; exact T.nod), by rw [z2]; exact T.few, p2, p3, T.led.imp id fun q => by rw [p4]; exact q⟩
    refine wpAny_bind (hg _ _ _ (wpAny_bind (wpAny_storeSet_of o1 rfl ?_ (fits_of_scanBound T2.few))))
    have o2 := store_at (es' := es2) (t' := t2) o1 rfl
    refine wpAny_pure (hR _ _ (sb.trans (Heap.SameBut.update _ a _)) ⟨_, es2, _, t2, o2, hx, rfl, T2⟩ ?_)
    have := p1.map txT
    rwa [T.key] at this
  · exact wpAny_pure (hR _ ks sb ⟨_, es, _, t, o1, hx, rfl, T⟩ (List.Perm.refl _))
/-- one text more -/
theorem tx_add {k : Str} {tk : Tok} {Q : Bool → Shared → Prop} (R : TxS w s.heap a ks) (room : ks.length + 1 < scanBound)
    (hQ : ∀ h' ks', Heap.SameBut a s.heap h' → TxS w h' a ks' → ks'.Perm (if k ∈ ks then ks else ks ++ [k]) → Q (!decide (k ∈ ks)) { s with heap := h' }) :
    wpAny (model P w) A (setAddHashed a (.str k tk) ((strKind P w).hash k)) Q E s := by
  obtain ⟨o, es, ep, t, ho, hx, hd, T⟩ := R
  have c1 : (strKind P w).is k (.str k tk) = true := strKind_is P w k tk
  have c2 : (Value.str k tk).scannable = true := rfl
  have c3 : ElemsOf (strKind P w) es.toList := txE_el T.ent
  have c4 := txE_mem (P := P) T.ent k
  rw [T.key] at c4
  unfold setAddHashed setAddHashedIn
  refine wpAny_holding ?_
  refine wpAny_bind (wpAny_setState_of ho hd T.fit ?_)
  dsimp only
  rw [byScan_of c2 T.few c3]
  simp only [↓reduceIte]
  unfold setAddByScan
  refine wpAny_bind (wpAny_bind (wpAny_rule (wpAny_bind (wpAny_setScan_of c1 ho hd T.fit c3 ?_))))
  cases hf : List.findIdx? (fun e => (strKind P w).is k e.2) es.toList with
  | some j =>
    dsimp only
    obtain ⟨j1, j2, _⟩ := List.findIdx?_eq_some_iff_getElem.mp hf
    have hk : k ∈ ks := c4.mpr ⟨_, List.getElem_mem j1, j2⟩
    have q := hQ s.heap ks (Heap.SameBut.refl a s.heap) ⟨o, es, ep, t, ho, hx, hd, T⟩ (by rw [if_pos hk])
    rw [decide_eq_true hk] at q
    exact wpAny_pure (wpAny_pure q)
  | none =>
    dsimp only
    have hk : k ∉ ks := fun z => by
      obtain ⟨e, he, q⟩ := c4.mp z
      have := List.findIdx?_eq_none_iff.mp hf e he
      rw [q] at this; cases this
    have p1 := layNew_perm t es ((strKind P w).hash k) (.str k tk)
    have p2 := layNew_fits t es ((strKind P w).hash k) (.str k tk)
    have p3 := layNew_ris t es ((strKind P w).hash k) (.str k tk) T.ris
    have p4 := layNew_led t es ((strKind P w).hash k) (.str k tk)
    generalize layNew t es ((strKind P w).hash k) (.str k tk) = Z at p1 p2 p3 p4 ⊢
    obtain ⟨es1, t1, wd, gv⟩ := Z
    dsimp only at p1 p2 p3 p4 ⊢
    rw [Array.toList_push] at p1
    have pk : (es1.toList.map txT).Perm (ks ++ [k]) := by
      have := p1.map txT
      rw [List.map_append, T.key] at this
      exact this
    have z1 : es1.size = ks.length + 1 := by
      have := pk.length_eq
      rwa [List.length_map, Array.length_toList, List.length_append] at this
    have T1 : ∀ t', t'.fits es1.size = true → Ris t'.place.toList → t'.led = t1.led → TxD w es1 t' (es1.toList.map txT) := fun t' f1 f2 f3 => by
      refine ⟨fun e he => ?_, rfl, pk.nodup_iff.mpr ?_, by rw [z1]; exact room, f1, f2, T.led.imp id fun q => by rw [f3, p4]; exact q⟩
      · rcases List.mem_append.mp (p1.mem_iff.mp he) with z | z
        · exact T.ent e z
        · rw [List.mem_singleton.mp z]; exact ⟨k, tk, rfl, rfl⟩
      · exact List.nodup_append.mpr ⟨T.nod, List.nodup_cons.mpr ⟨List.not_mem_nil, List.nodup_nil⟩, fun x hx y hy => by rw [List.mem_singleton.mp hy]; exact fun z => hk (z ▸ hx)⟩
    have fin : ∀ h' ks', Heap.SameBut a s.heap h' → TxS w h' a ks' → ks'.Perm (es1.toList.map txT) → Q true { s with heap := h' } := fun h' ks' sb r pr => by
      have q := hQ h' ks' sb r (by rw [if_neg hk]; exact pr.trans pk)
      rw [decide_eq_false hk] at q
      exact q
    have gw : ∀ (b : Bool) (s₁ : Shared) (Q' : Unit → Shared → Prop), Q' () s₁ → wpAny (model P w) A (match b with | true => rule "set.scan.the-table-gave-way" | false => pure ()) Q' E s₁ := fun b s₁ Q' q => by
      cases b
      · exact wpAny_pure q
      · exact wpAny_rule q
    refine wpAny_bind (gw _ _ _ ?_)
    split
    · refine wpAny_bind ?_
      rw [hashByValue_scannable 8 c2]
      refine wpAny_pure (tx_tail (ks := es1.toList.map txT) ?_ ho hx hd ?_ ?_)
      · intro b s₁ Q' q
        cases b <;> first | exact wpAny_pure q | exact wpAny_rule q
      · split
        · exact T1 _ p2 p3 rfl
        · exact T1 _ (SetTable.fits_plain_off p2) p3 rfl
      · intro h' ks' sb r pr
        exact wpAny_pure (fin h' ks' sb r pr)
    · refine wpAny_bind (wpAny_pure ?_)
      simp only [↓reduceIte]
      refine tx_tail (ks := es1.toList.map txT) ?_ ho hx hd (T1 _ p2 p3 rfl) ?_
      · intro b s₁ Q' q
        cases b <;> first | exact wpAny_pure q | exact wpAny_rule q
      · intro h' ks' sb r pr
        exact wpAny_pure (fin h' ks' sb r pr)

def stepD (acc : List Str) (k : Str) : List Str := if k ∈ acc then acc else acc ++ [k]
def dedS (xs : List Str) : List Str := xs.foldl stepD []
theorem dedS_snoc (xs : List Str) (k : Str) : dedS (xs ++ [k]) = stepD (dedS xs) k := by
  unfold dedS
  rw [List.foldl_append]; rfl
theorem stepD_len (acc : List Str) (k : Str) : (stepD acc k).length ≤ acc.length + 1 := by
  unfold stepD
  split
  · omega
  · rw [List.length_append]; exact Nat.le_refl _
theorem dedS_len (xs : List Str) : (dedS xs).length ≤ xs.length := by
  have : ∀ (xs acc : List Str), (xs.foldl stepD acc).length ≤ acc.length + xs.length := fun xs => by
    induction xs with
    | nil => intro acc; exact Nat.le_refl _
    | cons x r ih =>
      intro acc
      have h1 := ih (stepD acc x)
      have h2 := stepD_len acc x
      show (r.foldl stepD (stepD acc x)).length ≤ _
      rw [List.length_cons]; omega
  have h := this xs []
  unfold dedS
  simpa using h
theorem stepD_perm {ks acc : List Str} {k : Str} (p : ks.Perm acc) : (if k ∈ ks then ks else ks ++ [k]).Perm (stepD acc k) := by
  unfold stepD
  by_cases z : k ∈ ks
  · rw [if_pos z, if_pos (p.mem_iff.mp z)]; exact p
  · rw [if_neg z, if_neg fun q => z (p.mem_iff.mpr q)]; exact p.append_right _
/-- the loop of set(xs) -/
theorem tx_loop {I : Addr} {fp wr : List Addr} {Gn : Array GenState → Array GenState → Prop} {n : Nat} {Pv : Nat → Value → Prop} {St : Nat → Shared → Prop} {R : Result → Shared → Prop}
    (W : WalksS P w A.in1 I fp wr Gn n Pv St) (S : Addr) (hSf : S ∉ fp) (xs : List Str) (hn : n = xs.length) (hfew : xs.length + 1 < scanBound) (hval : ∀ i v, Pv i v → ∃ t, v = .str (xs.getD i Str.empty) t) :
    ∀ (m i : Nat) (s : Shared), n - i = m → i ≤ n → St i s → (∃ ks, TxS w s.heap S ks ∧ ks.Perm (dedS (xs.take i))) →
      (∀ s' ks, Moved (S :: wr) Gn s s' → TxS w s'.heap S ks → ks.Perm (dedS xs) → R (.ok (.ret .none)) s') → codeAny (model P w) A (.builtin "set.update.loop" ⟨[.ref S, .ref I], []⟩) R s := by
  have nw : S ∉ wr := fun z => hSf (W.sub _ z)
  have sub : ∀ b ∈ wr, b ∈ S :: wr := fun b z => List.mem_cons_of_mem _ z
  intro m
  induction m with
  | zero =>
    intro i s hm hi st ⟨ks, T, pk⟩ hR
    obtain rfl : i = n := by omega
    refine codeAny_builtin PyProof.Rows.F.entry_set_update_loop ?_; rw [Around.under_plainId PyProof.Rows.F.plain_set_update_loop _]; show wpAny _ A.in1 (pyNext (.ref I) >>= _) _ _ s
    refine wpAny_bind (W.done s _ _ st fun s' mv => ?_); show wpAny _ A.in1 (ret Value.none) _ _ s'
    refine wpAny_pure (hR s' ks (mv.mono sub) (T.at fun o q => mv.heap S o nw q) ?_)
    rw [hn, List.take_length] at pk
    exact pk
  | succ m ih =>
    intro i s hm hi st ⟨ks, T, pk⟩ hR
    have lt : i < n := by omega
    refine codeAny_builtin PyProof.Rows.F.entry_set_update_loop ?_; rw [Around.under_plainId PyProof.Rows.F.plain_set_update_loop _]; show wpAny _ A.in1 (pyNext (.ref I) >>= _) _ _ s
    refine wpAny_bind (W.item i s _ _ lt st fun v s' pv st' mv => ?_)
    obtain ⟨t, rfl⟩ := hval i v pv
    show wpAny _ A.in1 (holding [Value.str (xs.getD i Str.empty) t] (setAdd S (.str (xs.getD i Str.empty) t)) >>= _) _ _ s'
    refine wpAny_bind (wpAny_holding ?_); unfold setAdd; refine wpAny_holding (wpAny_bind ((strKind P w).pyHash (k := xs.getD i Str.empty) (strKind_is _ _ _ _) ?_))
    have l1 : ks.length ≤ i := by
      have h1 := pk.length_eq
      have h2 := dedS_len (xs.take i)
      have h3 := List.length_take_le i xs
      omega
    refine tx_add (s := { s' with toks := s'.toks + 1 }) (T.at fun o q => mv.heap S o nw q) (by omega) fun h' ks' sb T' pk' => ?_
    have e1 : xs.take (i + 1) = xs.take i ++ [xs.getD i Str.empty] := by
      have hi' : i < xs.length := by omega
      rw [List.take_succ, List.getElem?_eq_getElem hi', List.getD_eq_getElem?_getD, List.getElem?_eq_getElem hi']; rfl
    have pk2 : ks'.Perm (dedS (xs.take (i + 1))) := by
      rw [e1, dedS_snoc]
      exact pk'.trans (stepD_perm pk)
    refine wpAny_pure ⟨plainId_quiet PyProof.Rows.F.plain_set_update_loop _, ih (i + 1) _ (by omega) lt (W.frame _ s' _ _ st' (Nat.le_succ _) fun b hb o q => ?_) ⟨ks', T', pk2⟩ fun s2 ks2 mv2 T2 p2 => hR s2 ks2 (Moved.trans W.gtrans ((mv.mono sub).then_heap (Nat.le_succ _) fun b o hb q => ?_) mv2) T2 p2⟩
    · exact (sb.2 b fun z => hSf (z ▸ hb)).trans q
    · exact (sb.2 b fun z => hb (z ▸ List.mem_cons_self)).trans q

abbrev newS (w : World) : Obj := { cls := .type "set", dict := none, data := .set #[] 0 (.fresh 0 0 (!w.params.followText "set-order")) }
theorem tx_fresh {h : Heap} {a : Addr} (ho : h.get? a = some (newS w)) : TxS w h a [] := by
  refine ⟨_, #[], 0, _, ho, ⟨rfl, rfl, rfl⟩, rfl, ⟨fun e he => by simp at he, rfl, List.nodup_nil, by decide, rfl, List.Pairwise.nil, ?_⟩⟩
  show _ ∨ (!w.params.followText "set-order") = true
  cases w.params.followText "set-order" <;> simp
set_option maxHeartbeats 4000000 in
/-- set(xs), xs a list of texts -/
theorem tx_call {l : Addr} {its : Array Value} (xs : List Str) {Q : Value → Shared → Prop} (hh : A.handled = none) (hl : s.heap.IsList l its) (hit : StrsAre its.toList xs) (hfew : xs.length + 1 < scanBound)
    (h : ∀ (h' : Heap) (tk : Nat) ks, TxS w h' s.heap.objs.size ks → ks.Perm (dedS xs) → (∀ b o, s.heap.get? b = some o → h'.get? b = some o) → Q (.ref s.heap.objs.size) { s with heap := h', toks := tk }) :
    wpAny (model P w) A (call (.type "set") [.ref l]) Q E s := by
  have hsz : its.size = xs.length := by
    have := StrsAre.length hit
    rwa [Array.length_toList] at this
  obtain ⟨c, tl, m0⟩ := PySem.F.called_set.mro
  have m1 := PySem.F.called_set.made
  have m2 := PySem.F.called_set.sub
  have m3 := PySem.F.called_set.notType
  have m4 := PySem.F.called_set.canCreate
  have m5 := PySem.F.typeCall_set_1 (.ref l)
  refine wpAny_call (codeAny_of_tree ?_); show wpAny _ _ (callAny (.type "set") _) _ _ _
  refine wpAny_pure ⟨Code.quiet_builtin _ (by decide +kernel), codeAny_builtin PySem.F.entry_type_call ?_⟩; rw [Around.under_plain (weight_type_call_type "set" [.ref l] []) rfl]
  repeat (any_goals (first | assumption | wp_step))
  refine codeAny_mono (code_set_led1 (.ref l) (E := E) (Q₁ := fun v s₁ => v = .ref s.heap.objs.size ∧ s₁ = { s with heap := s.heap.push (newS w) }) ⟨rfl, rfl⟩) fun r s₁ hr => ?_
  rcases r with e | fl
  · exact hr
  rcases fl with _ | _ | obj | _ <;> try exact hr.elim
  all_goals obtain ⟨rfl, rfl⟩ := hr
  have n0 : (s.heap.push (newS w)).get? s.heap.objs.size = some (newS w) := Heap.get?_push_size _ rfl
  have n1 : Shared.TypeIs { s with heap := s.heap.push (newS w) } (.ref s.heap.objs.size) "set" := ⟨_, n0, rfl⟩
  have n2 := PySem.F.called_set.init.lookup
  have n3 := PySem.F.called_set.init.bind (.ref s.heap.objs.size)
  repeat (any_goals (first | assumption | wp_step))
  refine codeAny_mono (codeAny_call_builtin (R := wants (fun v s₂ => v = .none ∧ ∃ h' tk ks, s₂ = { s with heap := h', toks := tk } ∧ TxS w h' s.heap.objs.size ks ∧ ks.Perm (dedS xs) ∧ ∀ b o, s.heap.get? b = some o → h'.get? b = some o) E) PySem.F.called_set.init.plain PySem.F.entry_set_init (check_set_init_1 n1 ?_)) fun r₂ s₂ hr₂ => ?_
  · obtain ⟨⟨ocls, odict, odata, oslots⟩, hol, hcl, nl, hdl⟩ := hl
    simp only at hcl hdl
    subst hcl hdl
    have q0 : (s.heap.push (newS w)).get? l = some { cls := .type "list", dict := odict, data := .seq its nl, slots := oslots } := Heap.get?_push_of_some _ hol
    have q1 := PySem.F.sub_list_set
    have q2 := PySem.F.sub_list_frozenset
    have q3 : (Value.type "list" == Value.type "dict") = false := by decide
    have q4 : (s.heap.push (newS w)).IsList l its := ⟨_, q0, rfl, nl, rfl⟩
    unfold Builtin.«set.__init__» noKeywords Builtin.Frozenset.updateFrom
    generalize hPI : pyIter = PI
    wp_walk
    subst hPI
    refine wpAny_pyIter_list q4 (wpAny_bind (wpAny_runValue ?_))
    have lt : l < s.heap.objs.size := Heap.lt_size hol
    have h3 : A.in1.in1.in1.handled = none := by simp [hh]
    have sz : (s.heap.push (newS w)).objs.size = s.heap.objs.size + 1 := Heap.size_push ..
    have ne : l ≠ (s.heap.push (newS w)).objs.size := by rw [sz]; exact Nat.ne_of_lt (Nat.lt_succ_of_lt lt)
    have nf : s.heap.objs.size ∉ [(s.heap.push (newS w)).objs.size, l] := by
      rw [sz]
      intro z
      rcases List.mem_cons.mp z with z | z
      · exact Nat.lt_irrefl _ (Nat.lt_of_lt_of_eq (Nat.lt_succ_self _) z.symm)
      · exact Nat.lt_irrefl _ (Nat.lt_of_le_of_lt (Nat.le_of_eq (List.mem_singleton.mp z)) lt)
    have g0 : ((s.heap.push (newS w)).push { cls := .type "list_iterator", data := .fields #[.ref l, .int 0 0] }).get? s.heap.objs.size = some (newS w) := Heap.get?_push_of_some _ n0
    refine tx_loop ((Walks.list h3 _ l ne its).toS) s.heap.objs.size nf xs hsz hfew (fun i v hv => SS.strs_at hit i v (by rw [Array.getElem?_toList]; exact hv)) (its.size - 0) 0 _ rfl (Nat.zero_le _) ⟨⟨_, Heap.get?_push_size _ rfl, rfl, rfl⟩, q4.push _⟩ ⟨[], tx_fresh g0, List.Perm.refl _⟩ fun s' ks mv T pk => ?_
    obtain ⟨h', g', d', tk', os'⟩ := s'
    obtain rfl : g' = s.gens := mv.gens
    obtain rfl : d' = s.drawn := mv.drawn
    obtain rfl : os' = s.os := mv.os
    show wpAny _ _ _ _ _ _
    refine wpAny_pure ?_; show wpAny _ _ (ret Value.none) _ _ _
    refine wpAny_pure ⟨rfl, h', tk', ks, rfl, T, pk, fun b o e => mv.heap b o (fun z => ?_) (Heap.get?_push_of_some _ (Heap.get?_push_of_some _ e))⟩
    have lb := Heap.lt_size e
    rcases List.mem_cons.mp z with z | z
    · exact Nat.lt_irrefl _ (Nat.lt_of_le_of_lt (Nat.le_of_eq z.symm) lb)
    · have z2 := (List.mem_singleton.mp z).trans sz
      exact Nat.lt_irrefl _ (Nat.lt_trans (Nat.lt_succ_self _) (Nat.lt_of_le_of_lt (Nat.le_of_eq z2.symm) lb))
  · rcases r₂ with e | fl₂
    · exact hr₂
    rcases fl₂ with _ | _ | v | _ <;> try exact hr₂.elim
    all_goals obtain ⟨rfl, h', tk, ks, rfl, T, pk, k⟩ := hr₂
    repeat (any_goals (first | assumption | wp_step))
    exact h _ _ _ T pk k
end
end Zed
end
section
set_option Elab.async false
set_option linter.all false
set_option maxRecDepth 100000
set_option maxHeartbeats 2000000
namespace Zed
open PySem PySem.Spec PyProof.Rows L2
section
variable {P : Program} {w : World} {A : Around} {E : Value → Shared → Prop} {s : Shared} {a : Addr} {ks : List Str}
theorem strs_perm {vs us : List Value} (p : vs.Perm us) : ∀ {ks : List Str}, StrsAre us ks → ∃ ks', StrsAre vs ks' ∧ ks'.Perm ks := by
  induction p with
  | nil => intro ks h; exact ⟨ks, h, .refl _⟩
  | cons x _ ih =>
    intro ks h
    cases h with
    | cons y t r =>
      obtain ⟨z, z1, z2⟩ := ih r
      exact ⟨y :: z, .cons y t z1, z2.cons y⟩
  | swap x y l =>
    intro ks h
    cases h with
    | cons a t r => cases r with
      | cons b u r => exact ⟨_, .cons b u (.cons a t r), .swap _ _ _⟩
  | trans _ _ i1 i2 =>
    intro ks h
    obtain ⟨k2, a1, a2⟩ := i2 h
    obtain ⟨k1, b1, b2⟩ := i1 a1
    exact ⟨k1, b1, b2.trans a2⟩
/-- sorted(a set of texts) -/
theorem tx_sorted {Q : Value → Shared → Prop} (R : TxS w s.heap a ks) (hh : A.handled = none) (h64 : ks.length < 64)
    (hQ : ∀ s' p (out : Array Value) (c : Nat) (ys : List Str), (∀ b o, s.heap.get? b = some o → s'.heap.get? b = some o) → s'.gens = s.gens → s'.os = s.os → s.heap.objs.size ≤ p →
      s'.heap.get? p = some (seqObj "list" out c) → StrsAre out.toList ys → ys.Perm ks → sortedS ys = true → Q (.ref p) s') : wpAny (model P w) A (call (.builtin "sorted") [.ref a]) Q E s := by
  obtain ⟨o, es, ep, t, ho, hx, hd, T⟩ := R
  refine Calls.call_function_entry kind_sorted plain_sorted entry_sorted (args_sorted1 _) ?_; unfold Builtin.«sorted»
  refine wpAny_bind (m := checkCount "sorted" 1 1 _) (wpAny_pure (wpAny_bind (collect_set (A := A.in1) hh ⟨o, ho, hx.1, hd⟩ T.fit T.few T.ris T.led fun s1 vs k1 hz g1 o1 pm => ?_)))
  have st := txE_strs T.ent
  rw [T.key] at st
  obtain ⟨zs, z1, z2⟩ := strs_perm pm st
  have hl : vs.length < 64 := by rw [StrsAre.length z1, z2.length_eq]; exact h64
  refine wpAny_bind (wpAny_newList ?_ (by rw [sizeLine_eq]; omega))
  have n0 : (s1.heap.push (seqObj "list" vs.toArray 0)).get? s1.heap.objs.size = some (seqObj "list" vs.toArray 0) := Heap.get?_push_size _ rfl
  refine wpAny_bind (wpAny_holding (wpAny_call_entry slot_list_sort ⟨_, n0, rfl⟩ entry_list_sort (list_sort_treeK strKind_oneLt n0 z1.keysOf (fun v₁ v₂ rest e => keyKind_strs (by rw [← e]; exact z1)) hl fun st' hp hs => ⟨_, rfl, ?_⟩) (args_list_sort _)))
  obtain ⟨ys, y1, y2, y3⟩ := sorted_out_str z1 hp hs
  obtain ⟨c, hc⟩ := sortedHeap_at (vs := vs) (out := (arrOf st').map (·.2)) n0
  refine wpAny_pure ⟨_, rfl, hQ _ s1.heap.objs.size _ c ys (fun b u e => ?_) g1 o1 hz hc y1 (y2.trans z2) y3⟩
  have q := k1 b u e
  have lt := Heap.lt_size q
  show (sortedHeap (s1.heap.push (seqObj "list" vs.toArray 0)) s1.heap.objs.size vs _).get? b = some u
  rw [sortedHeap_old (Nat.ne_of_lt lt) (by rw [size_push']; exact Nat.lt_succ_of_lt lt)]; exact Heap.get?_push_of_some _ q
end
/-- a set of texts in the heap -/
def TxO (w : World) (a : Addr) (ks : List Str) : HO := .ext fun h => TxS w h a ks
section
variable {X : Cx}
theorem txO_new {w : World} {P : Program} {H : Hp} {h : Heap} {a : Addr} {ks : List Str} (R : TxS w h a ks) : ObjOk P w H h a (TxO w a ks) := by
  have ⟨o, _, _, _, ho, _⟩ := R
  exact ⟨R, ⟨o, ho⟩, fun h1 h2 p k => TxS.at p k⟩
theorem txO_get {pins : List (Addr × Obj)} {σ : L2.St} {H : Hp} {s : Shared} {a : Addr} {ks : List Str} (I : Inv X pins σ H s) (ha : Rd H a (TxO X.w a ks)) : TxS X.w s.heap a ks := (ha.ok I.hok).1
/-- set(xs) -/
def rTxSet (K : PySem.W.Frag) (w : World) : List V → Hp → VK → Prop := fun vs H Q => ∃ (l : Addr) (xs : List Str), vs = [V.ref l] ∧ SqL K H l (xs.map V.str) ∧ xs.length < 64 ∧ ∀ ks p, ks.Perm (dedS xs) → H p = none → Q (.ref p) (upd H p (TxO w p ks))
theorem cr_txSet (hc : X.calm = true) : CallR X (.type "set") (rTxSet X.K X.w) := by
  intro pins s σ H vs us Q I r h
  obtain ⟨l, xs, rfl, hs, hf, q⟩ := h
  obtain ⟨its, rv, pl, _⟩ := I.list hs
  rw [Vals.ref1 r]
  have hn : H s.heap.objs.size = none := I.hok.fresh (Nat.le_refl _)
  refine tx_call (P := X.prog) (w := X.w) xs (I.ok.hd hc) pl.isList (by simpa using rv.strs) (by unfold scanBound; omega) fun h' tk ks T pk k => ?_
  exact ⟨.ref _, upd H s.heap.objs.size (TxO X.w s.heap.objs.size ks), I.laid (t' := tk) k (Nat.le_refl _) (txO_new T), rfl, q ks _ pk hn⟩
/-- sorted(found) -/
def rTxSort (w : World) : List V → Hp → VK → Prop := fun vs H Q => ∃ (a : Addr) (ks : List Str), vs = [V.ref a] ∧ Rd H a (TxO w a ks) ∧ ks.length < 64 ∧ ∀ ys p, ys.Perm ks → sortedS ys = true → H p = none → Q (.ref p) (upd H p (.lst (ys.map V.str)))
theorem cr_txSort (hc : X.calm = true) : CallR X (.builtin "sorted") (rTxSort X.w) := by
  intro pins s σ H vs us Q I r h
  obtain ⟨a, ks, rfl, ha, h64, q⟩ := h
  rw [Vals.ref1 r]
  refine tx_sorted (txO_get I ha) (I.ok.hd hc) h64 fun s' p out c ys k g o hp hg y1 y2 y3 => ?_
  have len : (ys.map V.str).length ≤ sizeLine := by rw [List.length_map, y2.length_eq, sizeLine_eq]; omega
  have hn : H p = none := I.hok.fresh hp
  have J : Inv X pins σ (upd H p (.lst (ys.map V.str))) { s with heap := s'.heap, gens := s'.gens, drawn := s'.drawn, toks := s'.toks } := I.call (ch := []) (Un.laid k hp hn) (I.hok.laid k hp ⟨len, out.toList, c, vals_of_strs y1, hg⟩) (by rw [g]; exact I.bare) (fun _ z => nomatch z)
  have e : s' = { s with heap := s'.heap, gens := s'.gens, drawn := s'.drawn, toks := s'.toks } := by
    cases s'; cases s; cases o; rfl
  rw [e]
  exact ⟨.ref p, _, J, rfl, q ys p y2 y3 hn⟩
end
/-! ### the one sorted row -/
def LeT (x y : Str) : Prop := x.cps.toList ≤ y.cps.toList
theorem leT_of {x y : Str} (h : ltCps y.cps.toList x.cps.toList = false) : LeT x y := by
  rw [ltCps_eq] at h
  exact of_decide_eq_false h
theorem LeT.tot (x y : Str) (h : ltCps y.cps.toList x.cps.toList = true) : LeT y x := by
  rw [ltCps_eq] at h
  rcases List.le_total x.cps.toList y.cps.toList with z | z
  · exact absurd (of_decide_eq_true h) z
  · exact z
theorem LeT.anti {x y : Str} (h1 : LeT x y) (h2 : LeT y x) : x = y := by
  have := List.le_antisymm h1 h2
  obtain ⟨⟨a⟩⟩ := x
  obtain ⟨⟨b⟩⟩ := y
  simp only at this
  rw [this]
theorem rising_pw : ∀ (r : List Str) (p : Str), risingS p r = true → (p :: r).Pairwise LeT
  | [], p, _ => List.pairwise_singleton _ _
  | x :: r, p, h => by
    unfold risingS at h
    rw [Bool.and_eq_true, Bool.not_eq_true'] at h
    have ih := rising_pw r x h.2
    have h1 := leT_of h.1
    refine List.pairwise_cons.mpr ⟨fun y hy => ?_, ih⟩
    rcases List.mem_cons.mp hy with rfl | hy
    · exact h1
    · exact List.le_trans h1 ((List.pairwise_cons.mp ih).1 y hy)
theorem sorted_pw : ∀ (l : List Str), sortedS l = true → l.Pairwise LeT
  | [], _ => .nil
  | x :: r, h => rising_pw r x h
def insS (x : Str) : List Str → List Str
  | [] => [x]
  | y :: r => if ltCps y.cps.toList x.cps.toList = true then y :: insS x r else x :: y :: r
def sortS (xs : List Str) : List Str := xs.foldr insS []
theorem insS_perm (x : Str) : ∀ l, (insS x l).Perm (x :: l)
  | [] => .refl _
  | y :: r => by
    unfold insS
    split
    · exact ((insS_perm x r).cons y).trans (.swap _ _ _)
    · exact .refl _
theorem insS_pw (x : Str) : ∀ l : List Str, l.Pairwise LeT → (insS x l).Pairwise LeT
  | [], _ => List.pairwise_singleton _ _
  | y :: r, h => by
    obtain ⟨h1, h2⟩ := List.pairwise_cons.mp h
    unfold insS
    split
    · rename_i z
      refine List.pairwise_cons.mpr ⟨fun u hu => ?_, insS_pw x r h2⟩
      rcases List.mem_cons.mp ((insS_perm x r).mem_iff.mp hu) with rfl | hu
      · exact LeT.tot _ _ z
      · exact h1 u hu
    · rename_i z
      have z1 : LeT x y := leT_of (by simpa using z)
      refine List.pairwise_cons.mpr ⟨fun u hu => ?_, h⟩
      rcases List.mem_cons.mp hu with rfl | hu
      · exact z1
      · exact List.le_trans z1 (h1 u hu)
theorem sortS_perm : ∀ l, (sortS l).Perm l
  | [] => .refl _
  | x :: r => (insS_perm x (sortS r)).trans ((sortS_perm r).cons x)
theorem sortS_pw : ∀ l, (sortS l).Pairwise LeT
  | [] => .nil
  | x :: r => insS_pw x _ (sortS_pw r)
theorem sortS_one {ys xs : List Str} (p : ys.Perm xs) (h : sortedS ys = true) : ys = sortS xs :=
  List.Perm.eq_of_pairwise (le := LeT) (fun _ _ _ _ a b => a.anti b) (sorted_pw ys h) (sortS_pw xs) (p.trans (sortS_perm xs).symm)
end Zed
end
section
set_option Elab.async false
set_option linter.all false
set_option maxRecDepth 100000
namespace Zed
open PySem L2

mutual
/-- values: tuples are deep; what changes is a place in the heap (ref); what nobody changes any more is a value itself (fz) -/
inductive PV where
  | non | bl (b : Bool) | int (i : Int) | str (x : Str) | tup (ds : List PV) | fz (o : PObj) | ref (i : Nat) | ty (n : String) | gl (k : Nat) | scr (ns : List Int)
inductive PObj where
  | lst (ds : List PV)
  | dic (kvs : List (PV × PV))
  | set (ds : List PV)
  | ins (c : Nat) (fs : List (Nat × PV))
end
abbrev PV.fl (ds : List PV) : PV := .fz (.lst ds)
abbrev PHeap := List PObj
inductive R (α : Type) where
  | ok (a : α) (h : PHeap)
  | exc (c : PV) (fs : List (Nat × PV)) (h : PHeap)
  | stuck
def R.bind {α β : Type} (m : R α) (k : α → PHeap → R β) : R β :=
  match m with
  | .ok a h => k a h
  | .exc c fs h => .exc c fs h
  | .stuck => .stuck
@[simp] theorem R.bind_ok {α β : Type} (a : α) (h : PHeap) (k : α → PHeap → R β) : (R.ok a h).bind k = k a h := rfl
@[simp] theorem R.bind_exc {α β : Type} (c : PV) (fs : List (Nat × PV)) (h : PHeap) (k : α → PHeap → R β) : (R.exc c fs h : R α).bind k = .exc c fs h := rfl
@[simp] theorem R.bind_stuck {α β : Type} (k : α → PHeap → R β) : (R.stuck : R α).bind k = .stuck := rfl

/-! ### how abstract things lie in the abstract heap of HandS -/
/-- a list that nobody changes -/
def FzL (K : PySem.W.Frag) (H : Hp) (a : Addr) (xs : List V) : Prop := ∃ o, H a = some (.frz o (.lst xs))
/-- the script: a list of numbers, locked or written -/
def FzK (K : PySem.W.Frag) (H : Hp) (a : Addr) (xs : List V) : Prop := FzL K H a xs ∨
    ∃ (o : Obj) (its : Array Value) (n : Nat), K.lookup a = some o ∧ o.cls = .type "list" ∧ o.dict = none ∧ o.data = .seq its n ∧ its.size ≤ sizeLine ∧ Vals xs its.toList
theorem FzL.sq {K : PySem.W.Frag} {H : Hp} {a : Addr} {xs : List V} (h : FzL K H a xs) : SqL K H a xs := .inl (.inr h)
theorem FzK.sq {K : PySem.W.Frag} {H : Hp} {a : Addr} {xs : List V} (h : FzK K H a xs) : SqL K H a xs := h.elim (fun h => h.sq) .inr
theorem FzL.rd {K : PySem.W.Frag} {H : Hp} {a : Addr} {xs : List V} (h : FzL K H a xs) : Rd H a (.lst xs) := .inr h

/-- the written part, the module's names -/
structure Gc where
  K : PySem.W.Frag
  mg : Str → Option Value
  /-- the names' numbers: the module's names, the attributes -/
  nm : Nat → Str
  P : Program
  w : World
  /-- classes with slots: a class's attribute's place -/
  isSl : Nat → Bool
  slot : Nat → Nat → Option Nat
  fld : Nat → Nat → Bool
  /-- tables of code objects: the table's place, the lambda's qualified name -/
  T : List (Addr × Str)

mutual
/-- a value as a key of a dict -/
def nkOf : PV → Option NestedKey
  | .non => some .none
  | .bl b => some (.num (if b = true then 1 else 0))
  | .int i => some (.num i)
  | .str x => some (.text x)
  | .tup ds => (nkOfs ds).map .tup
  | _ => none
def nkOfs : List PV → Option (List NestedKey)
  | [] => some []
  | d :: ds => match nkOf d, nkOfs ds with
    | some k, some ks => some (k :: ks)
    | _, _ => none
end
def keyOf : PV → Option Key
  | .int i => some (.inl i)
  | .str x => some (.inr x)
  | _ => none
/-- a dict whose keys are tuples -/
def NdO (P : Program) (w : World) (a : Addr) (xs : List (NestedKey × Addr × Value)) : HO := .ext fun h => ∃ o es ep, h.get? a = some o ∧ o.ExactDict ∧ o.data = .dict es ep ∧ es.toList = xs.map (entryOfKey (nestedKind P w))
/-- an instance with slots: where its own dict may stand -/
def SlW (H : Hp) (a dx : Addr) : Prop := dx ≠ a ∧ (H dx = some (.own a) ∨ H dx = some (.xd []))

mutual
inductive RepV (G : Gc) (φ : List Addr) (H : Hp) : PV → V → Prop
  | non : RepV G φ H .non .non
  | bl (b : Bool) : RepV G φ H (.bl b) (.bl b)
  | int (i : Int) : RepV G φ H (.int i) (.int i)
  | str (x : Str) : RepV G φ H (.str x) (.str x)
  | ty (n : String) : RepV G φ H (.ty n) (.ty n)
  | tup {a : Addr} {vs : List V} {ds : List PV} : SqT G.K H a vs → RepVs G φ H ds vs → RepV G φ H (.tup ds) (.ref a)
  | fl {a : Addr} {vs : List V} {ds : List PV} : FzL G.K H a vs → RepVs G φ H ds vs → RepV G φ H (.fz (.lst ds)) (.ref a)
  | fdK {a : Addr} {ob : Obj} {kvs : List (PV × PV)} {ks : List (Key × V)} : kvs.length ≤ sizeLine → H a = some (.frz ob (.dK ks)) → RepKs G φ H kvs ks → RepV G φ H (.fz (.dic kvs)) (.ref a)
  | fdN {a : Addr} {ob : Obj} {kvs : List (PV × PV)} {xs : List (NestedKey × Addr × Value)} : kvs.length ≤ sizeLine → kvs ≠ [] → H a = some (.frz ob (NdO G.P G.w a xs)) → (a == sysModules) = false → (xs.map (·.1)).Nodup → RepEs G φ H kvs xs → RepV G φ H (.fz (.dic kvs)) (.ref a)
  | fset {a : Addr} {ob : Obj} {ds : List PV} {xs ks : List Str} : ds = xs.map PV.str → H a = some (.frz ob (TxO G.w a ks)) → ks.Perm xs → xs.length < 64 → RepV G φ H (.fz (.set ds)) (.ref a)
  | fiP {a C dx : Addr} {c : Nat} {fs : List (Nat × PV)} {fs' : List (Str × V)} (vs : Nat → V) : (fs.map (·.1)).Nodup → a ∉ φ → G.mg (G.nm c) = some (.ref C) → G.isSl c = false → H a = some (.ins C dx fs') → fs'.length ≤ fs.length →
      (∀ f d, fs.lookup f = some d → G.fld c f = true ∧ fs'.lookup (G.nm f) = some (vs f)) → (∀ f d, fs.lookup f = some d → RepV G φ H d (vs f)) → (∀ x v, fs'.lookup x = some v → ∃ f, G.nm f = x ∧ (fs.lookup f).isSome = true) → RepV G φ H (.fz (.ins c fs)) (.ref a)
  | fiS {a C dx : Addr} {c : Nat} {fs : List (Nat × PV)} {ws : List (Option V)} (vs : Nat → V) : (fs.map (·.1)).Nodup → a ∉ φ → G.mg (G.nm c) = some (.ref C) → G.isSl c = true → SlX.Slt H a C dx ws → SlW H a dx →
      (∀ f d, fs.lookup f = some d → ∃ i, G.slot c f = some i ∧ ws[i]? = some (some (vs f))) → (∀ f d, fs.lookup f = some d → RepV G φ H d (vs f)) → RepV G φ H (.fz (.ins c fs)) (.ref a)
  | scr {a : Addr} {ns : List Int} : FzK G.K H a (ns.map V.int) → RepV G φ H (.scr ns) (.ref a)
  | ref {i : Nat} {a : Addr} : φ[i]? = some a → RepV G φ H (.ref i) (.ref a)
  | gl {k : Nat} {a : Addr} : G.mg (G.nm k) = some (.ref a) → RepV G φ H (.gl k) (.ref a)
inductive RepVs (G : Gc) (φ : List Addr) (H : Hp) : List PV → List V → Prop
  | nil : RepVs G φ H [] []
  | cons {d : PV} {v : V} {ds : List PV} {vs : List V} : RepV G φ H d v → RepVs G φ H ds vs → RepVs G φ H (d :: ds) (v :: vs)
/-- the pairs of a dict: keys that are numbers and texts -/
inductive RepKs (G : Gc) (φ : List Addr) (H : Hp) : List (PV × PV) → List (Key × V) → Prop
  | nil : RepKs G φ H [] []
  | cons {p : PV × PV} {q : Key × V} {l : List (PV × PV)} {m : List (Key × V)} : keyOf p.1 = some q.1 → RepV G φ H p.2 q.2 → RepKs G φ H l m → RepKs G φ H (p :: l) (q :: m)
/-- .. keys that are tuples -/
inductive RepEs (G : Gc) (φ : List Addr) (H : Hp) : List (PV × PV) → List (NestedKey × Addr × Value) → Prop
  | nil : RepEs G φ H [] []
  | cons {p : PV × PV} {x : NestedKey × Addr × Value} {v : V} {l : List (PV × PV)} {m : List (NestedKey × Addr × Value)} : nkOf p.1 = some x.1 → x.1.depth ≤ 8 → RepV G φ H p.1 (.ref x.2.1) → RelV v x.2.2 → RepV G φ H p.2 v → RepEs G φ H l m → RepEs G φ H (p :: l) (x :: m)
end
def RepE (G : Gc) (φ : List Addr) (H : Hp) (p : PV × PV) (x : NestedKey × Addr × Value) : Prop :=
  nkOf p.1 = some x.1 ∧ x.1.depth ≤ 8 ∧ RepV G φ H p.1 (.ref x.2.1) ∧ ∃ v, RelV v x.2.2 ∧ RepV G φ H p.2 v
def RepK (G : Gc) (φ : List Addr) (H : Hp) (p : PV × PV) (q : Key × V) : Prop := keyOf p.1 = some q.1 ∧ RepV G φ H p.2 q.2
theorem RepKs.pd {G : Gc} {φ : List Addr} {H : Hp} : ∀ {l : List (PV × PV)} {m : List (Key × V)}, RepKs G φ H l m → Paired (RepK G φ H) l m
  | _, _, .nil => .nil
  | _, _, .cons a b c => .cons ⟨a, b⟩ c.pd
theorem RepKs.of {G : Gc} {φ : List Addr} {H : Hp} : ∀ {l : List (PV × PV)} {m : List (Key × V)}, Paired (RepK G φ H) l m → RepKs G φ H l m
  | _, _, .nil => .nil
  | _, _, .cons a c => .cons a.1 a.2 (RepKs.of c)
theorem RepEs.pd {G : Gc} {φ : List Addr} {H : Hp} : ∀ {l : List (PV × PV)} {m : List (NestedKey × Addr × Value)}, RepEs G φ H l m → Paired (RepE G φ H) l m
  | _, _, .nil => .nil
  | _, _, .cons a b c d e f => .cons ⟨a, b, c, _, d, e⟩ f.pd
theorem RepEs.of {G : Gc} {φ : List Addr} {H : Hp} : ∀ {l : List (PV × PV)} {m : List (NestedKey × Addr × Value)}, Paired (RepE G φ H) l m → RepEs G φ H l m
  | _, _, .nil => .nil
  | _, _, .cons ⟨a, b, c, _, d, e⟩ f => .cons a b c d e (RepEs.of f)
def RepO (G : Gc) (φ : List Addr) (H : Hp) (a : Addr) : PObj → Prop
  | .lst ds => ∃ vs, H a = some (.lst vs) ∧ RepVs G φ H ds vs
  | .dic kvs => kvs.length ≤ sizeLine ∧ ((∃ kvs', H a = some (.dK kvs') ∧ Paired (RepK G φ H) kvs kvs') ∨
      ∃ xs, kvs ≠ [] ∧ H a = some (NdO G.P G.w a xs) ∧ (a == sysModules) = false ∧ (xs.map (·.1)).Nodup ∧ Paired (RepE G φ H) kvs xs)
  | .set ds => ∃ xs ks : List Str, ds = xs.map PV.str ∧ H a = some (TxO G.w a ks) ∧ ks.Perm xs ∧ xs.length < 64
  | .ins c fs => (fs.map (·.1)).Nodup ∧ ∃ C dx, G.mg (G.nm c) = some (.ref C) ∧
      ((G.isSl c = false ∧ ∃ fs', H a = some (.ins C dx fs') ∧ fs'.length ≤ fs.length ∧ (∀ f d, fs.lookup f = some d → G.fld c f = true ∧ ∃ v, fs'.lookup (G.nm f) = some v ∧ RepV G φ H d v) ∧ ∀ x v, fs'.lookup x = some v → ∃ f, G.nm f = x ∧ (fs.lookup f).isSome = true) ∨
       (G.isSl c = true ∧ ∃ vs, SlX.Slt H a C dx vs ∧ SlW H a dx ∧ ∀ f d, fs.lookup f = some d → ∃ i v, G.slot c f = some i ∧ vs[i]? = some (some v) ∧ RepV G φ H d v))
/-- a table of code objects, none of them an object of ours -/
def TabZ (φ : List Addr) (H : Hp) (P : Addr) (q : Str) : Prop :=
  ∃ ps : Array Value, H P = some (.tbl ps) ∧ TriplesOk ps.toList ∧ ∀ (pos : Pos) (cv : Value), codeAmong pos ps.toList = some cv → ∃ c, cv = .ref c ∧ c ∉ φ ∧ H c = some (LamX.CodeO c q)
structure RelH (G : Gc) (φ : List Addr) (h : PHeap) (H : Hp) : Prop where
  tab : ∀ p ∈ G.T, TabZ φ H p.1 p.2
  len : φ.length = h.length
  nd : φ.Nodup
  obj : ∀ (i : Nat) (o : PObj) (a : Addr), h[i]? = some o → φ[i]? = some a → RepO G φ H a o
/-- from φ, H on to φ', H': new places were free, what lies outside φ is kept (an instance's own dict may turn) -/
def Stays : HO → Prop
  | .own _ => False
  | .tbl _ => False
  | _ => True
structure Ext (φ : List Addr) (H : Hp) (φ' : List Addr) (H' : Hp) : Prop where
  pre : φ <+: φ'
  new : ∀ a, a ∈ φ' → a ∉ φ → ∀ o, H a = some o → (∀ ps, o ≠ .tbl ps) → False
  keep : ∀ a o, H a = some o → a ∉ φ → Stays o → H' a = some o
  own : ∀ a x, H a = some (.own x) → a ∉ φ → H' a = some (.own x) ∨ H' a = some (.xd [])
theorem Stays.nt {o : HO} (s : Stays o) : ∀ ps, o ≠ .tbl ps := fun ps e => by subst e; exact s
theorem Ext.refl {φ : List Addr} {H : Hp} : Ext φ H φ H := ⟨List.prefix_refl _, fun _ h n => absurd h n, fun _ _ h _ _ => h, fun _ _ h _ => .inl h⟩
theorem Ext.live {φ φ' : List Addr} {H H' : Hp} (x : Ext φ H φ' H') : ∀ a o, H a = some o → (∀ ps, o ≠ .tbl ps) → a ∉ φ → ∃ o', H' a = some o' ∧ ∀ ps, o' ≠ .tbl ps := fun a o h nt n => by
  cases o with
  | own y =>
    rcases x.own a y h n with e | e
    · exact ⟨_, e, fun _ z => nomatch z⟩
    · exact ⟨_, e, fun _ z => nomatch z⟩
  | tbl ps => exact absurd rfl (nt ps)
  | _ => exact ⟨_, x.keep a _ h n trivial, nt⟩
theorem Ext.trans {φ φ1 φ2 : List Addr} {H H1 H2 : Hp} (a : Ext φ H φ1 H1) (b : Ext φ1 H1 φ2 H2) : Ext φ H φ2 H2 where
  pre := a.pre.trans b.pre
  new := fun x h n o e nt => by
    by_cases q : x ∈ φ1
    · exact a.new x q n o e nt
    · obtain ⟨o', e', nt'⟩ := a.live x o e nt n
      exact b.new x h q o' e' nt'
  keep := fun x o h n no => b.keep x o (a.keep x o h n no) (fun q => a.new x q n o h no.nt) no
  own := fun x y h n => by
    have nx : x ∉ φ1 := fun q => a.new x q n _ h fun _ z => nomatch z
    rcases a.own x y h n with e | e
    · exact b.own x y e nx
    · exact .inr (b.keep x _ e nx trivial)
/-- kept outside of φ: all -/
theorem Ext.of {φ φ' : List Addr} {H H' : Hp} (pre : φ <+: φ') (new : ∀ a, a ∈ φ' → a ∉ φ → H a = none) (keep : ∀ a o, H a = some o → a ∉ φ → H' a = some o) : Ext φ H φ' H' :=
  ⟨pre, fun a h n o e _ => (nomatch (new a h n).symm.trans e), fun a o h n _ => keep a o h n, fun a x h n => .inl (keep a _ h n)⟩
/-- a table stays, where all outside of φ stays -/
theorem TabZ.stay {φ φ' : List Addr} {H H' : Hp} {P : Addr} {q : Str} (t : TabZ φ H P q) (nP : P ∉ φ) (new : ∀ a, a ∈ φ' → a ∉ φ → ∀ o, H a = some o → (∀ ps, o ≠ .tbl ps) → False) (keep : ∀ a o, H a = some o → a ∉ φ → (∀ x, o ≠ .own x) → (∀ xs, o ≠ .lst xs) → H' a = some o) : TabZ φ' H' P q := by
  obtain ⟨ps, e, k, f⟩ := t
  refine ⟨ps, keep _ _ e nP (fun _ z => (nomatch z)) (fun _ z => (nomatch z)), k, fun pos cv hc => ?_⟩
  obtain ⟨c, e1, n, e2⟩ := f pos cv hc
  refine ⟨c, e1, fun hm => ?_, keep _ _ e2 n (fun _ z => (nomatch z)) (fun _ z => (nomatch z))⟩
  exact new c hm n _ e2 fun _ z => nomatch z
theorem pre_get {φ φ' : List Addr} (h : φ <+: φ') {i : Nat} {a : Addr} (e : φ[i]? = some a) : φ'[i]? = some a := by
  obtain ⟨t, rfl⟩ := h
  obtain ⟨hi, _⟩ := List.getElem?_eq_some_iff.mp e
  rw [List.getElem?_append_left hi]; exact e
theorem RepO.some {G : Gc} {φ : List Addr} {H : Hp} {a : Addr} {o : PObj} (h : RepO G φ H a o) : ∃ u, H a = some u ∧ (∀ xs, u ≠ .tup xs) ∧ (∀ ob q, u ≠ .frz ob q) ∧ (∀ x, u ≠ .own x) ∧ (∀ fs, u ≠ .xd fs) ∧ ∀ ps, u ≠ .tbl ps := by
  cases o with
  | lst ds => obtain ⟨vs, e, _⟩ := h; exact ⟨_, e, fun _ q => (nomatch q), fun _ _ q => (nomatch q), fun _ q => (nomatch q), fun _ q => (nomatch q), fun _ q => (nomatch q)⟩
  | dic kvs =>
    obtain ⟨_, ⟨_, e, _⟩ | ⟨_, _, e, _⟩⟩ := h
    · exact ⟨_, e, fun _ q => (nomatch q), fun _ _ q => (nomatch q), fun _ q => (nomatch q), fun _ q => (nomatch q), fun _ q => (nomatch q)⟩
    · exact ⟨_, e, fun _ q => (nomatch q), fun _ _ q => (nomatch q), fun _ q => (nomatch q), fun _ q => (nomatch q), fun _ q => (nomatch q)⟩
  | set => obtain ⟨_, _, _, e, _⟩ := h; exact ⟨_, e, fun _ q => (nomatch q), fun _ _ q => (nomatch q), fun _ q => (nomatch q), fun _ q => (nomatch q), fun _ q => (nomatch q)⟩
  | ins c fs =>
    obtain ⟨_, C, dx, _, ⟨_, _, e, _⟩ | ⟨_, _, ⟨e, _⟩ | ⟨e, _⟩, _⟩⟩ := h
    · exact ⟨_, e, fun _ q => (nomatch q), fun _ _ q => (nomatch q), fun _ q => (nomatch q), fun _ q => (nomatch q), fun _ q => (nomatch q)⟩
    · exact ⟨_, e, fun _ q => (nomatch q), fun _ _ q => (nomatch q), fun _ q => (nomatch q), fun _ q => (nomatch q), fun _ q => (nomatch q)⟩
    · exact ⟨_, e, fun _ q => (nomatch q), fun _ _ q => (nomatch q), fun _ q => (nomatch q), fun _ q => (nomatch q), fun _ q => (nomatch q)⟩
section
variable {G : Gc} {φ φ' : List Addr} {h h' : PHeap} {H H' : Hp} {a : Addr} {d : PV} {v : V} {ds : List PV} {vs : List V} {l : List (Option PV)} {σ : St}
theorem RelH.at (r : RelH G φ h H) (hm : a ∈ φ) : ∃ (i : Nat) (o : PObj), φ[i]? = some a ∧ h[i]? = some o ∧ RepO G φ H a o := by
  obtain ⟨i, hi, e⟩ := List.mem_iff_getElem.mp hm
  have hi' : i < h.length := by rw [← r.len]; exact hi
  have e1 : φ[i]? = some a := by rw [List.getElem?_eq_getElem hi, e]
  exact ⟨i, h[i], e1, List.getElem?_eq_getElem hi', r.obj i _ a (List.getElem?_eq_getElem hi') e1⟩
theorem RelH.notTup (r : RelH G φ h H) {xs : List V} (e : H a = some (.tup xs)) : a ∉ φ := fun hm => by
  obtain ⟨i, o, _, _, ro⟩ := r.at hm
  obtain ⟨u, eu, n, _⟩ := ro.some
  rw [eu] at e; cases e; exact n _ rfl
theorem RelH.notFrz (r : RelH G φ h H) {o : Obj} {q : HO} (e : H a = some (.frz o q)) : a ∉ φ := fun hm => by
  obtain ⟨i, _, _, _, ro⟩ := r.at hm
  obtain ⟨u, eu, _, n, _⟩ := ro.some
  rw [eu] at e; cases e; exact n _ _ rfl
theorem RelH.notXd (r : RelH G φ h H) {fs : List (Str × V)} (e : H a = some (.xd fs)) : a ∉ φ := fun hm => by
  obtain ⟨i, _, _, _, ro⟩ := r.at hm
  obtain ⟨u, eu, _, _, _, n, _⟩ := ro.some
  rw [eu] at e; cases e; exact n _ rfl
theorem RelH.notOwn (r : RelH G φ h H) {x : Addr} (e : H a = some (.own x)) : a ∉ φ := fun hm => by
  obtain ⟨i, _, _, _, ro⟩ := r.at hm
  obtain ⟨u, eu, _, _, n, _⟩ := ro.some
  rw [eu] at e; cases e; exact n _ rfl
theorem RelH.notTbl (r : RelH G φ h H) {ps : Array Value} (e : H a = some (.tbl ps)) : a ∉ φ := fun hm => by
  obtain ⟨i, _, _, _, ro⟩ := r.at hm
  obtain ⟨u, eu, _, _, _, _, n⟩ := ro.some
  rw [eu] at e; cases e; exact n _ rfl
theorem RelH.tabs (r : RelH G φ h H) (new : ∀ a, a ∈ φ' → a ∉ φ → ∀ o, H a = some o → (∀ ps, o ≠ .tbl ps) → False) (keep : ∀ a o, H a = some o → a ∉ φ → (∀ x, o ≠ .own x) → (∀ xs, o ≠ .lst xs) → H' a = some o) : ∀ p ∈ G.T, TabZ φ' H' p.1 p.2 := fun p hp => by
  have t := r.tab p hp
  obtain ⟨ps, e, _⟩ := id t
  exact t.stay (r.notTbl e) new keep
theorem RelH.free (r : RelH G φ h H) {p : Addr} (e : H p = none) : p ∉ φ := fun hm => by
  obtain ⟨i, _, _, _, ro⟩ := r.at hm
  obtain ⟨u, eu, _⟩ := ro.some
  rw [eu] at e; cases e
theorem sqT_ext (r : RelH G φ h H) (x : Ext φ H φ' H') (s : SqT G.K H a vs) : SqT G.K H' a vs := by
  rcases s with (s | ⟨o, s⟩) | s
  · exact .inl (.inl (x.keep _ _ s (r.notTup s) trivial))
  · exact .inl (.inr ⟨o, x.keep _ _ s (r.notFrz s) trivial⟩)
  · exact .inr s
theorem fzL_ext (r : RelH G φ h H) (x : Ext φ H φ' H') (s : FzL G.K H a vs) : FzL G.K H' a vs := by
  obtain ⟨o, s⟩ := s
  exact ⟨o, x.keep _ _ s (r.notFrz s) trivial⟩
theorem fzK_ext (r : RelH G φ h H) (x : Ext φ H φ' H') (s : FzK G.K H a vs) : FzK G.K H' a vs := s.imp (fzL_ext r x) id
theorem Ext.nin (x : Ext φ H φ' H') {o : HO} (e : H a = some o) (n : a ∉ φ) (nt : ∀ ps, o ≠ .tbl ps) : a ∉ φ' := fun h => x.new a h n o e nt
theorem SlW.ext (r : RelH G φ h H) (x : Ext φ H φ' H') {dx : Addr} (s : SlW H a dx) : SlW H' a dx :=
  ⟨s.1, s.2.elim (fun q => x.own _ _ q (r.notOwn q)) fun q => .inr (x.keep _ _ q (r.notXd q) trivial)⟩
theorem Slt.ext (r : RelH G φ h H) (x : Ext φ H φ' H') (n : a ∉ φ) {C dx : Addr} {ws : List (Option V)} (s : SlX.Slt H a C dx ws) : SlX.Slt H' a C dx ws := by
  rcases s with ⟨h1, h2⟩ | ⟨h1, h2⟩
  · exact .inl ⟨x.keep _ _ h1 n trivial, h2⟩
  · exact .inr ⟨x.keep _ _ h1 n trivial, x.keep _ _ h2 (r.notXd h2) trivial⟩
theorem Slt.some {C dx : Addr} {ws : List (Option V)} (s : SlX.Slt H a C dx ws) : ∃ o, H a = .some o ∧ ∀ ps, o ≠ .tbl ps := by
  rcases s with ⟨h1, _⟩ | ⟨h1, _⟩ <;> exact ⟨_, h1, fun _ z => nomatch z⟩
mutual
theorem repV_ext (r : RelH G φ h H) (x : Ext φ H φ' H') : ∀ {d : PV} {v : V}, RepV G φ H d v → RepV G φ' H' d v
  | _, _, .non => .non
  | _, _, .bl b => .bl b
  | _, _, .int i => .int i
  | _, _, .str s => .str s
  | _, _, .ty n => .ty n
  | _, _, .tup s q => .tup (sqT_ext r x s) (repVs_ext r x q)
  | _, _, .fl s q => .fl (fzL_ext r x s) (repVs_ext r x q)
  | _, _, .fdK z e q => .fdK z (x.keep _ _ e (r.notFrz e) trivial) (repKs_ext r x q)
  | _, _, .fdN z ne e m nd q => .fdN z ne (x.keep _ _ e (r.notFrz e) trivial) m nd (repEs_ext r x q)
  | _, _, .fset z e p l => .fset z (x.keep _ _ e (r.notFrz e) trivial) p l
  | _, _, .fiP vs u n c s e l k q w => .fiP vs u (x.nin e n fun _ z => nomatch z) c s (x.keep _ _ e n trivial) l k (fun f d hf => repV_ext r x (q f d hf)) w
  | _, _, .fiS vs u n c s e l k q => .fiS vs u (let ⟨_, e1, nt⟩ := Slt.some e; x.nin e1 n nt) c s (Slt.ext r x n e) (l.ext r x) k (fun f d hf => repV_ext r x (q f d hf))
  | _, _, .scr e => .scr (fzK_ext r x e)
  | _, _, .ref e => .ref (pre_get x.pre e)
  | _, _, .gl e => .gl e
theorem repVs_ext (r : RelH G φ h H) (x : Ext φ H φ' H') : ∀ {ds : List PV} {vs : List V}, RepVs G φ H ds vs → RepVs G φ' H' ds vs
  | _, _, .nil => .nil
  | _, _, .cons a b => .cons (repV_ext r x a) (repVs_ext r x b)
theorem repKs_ext (r : RelH G φ h H) (x : Ext φ H φ' H') : ∀ {l : List (PV × PV)} {m : List (Key × V)}, RepKs G φ H l m → RepKs G φ' H' l m
  | _, _, .nil => .nil
  | _, _, .cons a b c => .cons a (repV_ext r x b) (repKs_ext r x c)
theorem repEs_ext (r : RelH G φ h H) (x : Ext φ H φ' H') : ∀ {l : List (PV × PV)} {m : List (NestedKey × Addr × Value)}, RepEs G φ H l m → RepEs G φ' H' l m
  | _, _, .nil => .nil
  | _, _, .cons a b c d e f => .cons a b (repV_ext r x c) d (repV_ext r x e) (repEs_ext r x f)
end
theorem RepVs.length : ∀ {ds : List PV} {vs : List V}, RepVs G φ H ds vs → ds.length = vs.length
  | _, _, .nil => rfl
  | _, _, .cons _ b => by simp [RepVs.length b]
theorem RepVs.append : ∀ {ds es : List PV} {vs ws : List V}, RepVs G φ H ds vs → RepVs G φ H es ws → RepVs G φ H (ds ++ es) (vs ++ ws)
  | _, _, _, _, .nil, q => q
  | _, _, _, _, .cons a b, q => .cons a (b.append q)
theorem RepVs.get : ∀ {ds : List PV} {vs : List V} {i : Nat} {d : PV}, RepVs G φ H ds vs → ds[i]? = some d → ∃ v, vs[i]? = some v ∧ RepV G φ H d v
  | _, _, _, _, .nil, e => by simp at e
  | _, _, 0, _, .cons a b, e => by simp at e; subst e; exact ⟨_, rfl, a⟩
  | _, _, i + 1, _, .cons a b, e => by simpa using b.get (i := i) (by simpa using e)
/-- the slots -/
def RepL (G : Gc) (φ : List Addr) (H : Hp) (l : List (Option PV)) (σ : St) : Prop :=
  l.length = σ.length ∧ ∀ (i : Nat) (d : PV), l[i]? = some (some d) → ∃ v, σ[i]? = some (some v) ∧ RepV G φ H d v
theorem repL_ext (r : RelH G φ h H) (x : Ext φ H φ' H') (q : RepL G φ H l σ) : RepL G φ' H' l σ := ⟨q.1, fun i d e => by
  obtain ⟨v, e1, e2⟩ := q.2 i d e
  exact ⟨v, e1, repV_ext r x e2⟩⟩
theorem RepL.set (q : RepL G φ H l σ) {i : Nat} (rv : RepV G φ H d v) : RepL G φ H (l.set i (some d)) (σ.set i (some v)) := by
  refine ⟨by simpa using q.1, fun j e hj => ?_⟩
  by_cases z : j = i
  · subst z
    have hl : j < l.length := by
      have := (List.getElem?_eq_some_iff.mp hj).1
      simpa using this
    rw [List.getElem?_set_self hl] at hj
    cases hj
    exact ⟨v, List.getElem?_set_self (by rw [← q.1]; exact hl), rv⟩
  · rw [List.getElem?_set_ne (Ne.symm z)] at hj ⊢
    exact q.2 j e hj
end

/-! ### readings by functions -/
/-- an exception: its class, its own dict -/
def RepX (G : Gc) (φ : List Addr) (H : Hp) (c : PV) (fs : List (Nat × PV)) (cls : Value) (d : Option Addr) : Prop :=
  ((∃ x a, c = .gl x ∧ G.mg (G.nm x) = some (.ref a) ∧ cls = .ref a) ∨ ∃ n, c = .ty n ∧ cls = .type n) ∧
  (fs = [] ∨ ∃ dd ws, d = some dd ∧ H dd = some (.xd ws) ∧ ∀ f e, fs.lookup f = some e → ∃ w, ws.lookup (G.nm f) = some w ∧ RepV G φ H e w)

/-- what is wanted of an answer -/
def Post (G : Gc) (φ : List Addr) (H : Hp) (r : R PV) (Q : VK) (E : XK) : Prop :=
  match r with
  | .ok d h' => ∀ φ' H' v, Ext φ H φ' H' → RelH G φ' h' H' → RepV G φ' H' d v → Q v H'
  | .exc c fs h' => ∀ φ' H' cls dd, Ext φ H φ' H' → RelH G φ' h' H' → RepX G φ' H' c fs cls dd → E cls dd H'
  | .stuck => False
/-- a function of values and heap: the reading of a call, an operator -/
def rF (G : Gc) (F : List PV → PHeap → R PV) (vs : List V) (H : Hp) (Q : VK) (E : XK) : Prop :=
  ∃ φ h ds, RelH G φ h H ∧ RepVs G φ H ds vs ∧ Post G φ H (F ds h) Q E
abbrev Loc := List (Option PV)
/-- an expression's reading -/
def tEv (G : Gc) (W : WX) (f : Loc → PHeap → R PV) : TE := fun σ H Q =>
  ∃ φ l h, RelH G φ h H ∧ RepL G φ H l σ ∧ Post G φ H (f l h) Q (fun c d H' => W c d σ H')
/-- an argument list's -/
def PostA (G : Gc) (φ : List Addr) (H : Hp) (r : R (List PV)) (Q : List V → Hp → Prop) (E : XK) : Prop :=
  match r with
  | .ok ds h' => ∀ φ' H' vs, Ext φ H φ' H' → RelH G φ' h' H' → RepVs G φ' H' ds vs → Q vs H'
  | .exc c fs h' => ∀ φ' H' cls dd, Ext φ H φ' H' → RelH G φ' h' H' → RepX G φ' H' c fs cls dd → E cls dd H'
  | .stuck => False
def tEvA (G : Gc) (W : WX) (f : Loc → PHeap → R (List PV)) : TA := fun σ H Q =>
  ∃ φ l h, RelH G φ h H ∧ RepL G φ H l σ ∧ PostA G φ H (f l h) Q (fun c d H' => W c d σ H')
/-- a test's -/
def PostT (G : Gc) (φ : List Addr) (H : Hp) (r : R Bool) (Q : Bool → Hp → Prop) (E : XK) : Prop :=
  match r with
  | .ok b h' => ∀ φ' H', Ext φ H φ' H' → RelH G φ' h' H' → Q b H'
  | .exc c fs h' => ∀ φ' H' cls dd, Ext φ H φ' H' → RelH G φ' h' H' → RepX G φ' H' c fs cls dd → E cls dd H'
  | .stuck => False
def tEvT (G : Gc) (W : WX) (f : Loc → PHeap → R Bool) : TT := fun σ H Q =>
  ∃ φ l h, RelH G φ h H ∧ RepL G φ H l σ ∧ PostT G φ H (f l h) Q (fun c d H' => W c d σ H')

section
variable {G : Gc} {φ : List Addr} {h : PHeap} {H : Hp} {W : WX} {l : Loc} {σ : St}
theorem Post.bind {r : R PV} {k : PV → PHeap → R PV} {Q : VK} {E : XK} (p : Post G φ H (r.bind k) Q E) :
    Post G φ H r (fun v H1 => ∃ φ1 h1 d1, Ext φ H φ1 H1 ∧ RelH G φ1 h1 H1 ∧ RepV G φ1 H1 d1 v ∧ Post G φ H (k d1 h1) Q E) E := by
  cases r with
  | ok d h' => exact fun φ' H' v x rh rv => ⟨φ', h', d, x, rh, rv, p⟩
  | exc c fs h' => exact p
  | stuck => exact p
theorem Post.ext {φ1 : List Addr} {H1 : Hp} {r : R PV} {Q : VK} {E : XK} (x : Ext φ H φ1 H1) (p : Post G φ H r Q E) : Post G φ1 H1 r Q E := by
  cases r with
  | ok d h' => exact fun φ' H' v x1 rh rv => p φ' H' v (x.trans x1) rh rv
  | exc c fs h' => exact fun φ' H' cls dd x1 rh rx => p φ' H' cls dd (x.trans x1) rh rx
  | stuck => exact p
theorem PostA.ext {φ1 : List Addr} {H1 : Hp} {r : R (List PV)} {Q : List V → Hp → Prop} {E : XK} (x : Ext φ H φ1 H1) (p : PostA G φ H r Q E) : PostA G φ1 H1 r Q E := by
  cases r with
  | ok d h' => exact fun φ' H' v x1 rh rv => p φ' H' v (x.trans x1) rh rv
  | exc c fs h' => exact fun φ' H' cls dd x1 rh rx => p φ' H' cls dd (x.trans x1) rh rx
  | stuck => exact p
theorem PostT.ext {φ1 : List Addr} {H1 : Hp} {r : R Bool} {Q : Bool → Hp → Prop} {E : XK} (x : Ext φ H φ1 H1) (p : PostT G φ H r Q E) : PostT G φ1 H1 r Q E := by
  cases r with
  | ok d h' => exact fun φ' H' x1 rh => p φ' H' (x.trans x1) rh
  | exc c fs h' => exact fun φ' H' cls dd x1 rh rx => p φ' H' cls dd (x.trans x1) rh rx
  | stuck => exact p
theorem Post.mono {r : R PV} {Q Q' : VK} {E : XK} (p : Post G φ H r Q E) (hq : ∀ v H', Q v H' → Q' v H') : Post G φ H r Q' E := by
  cases r with
  | ok d h' => exact fun φ' H' v x1 rh rv => hq _ _ (p φ' H' v x1 rh rv)
  | exc c fs h' => exact p
  | stuck => exact p
end
/-- weaken a reading -/
theorem pe_imp {X : Cx} {e : Expr} {t t' : TE} (h : PE X e t) (i : ∀ σ H Q, t' σ H Q → t σ H Q) : PE X e t' := ⟨fun pins s σ H Q I q => h.run pins s σ H Q I (i _ _ _ q)⟩
theorem pt_imp {X : Cx} {e : Expr} {t t' : TT} (h : PT X e t) (i : ∀ σ H Q, t' σ H Q → t σ H Q) : PT X e t' := ⟨fun pins s σ H Q I q => h.run pins s σ H Q I (i _ _ _ q)⟩
theorem pa_imp {X : Cx} {e : List Expr} {t t' : TA} (h : PA X e t) (i : ∀ σ H Q, t' σ H Q → t σ H Q) : PA X e t' := ⟨fun pos pins s σ H Q I q => h.run pos pins s σ H Q I (i _ _ _ q)⟩
theorem ps_imp {X : Cx} {e : Stmt} {t t' : TS} (h : PS X e t) (i : ∀ D σ H, t' D σ H → t D σ H) : PS X e t' := ⟨fun pins s σ H D I q => h.run pins s σ H D I (i _ _ _ q)⟩
theorem pss_imp {X : Cx} {e : List Stmt} {t t' : TS} (h : PSs X e t) (i : ∀ D σ H, t' D σ H → t D σ H) : PSs X e t' := ⟨fun pins s σ H D I q => h.run pins s σ H D I (i _ _ _ q)⟩

/-- a built-in's work: a value and the heap behind it, or nothing -/
abbrev Pf := List PV → PHeap → Option (PV × PHeap)
def liftP : Option (PV × PHeap) → R PV
  | some (d, h) => .ok d h
  | none => .stuck
def rP (G : Gc) (F : Pf) (vs : List V) (H : Hp) (Q : VK) : Prop :=
  ∃ φ h ds d h', RelH G φ h H ∧ RepVs G φ H ds vs ∧ F ds h = some (d, h') ∧ ∀ φ' H' v, Ext φ H φ' H' → RelH G φ' h' H' → RepV G φ' H' d v → Q v H'
theorem Post.lift {G : Gc} {φ : List Addr} {H : Hp} {r : Option (PV × PHeap)} {Q : VK} {E : XK} (p : Post G φ H (liftP r) Q E) :
    ∃ d h', r = some (d, h') ∧ ∀ φ' H' v, Ext φ H φ' H' → RelH G φ' h' H' → RepV G φ' H' d v → Q v H' := by
  match r, p with
  | some (d, h'), p => exact ⟨d, h', rfl, p⟩
section
variable {G : Gc} {W : WX} {φ : List Addr} {h : PHeap} {H : Hp} {l : Loc} {σ : St}
theorem PostA.bind {r : R (List PV)} {k : List PV → PHeap → R PV} {Q : VK} {E : XK} (p : Post G φ H (r.bind k) Q E) :
    PostA G φ H r (fun v H1 => ∃ φ1 h1 d1, Ext φ H φ1 H1 ∧ RelH G φ1 h1 H1 ∧ RepVs G φ1 H1 d1 v ∧ Post G φ H (k d1 h1) Q E) E := by
  cases r with
  | ok d h' => exact fun φ' H' v x rh rv => ⟨φ', h', d, x, rh, rv, p⟩
  | exc c fs h' => exact p
  | stuck => exact p
theorem PostT.bind {r : R Bool} {k : Bool → PHeap → R PV} {Q : VK} {E : XK} (p : Post G φ H (r.bind k) Q E) :
    PostT G φ H r (fun b H1 => ∃ φ1 h1, Ext φ H φ1 H1 ∧ RelH G φ1 h1 H1 ∧ Post G φ H (k b h1) Q E) E := by
  cases r with
  | ok d h' => exact fun φ' H' x rh => ⟨φ', h', x, rh, p⟩
  | exc c fs h' => exact p
  | stuck => exact p
theorem Post.bindA {r : R PV} {k : PV → PHeap → R (List PV)} {Q : List V → Hp → Prop} {E : XK} (p : PostA G φ H (r.bind k) Q E) :
    Post G φ H r (fun v H1 => ∃ φ1 h1 d1, Ext φ H φ1 H1 ∧ RelH G φ1 h1 H1 ∧ RepV G φ1 H1 d1 v ∧ PostA G φ H (k d1 h1) Q E) E := by
  cases r with
  | ok d h' => exact fun φ' H' v x rh rv => ⟨φ', h', d, x, rh, rv, p⟩
  | exc c fs h' => exact p
  | stuck => exact p
theorem PostA.bindA {r : R (List PV)} {k : List PV → PHeap → R (List PV)} {Q : List V → Hp → Prop} {E : XK} (p : PostA G φ H (r.bind k) Q E) :
    PostA G φ H r (fun v H1 => ∃ φ1 h1 d1, Ext φ H φ1 H1 ∧ RelH G φ1 h1 H1 ∧ RepVs G φ1 H1 d1 v ∧ PostA G φ H (k d1 h1) Q E) E := by
  cases r with
  | ok d h' => exact fun φ' H' v x rh rv => ⟨φ', h', d, x, rh, rv, p⟩
  | exc c fs h' => exact p
  | stuck => exact p
theorem Post.bindT {r : R PV} {k : PV → PHeap → R Bool} {Q : Bool → Hp → Prop} {E : XK} (p : PostT G φ H (r.bind k) Q E) :
    Post G φ H r (fun v H1 => ∃ φ1 h1 d1, Ext φ H φ1 H1 ∧ RelH G φ1 h1 H1 ∧ RepV G φ1 H1 d1 v ∧ PostT G φ H (k d1 h1) Q E) E := by
  cases r with
  | ok d h' => exact fun φ' H' v x rh rv => ⟨φ', h', d, x, rh, rv, p⟩
  | exc c fs h' => exact p
  | stuck => exact p
theorem PostT.bindT {r : R Bool} {k : Bool → PHeap → R Bool} {Q : Bool → Hp → Prop} {E : XK} (p : PostT G φ H (r.bind k) Q E) :
    PostT G φ H r (fun b H1 => ∃ φ1 h1, Ext φ H φ1 H1 ∧ RelH G φ1 h1 H1 ∧ PostT G φ H (k b h1) Q E) E := by
  cases r with
  | ok d h' => exact fun φ' H' x rh => ⟨φ', h', x, rh, p⟩
  | exc c fs h' => exact p
  | stuck => exact p
theorem PostA.mono {r : R (List PV)} {Q Q' : List V → Hp → Prop} {E : XK} (p : PostA G φ H r Q E) (hq : ∀ v H', Q v H' → Q' v H') : PostA G φ H r Q' E := by
  cases r with
  | ok d h' => exact fun φ' H' v x1 rh rv => hq _ _ (p φ' H' v x1 rh rv)
  | exc c fs h' => exact p
  | stuck => exact p
theorem PostT.mono {r : R Bool} {Q Q' : Bool → Hp → Prop} {E : XK} (p : PostT G φ H r Q E) (hq : ∀ v H', Q v H' → Q' v H') : PostT G φ H r Q' E := by
  cases r with
  | ok d h' => exact fun φ' H' x1 rh => hq _ _ (p φ' H' x1 rh)
  | exc c fs h' => exact p
  | stuck => exact p

/-- two expressions, then an operator -/
def ev2 (fa fb : Loc → PHeap → R PV) (F : Pf) : Loc → PHeap → R PV := fun l h => (fa l h).bind fun x h1 => (fb l h1).bind fun y h2 => liftP (F [x, y] h2)
def ev1 (fa : Loc → PHeap → R PV) (F : Pf) : Loc → PHeap → R PV := fun l h => (fa l h).bind fun x h1 => liftP (F [x] h1)
def evN (fa : Loc → PHeap → R (List PV)) (F : Pf) : Loc → PHeap → R PV := fun l h => (fa l h).bind fun x h1 => liftP (F x h1)
def r2 (G : Gc) (F : Pf) : R2 := fun x y H Q => rP G F [x, y] H Q
theorem tOp_ev {fa fb : Loc → PHeap → R PV} {F : Pf} (σ : St) (H : Hp) (Q : VK) (t : tEv G W (ev2 fa fb F) σ H Q) :
    tOp (r2 G F) (tEv G W fa) (tEv G W fb) σ H Q := by
  obtain ⟨φ, l, h, rh, rl, p⟩ := t
  refine ⟨φ, l, h, rh, rl, Post.mono (Post.bind p) fun v H1 ⟨φ1, h1, d1, x1, rh1, rv1, p1⟩ => ?_⟩
  refine ⟨φ1, l, h1, rh1, repL_ext rh x1 rl, Post.mono (Post.bind (p1.ext x1)) fun w H2 ⟨φ2, h2, d2, x2, rh2, rv2, p2⟩ => ?_⟩
  obtain ⟨d, h', e, q⟩ := Post.lift (p2.ext x2)
  exact ⟨φ2, h2, [d1, d2], d, h', rh2, .cons (repV_ext rh1 x2 rv1) (.cons rv2 .nil), e, q⟩
theorem tCB_ev {fa : Loc → PHeap → R (List PV)} {F : Pf} (σ : St) (H : Hp) (Q : VK) (t : tEv G W (evN fa F) σ H Q) :
    tCB (rP G F) (tEvA G W fa) σ H Q := by
  obtain ⟨φ, l, h, rh, rl, p⟩ := t
  refine ⟨φ, l, h, rh, rl, PostA.mono (PostA.bind p) fun v H1 ⟨φ1, h1, d1, x1, rh1, rv1, p1⟩ => ?_⟩
  obtain ⟨d, h', e, q⟩ := Post.lift (p1.ext x1)
  exact ⟨φ1, h1, d1, d, h', rh1, rv1, e, q⟩
/-- argument lists -/
def evNil : Loc → PHeap → R (List PV) := fun _ h => .ok [] h
def evCons (fa : Loc → PHeap → R PV) (fr : Loc → PHeap → R (List PV)) : Loc → PHeap → R (List PV) := fun l h => (fa l h).bind fun x h1 => (fr l h1).bind fun xs h2 => .ok (x :: xs) h2
theorem tNil_ev (σ : St) (H : Hp) (Q : List V → Hp → Prop) (t : tEvA G W evNil σ H Q) : tNil σ H Q := by
  obtain ⟨φ, l, h, rh, rl, p⟩ := t
  exact p φ H [] .refl rh .nil
theorem tCons_ev {fa : Loc → PHeap → R PV} {fr : Loc → PHeap → R (List PV)} (σ : St) (H : Hp) (Q : List V → Hp → Prop) (t : tEvA G W (evCons fa fr) σ H Q) : tCons (tEv G W fa) (tEvA G W fr) σ H Q := by
  obtain ⟨φ, l, h, rh, rl, p⟩ := t
  refine ⟨φ, l, h, rh, rl, Post.mono (Post.bindA p) fun v H1 ⟨φ1, h1, d1, x1, rh1, rv1, p1⟩ => ?_⟩
  refine ⟨φ1, l, h1, rh1, repL_ext rh x1 rl, PostA.mono (PostA.bindA (p1.ext x1)) fun w H2 ⟨φ2, h2, d2, x2, rh2, rv2, p2⟩ => ?_⟩
  exact (p2.ext x2) φ2 H2 (v :: w) .refl rh2 (.cons (repV_ext rh1 x2 rv1) rv2)
end
end Zed
end
section
set_option Elab.async false
set_option linter.all false
set_option maxRecDepth 100000
namespace Zed
open PySem L2

/-! ### the small language -/
inductive Bop where | add | sub | mul | fdiv | mod | pow
  deriving DecidableEq
inductive Cop where | lt | le | gt | ge | eq | ne | isin | notin | is | isnot
  deriving DecidableEq
inductive Bi where | len | isinstance | all | abs | int | max | min | tuple | list | listm | sorted | set | repr | reprc | str
  deriving DecidableEq
inductive Mi where | append | extend | pop
  deriving DecidableEq
/-- methods of texts -/
inductive TxM where | join | startswith | removeprefix
  deriving DecidableEq
/-- what a clause tells of the error that it caught; what a def does with what a call gives -/
inductive Hx where
  | con (d : PV)
  | fld (f : Nat)
  | add (a b : Hx)
  | rep (a : Hx)
  | num (a : Hx)
  | tup (a b : Hx)
inductive Bk where
  | drop (d : PV)
  | ret
  | pair (x : Str)
mutual
inductive Tg where
  | nm (i : Nat)
  | tp (ts : Tgs)
inductive Tgs where
  | nil
  | cons (t : Tg) (ts : Tgs)
end
mutual
inductive Ex where
  | loc (i : Nat)
  | con (d : PV)
  | bin (op : Bop) (a b : Ex)
  | neg (a : Ex)
  | not (a : Ex)
  | cmp (op : Cop) (a b : Ex)
  | chn (op op' : Cop) (a b c : Ex)
  | and (a b : Ex)
  | or (a b : Ex)
  | ite (c a b : Ex)
  | tup (es : Exs)
  | lst (z : Bool) (es : Exs)
  | call (f : Nat) (es : Exs)
  | make (c f : Nat) (es : Exs)
  | blt (b : Bi) (es : Exs)
  | meth (m : Mi) (o : Ex) (es : Exs)
  | sub (o i : Ex)
  | slc (o : Ex) (lo hi : Op)
  | attr (o : Ex) (f : Nat)
  | lc (z : Bool) (elt : Ex) (tg : Tg) (it : Itr) (ifs : Op) (own : List Nat)
  | dic0 (z : Bool)
  /-- a call of a def that calls a lambda and tells how it ended -/
  | met (m : Nat) (e : Ex)
  /-- l.pop() -/
  | pop (o : Ex)
  /-- l[::-1] -/
  | rev (z : Bool) (o : Ex)
  /-- a method of an own class, with arguments; without -/
  | mcl (m : Nat) (o : Ex) (es : Exs)
  | mc0 (m : Nat) (o : Ex)
  /-- isinstance of an own class -/
  | isi (es : Exs)
  /-- ==, != of two instances by an own __eq__ -/
  | oeq (ne : Bool) (a b : Ex)
  /-- C.m(..), a classmethod -/
  | cmt (c m : Nat) (es : Exs)
  /-- cls(..): an instance is made, the class in a slot -/
  | mkl (i c f : Nat) (es : Exs)
  /-- o.f, a property of an own class -/
  | prp (f : Nat) (o : Ex)
  /-- len(o), str(o), o[i], i in o by an own class's def; m: its name's number -/
  | dln (m : Nat) (o : Ex)
  | dst (m : Nat) (o : Ex)
  | dgt (m : Nat) (o i : Ex)
  | din (m : Nat) (i o : Ex)
  /-- a set of texts, made by a comprehension without if -/
  | sc (elt : Ex) (tg : Tg) (it : Itr) (own : List Nat)
  /-- the parts of an f-string: texts and numbers -/
  | fst (es : Exs)
  /-- a method of a text, with one argument -/
  | tm (k : TxM) (o e : Ex)
inductive Exs where
  | nil
  | cons (e : Ex) (es : Exs)
  | star (e : Ex) (es : Exs)
inductive Op where
  | no
  | yes (e : Ex)
inductive Itr where
  | val (e : Ex)
  | rng1 (e : Ex)
  | rng2 (a b : Ex)
  | enm (e : Ex)
  | zp (a b : Ex)
end
mutual
inductive Sx where
  | ex (e : Ex)
  | asg (t : Tg) (e : Ex)
  | put (o i e : Ex)
  | fld (o : Ex) (f : Nat) (e : Ex)
  | ret (e : Ex)
  | ret0
  | iff (c : Ex) (a b : Sxs)
  | for_ (t : Tg) (it : Itr) (b : Sxs)
  | whl (c : Ex) (b : Sxs)
  | pass
  | brk
  | cnt
  /-- an own error without fields, made with a text -/
  | rai (c : Nat) (m : Str)
  /-- a statement of which nothing is told -/
  | stk
  /-- o.f += e, numbers, o of a class without slots -/
  | augf (o : Ex) (f : Nat) (e : Ex)
  /-- an own error that keeps a value -/
  | raf (c f : Nat) (e : Ex)
inductive Sxs where
  | nil
  | cons (s : Sx) (r : Sxs)
end

/-! ### built-ins -/
def mapO {α β : Type} (f : α → Option β) : List α → Option (List β)
  | [] => some []
  | a :: r => match f a, mapO f r with
    | some b, some bs => some (b :: bs)
    | _, _ => none
/-- what stands at a place, or is frozen -/
def objOf (h : PHeap) : PV → Option PObj
  | .fz o => some o
  | .ref i => h[i]?
  | _ => none
/-- what a value is as data -/
def toD (h : PHeap) : Nat → PV → Option PyData
  | _, .non => some .none
  | _, .bl b => some (.bool b)
  | _, .int i => some (.int i)
  | _, .str x => some (.str x)
  | n + 1, .tup ds => (mapO (toD h n) ds).map .tuple
  | n + 1, .fz o => match o with
    | .lst ds => (mapO (toD h n) ds).map .list
    | _ => none
  | n + 1, .ref i => match h[i]? with
    | some (.lst ds) => (mapO (toD h n) ds).map .list
    | _ => none
  | _, _ => none
def big : Nat := 2 ^ 9000
/-- the items of a list or a tuple -/
def lstOf (h : PHeap) (d : PV) : Option (List PV) := match objOf h d with
  | some (.lst ds) => some ds
  | _ => none
def seqOf (h : PHeap) : PV → Option (List PV)
  | .tup ds => some ds
  | .scr ns => some (ns.map .int)
  | d => lstOf h d
def truthF (h : PHeap) : PV → Option Bool
  | .non => some false
  | .bl b => some b
  | .int i => some (i != 0)
  | .str x => if x.length ≤ sizeLine then some (x.length != 0) else none
  | v => (seqOf h v).map fun ds => !ds.isEmpty
def newO (o : PObj) (h : PHeap) : PV × PHeap := (.ref h.length, h ++ [o])
/-- a new empty dict -/
def mkD (z : Bool) (h : PHeap) : PV × PHeap := match z with
  | true => (.fz (.dic []), h)
  | false => newO (.dic []) h
/-- a new list: frozen, or in the heap -/
def mkL (z : Bool) (ds : List PV) (h : PHeap) : PV × PHeap := match z with
  | true => (.fl ds, h)
  | false => newO (.lst ds) h
def addF (x y : PV) (h : PHeap) : Option (PV × PHeap) :=
  match x, y with
  | .int i, .int j => some (.int (i + j), h)
  | .str x, .str y => if x.length + y.length ≤ sizeLine then some (.str (x ++ y), h) else none
  | .tup xs, .tup ys => if xs.length + ys.length ≤ sizeLine then some (.tup (xs ++ ys), h) else none
  | x, y => match lstOf h x, lstOf h y with
    | some xs, some ys => if xs.length + ys.length ≤ sizeLine then some (.fl (xs ++ ys), h) else none
    | _, _ => none
def mulF (x y : PV) (h : PHeap) : Option (PV × PHeap) :=
  match x, y with
  | .int i, .int j => if i.natAbs < big ∧ j.natAbs < big then some (.int (i * j), h) else none
  | .tup xs, .int k => if xs ≠ [] ∧ 2 ≤ k ∧ k ≤ 1000 ∧ xs.length ≤ 1000 then some (.tup (List.replicate k.toNat xs).flatten, h) else if xs = [] ∧ 0 ≤ k ∧ k ≤ 1000 then some (.tup [], h) else none
  | .ref i, .int k => match h[i]? with
    | some (.lst xs) => if -2 ^ 63 ≤ k ∧ k < 2 ^ 63 ∧ xs.length * k.toNat ≤ sizeLine then some (.fl (List.replicate k.toNat xs).flatten, h) else none
    | _ => none
  | _, _ => none
def arI : Bop → Int → Int → Option Int
  | .sub, i, j => some (i - j)
  | .fdiv, i, j => if 0 < j ∧ j.natAbs < big then some (i / j) else none
  | .mod, i, j => if 0 < j then some (i % j) else none
  | .pow, i, j => if 0 ≤ j ∧ j ≤ 1000 ∧ i.natAbs < 2 ^ 300 then some (i ^ j.toNat) else none
  | _, _, _ => none
def bopF (op : Bop) : Pf
  | [x, y], h => match op with
    | .add => addF x y h
    | .mul => mulF x y h
    | op => match x, y with
      | .int i, .int j => (arI op i j).map fun k => (.int k, h)
      | _, _ => none
  | _, _ => none
def eqD (h : PHeap) (x y : PV) : Option Bool :=
  match toD h 70 x, toD h 70 y with
  | some a, some b => if SeqAt.shaped a = true ∧ SeqAt.shaped b = true then some (PyData.eqv a b) else none
  | _, _ => none
def flatP : PV → Bool
  | .non | .bl _ | .int _ | .str _ => true
  | _ => false
def eqP : PV → PV → Bool
  | .non, .non => true
  | .bl a, .bl b => a == b
  | .bl a, .int b => (if a = true then 1 else 0) == b
  | .int a, .bl b => a == if b = true then 1 else 0
  | .int a, .int b => a == b
  | .str a, .str b => a == b
  | _, _ => false
/-- two tuples, flat as far as both go -/
def eqTup : List PV → List PV → Option Bool
  | [], [] => some true
  | [], _ :: _ => some false
  | _ :: _, [] => some false
  | x :: xs, y :: ys => if flatP x && flatP y then (eqTup xs ys).map (eqP x y && ·) else none
def allO : List (Option Bool) → Option Bool
  | [] => some true
  | some b :: r => (allO r).map (b && ·)
  | none :: _ => none
/-- lists and tuples compared, deep -/
def eqG (h : PHeap) : Nat → PV → PV → Option Bool
  | 0, x, y => if flatP x && flatP y then some (eqP x y) else none
  | n + 1, x, y => if flatP x && flatP y then some (eqP x y) else match x, y with
    | .tup xs, .tup ys => (allO (List.zipWith (eqG h n) xs ys)).map (· && xs.length == ys.length)
    | x, y => match lstOf h x, lstOf h y with
      | some xs, some ys => if xs.length = ys.length then allO (List.zipWith (eqG h n) xs ys) else some false
      | _, _ => none
def eqF (h : PHeap) (x y : PV) : Option Bool :=
  match eqD h x y with
  | some b => some b
  | none => match x, y with
    | .tup xs, .tup ys => match eqTup xs ys with
      | some b => some b
      | none => eqG h 40 x y
    | x, y => if flatP x && flatP y then none else eqG h 40 x y
def inP (x : PV) (ds : List PV) : Bool := ds.any fun y => eqP y x
def ordF (op : Cop) (x y : PV) : Option Bool :=
  match op, x, y with
  | .lt, .int i, .int j => some (decide (i < j))
  | .le, .int i, .int j => some (decide (i ≤ j))
  | .gt, .int i, .int j => some (decide (j < i))
  | .ge, .int i, .int j => some (decide (j ≤ i))
  | .lt, .str x, .str y => some (decide (x.cps.toList < y.cps.toList))
  | .le, .str x, .str y => some (!decide (y.cps.toList < x.cps.toList))
  | _, _, _ => none
def isF (x y : PV) : Option Bool :=
  match x, y with
  | .bl a, .bl b => some (decide (a = b))
  | .non, .non => some true
  | _, .non => some false
  | _, _ => none
def inF (h : PHeap) (x y : PV) : Option Bool :=
  match x, y with
  | .str a, .str b => match a.cps.toList with
    | [c] => some (decide (c ∈ b.cps.toList))
    | _ => none
  | x, y => match seqOf h y with
  | some ds => if flatP x = true ∧ ds.all flatP = true then some (inP x ds) else none
  | none => none
def cmpB (op : Cop) (h : PHeap) (x y : PV) : Option Bool :=
  match op with
  | .eq => eqF h x y
  | .ne => (eqD h x y).map (!·)
  | .isin => inF h x y
  | .notin => (inF h x y).map (!·)
  | .is => isF x y
  | .isnot => (isF x y).map (!·)
  | op => ordF op x y
def cmpF (op : Cop) : Pf
  | [x, y], h => (cmpB op h x y).map fun b => (.bl b, h)
  | _, _ => none
def cutP (xs : List PV) (lo hi : Option Int) : List PV := List.take (HT.sIx xs.length xs.length hi - HT.sIx xs.length 0 lo) (List.drop (HT.sIx xs.length 0 lo) xs)
def sameK (p : PV) (k : NestedKey) : Bool := match nkOf p with
  | some q => NestedKey.beq q k
  | none => false
def dFind (kvs : List (PV × PV)) (k : NestedKey) : Option PV := (kvs.find? fun p => sameK p.1 k).map (·.2)
def dStore (kvs : List (PV × PV)) (k : NestedKey) (kp v : PV) : List (PV × PV) :=
  if (dFind kvs k).isSome then kvs.map fun p => if sameK p.1 k then (p.1, v) else p else kvs ++ [(kp, v)]
def isTupP : PV → Bool
  | .tup _ => true
  | _ => false
/-- the key fits the dict's keys: numbers and texts, or tuples -/
def fitsK (kvs : List (PV × PV)) (k : PV) (nk : NestedKey) : Bool :=
  ((keyOf k).isSome && kvs.all fun p => (keyOf p.1).isSome) || (isTupP k && decide (nk.depth ≤ 8) && kvs.all fun p => isTupP p.1)
def dGetF (kvs : List (PV × PV)) (k : PV) : Option PV := match nkOf k with
  | some nk => if fitsK kvs k nk then dFind kvs nk else none
  | none => none
def dPutF (kvs : List (PV × PV)) (k v : PV) : Option (List (PV × PV)) := match nkOf k with
  | some nk => if fitsK kvs k nk && decide (kvs.length < sizeLine) then some (dStore kvs nk k v) else none
  | none => none
def getF (o i : PV) (h : PHeap) : Option PV :=
  match o with
  | .str x => match i with
    | .int i => if x.length ≤ sizeLine then (atI x.cps.toList i).map fun c => .str ⟨#[c]⟩ else none
    | _ => none
  | .tup ds => match i with
    | .int i => atI ds i
    | _ => none
  | .scr ns => match i with
    | .int i => atI (ns.map PV.int) i
    | _ => none
  | o => match objOf h o with
    | some (.dic kvs) => dGetF kvs i
    | some (.lst ds) => match i with
      | .int i => atI ds i
      | _ => none
    | _ => none
def subF : Pf
  | [o, i], h => (getF o i h).map fun d => (d, h)
  | _, _ => none
def slcF (o : PV) (lo hi : Option Int) (h : PHeap) : Option (PV × PHeap) :=
  match o with
  | .tup ds => if HT.sIx ds.length 0 lo = 0 ∧ HT.sIx ds.length ds.length hi = ds.length then some (.tup ds, h) else some (.tup (cutP ds lo hi), h)
  | _ => match lstOf h o with
    | some ds => some (.fl (cutP ds lo hi), h)
    | none => none
def bools : List PV → Option (List Bool)
  | [] => some []
  | .bl b :: r => (bools r).map (b :: ·)
  | _ => none
def tyName (h : PHeap) : PV → Option String
  | .non => some "NoneType"
  | .bl _ => some "bool"
  | .int _ => some "int"
  | .str _ => some "str"
  | .tup _ => some "tuple"
  | v => match objOf h v with
    | some (.lst _) => some "list"
    | some (.dic kvs) => if kvs.all fun p => (keyOf p.1).isSome then some "dict" else none
    | _ => none
def strsP : List PV → Option (List Str)
  | [] => some []
  | .str x :: r => (strsP r).map (x :: ·)
  | _ => none
def reprP : PV → Option Str
  | .non => some "None"
  | .bl b => some (if b then "True" else "False")
  | .int i => if i.natAbs.log2 < 1920 then some (toString i) else none
  | _ => none
/-- repr of lists, tuples -/
def reprC (h : PHeap) (v : PV) : Option Str := match reprP v with
  | some x => some x
  | none => match v, toD h 30 v with
    | .str y, _ => if (reprText y).length ≤ sizeLine then some (reprText y) else none
    | _, some d => if d.showable = true ∧ d.hasDict = false ∧ d.depth ≤ 40 ∧ d.shown.length ≤ sizeLine then some d.shown else none
    | _, none => none
def setP (h : PHeap) (v : PV) : Option (PV × PHeap) := match lstOf h v with
  | some ds => match strsP ds with
    | some xs => if xs.length < 64 then some (.fz (.set ((dedS xs).map PV.str)), h) else none
    | none => none
  | none => none
def sortP (h : PHeap) (v : PV) : Option (PV × PHeap) := match objOf h v with
  | some (.set ds) => (strsP ds).map fun xs => (.fl ((sortS xs).map PV.str), h)
  | some (.lst ds) => match strsP ds with
    | some xs => if xs.length < 64 then some (.fl ((sortS xs).map PV.str), h) else none
    | none => none
  | _ => none
def intsP : List PV → Option (List Int)
  | [] => some []
  | .int i :: r => (intsP r).map (i :: ·)
  | _ => none
def bltF (b : Bi) : Pf := fun ds h =>
  match b, ds with
  | .len, [.str x] => if x.length ≤ sizeLine then some (.int x.length, h) else none
  | .len, [v] => (seqOf h v).map fun ds => (.int ds.length, h)
  | .isinstance, [v, .ty n] => match tyName h v with
    | some t => (kitB t n).map fun b => (.bl b, h)
    | none => none
  | .all, [v] => match lstOf h v with
    | some ds => (bools ds).map fun bs => (.bl (bs.all id), h)
    | none => none
  | .abs, [.int i] => some (.int (if i < 0 then -i else i), h)
  | .int, [.int i] => some (.int i, h)
  | .int, [.bl k] => some (.int (if k then 1 else 0), h)
  | .max, [.int m, .int n] => some (.int (if n > m then n else m), h)
  | .max, [v] => match lstOf h v with
    | some ds => match intsP ds with
      | some (n :: r) => some (.int (r.foldl max n), h)
      | _ => none
    | none => none
  | .str, [.int i] => if i.natAbs.log2 < 1920 then some (.str (toString i), h) else none
  | .min, [.int m, .int n] => some (.int (if n < m then n else m), h)
  | .tuple, [.tup ds] => some (.tup ds, h)
  | .tuple, [v] => (lstOf h v).map fun ds => (.tup ds, h)
  | .list, [v] => (seqOf h v).map fun ds => (.fl ds, h)
  | .listm, [v] => (seqOf h v).map fun ds => newO (.lst ds) h
  | .set, [v] => setP h v
  | .sorted, [v] => sortP h v
  | .repr, [v] => (reprP v).map fun x => (.str x, h)
  | .reprc, [v] => (reprC h v).map fun x => (.str x, h)
  | _, _ => none
def appP : Pf := fun ds h =>
  match ds with
  | [.ref i, v] => match h[i]? with
    | some (.lst xs) => if xs.length < sizeLine then some (.non, h.set i (.lst (xs ++ [v]))) else none
    | _ => none
  | _ => none
def neRef (i : Nat) : PV → Bool
  | .ref j => i != j
  | _ => true
def extP : Pf := fun ds h =>
  match ds with
  | [.ref i, v] => match h[i]?, lstOf h v with
    | some (.lst xs), some ys => if xs.length + ys.length ≤ sizeLine ∧ neRef i v = true then some (.non, h.set i (.lst (xs ++ ys))) else none
    | _, _ => none
  | _ => none
/-- what a method is asked of -/
def rcvOk (m : Mi) (d : PV) (h : PHeap) : Bool :=
  match d with
  | .ref i => match h[i]? with
    | some (.lst _) => true
    | _ => false
  | _ => false
def popP : Pf := fun ds h =>
  match ds with
  | [.ref i] => match h[i]? with
    | some (.lst xs) => match xs[xs.length - 1]? with
      | some y => some (y, h.set i (.lst xs.dropLast))
      | none => none
    | _ => none
  | _ => none
def popiP : Pf := fun ds h =>
  match ds with
  | [.ref i, .int k] => match h[i]? with
    | some (.lst xs) => if 0 ≤ k ∧ k < 2 ^ 62 then match xs[k.toNat]? with
      | some y => some (y, h.set i (.lst (xs.eraseIdx k.toNat)))
      | none => none
      else none
    | _ => none
  | _ => none
def methF : Mi → Pf
  | .append => appP
  | .extend => extP
  | .pop => popiP
def revP (z : Bool) : Pf := fun ds h =>
  match ds with
  | [v] => (lstOf h v).map fun xs => mkL z xs.reverse h
  | _ => none

/-! ### the interpreter -/
/-- the classes: with slots or not, a slot's place, a plain attribute, methods, properties -/
structure Ct where
  isSl : Nat → Bool
  slot : Nat → Nat → Option Nat
  fld : Nat → Nat → Bool
  /-- the defs that call a lambda: the classes they catch and what they then tell; what they tell else -/
  met : Nat → Option (List (Nat × Hx) × Bk)
  /-- is the one error one of the other's -/
  exm : Nat → Nat → Option Bool
  /-- a class's method -/
  mth : Nat → Nat → Option Nat
  /-- is the class one of the other's -/
  sub : Nat → Nat → Option Bool
  /-- a class's __eq__ -/
  eqm : Nat → Option Nat
  /-- a class's classmethod -/
  cmt : Nat → Nat → Option Nat
  /-- a class's property: its getter -/
  prp : Nat → Nat → Option Nat
  /-- an own error that keeps a value: the field -/
  xfl : Nat → Option Nat
structure Orc where
  call : Nat → List PV → PHeap → R PV
  ct : Ct
def ownF (ct : Ct) (c f : Nat) : Bool := if ct.isSl c then (ct.slot c f).isSome else ct.fld c f
def attrF (ct : Ct) (f : Nat) : Pf := fun ds h =>
  match ds with
  | [v] => match objOf h v with
    | some (.ins c fs) => if ownF ct c f then (fs.lookup f).map fun d => (d, h) else none
    | _ => none
  | _ => none
def setFl (fs : List (Nat × PV)) (f : Nat) (v : PV) : List (Nat × PV) :=
  match fs with
  | [] => [(f, v)]
  | (g, w) :: r => if g = f then (g, v) :: r else (g, w) :: setFl r f v
def fldF (ct : Ct) (o : PV) (f : Nat) (v : PV) (h : PHeap) : Option PHeap :=
  match o with
  | .ref i => match h[i]? with
    | some (.ins c fs) => if ownF ct c f && decide (fs.length < 900) then some (h.set i (.ins c (setFl fs f v))) else none
    | _ => none
  | _ => none
/-- a method's def, asked of an instance -/
def mthF (ct : Ct) (h : PHeap) (v : PV) (m : Nat) : Option Nat := match objOf h v with
  | some (.ins c fs) => if ct.isSl c = false then ct.mth c m else none
  | _ => none
/-- a property's getter, asked of an instance -/
def prpF (ct : Ct) (h : PHeap) (v : PV) (f : Nat) : Option Nat := match objOf h v with
  | some (.ins c fs) => if ct.isSl c = false then ct.prp c f else none
  | _ => none
/-- what a def must answer -/
def lenR : R PV → R PV
  | .ok (.int n) h => if 0 ≤ n ∧ n < 2 ^ 63 then .ok (.int n) h else .stuck
  | _ => .stuck
def okR : R PV → R PV
  | .ok d h => .ok d h
  | _ => .stuck
def strR : R PV → R PV
  | .ok (.str x) h => .ok (.str x) h
  | _ => .stuck
def blR : R PV → R PV
  | .ok (.bl b) h => .ok (.bl b) h
  | _ => .stuck
/-- the texts of an f-string's parts -/
def fmtP : PV → Option Str
  | .str x => if x.length ≤ sizeLine then some x else none
  | .int i => if i.natAbs.log2 < 1920 then some (toString i) else none
  | _ => none
def joinP : List PV → Str → Option Str
  | [], acc => some acc
  | d :: r, acc => match fmtP d with
    | some y => if (acc ++ y).length ≤ sizeLine then joinP r (acc ++ y) else none
    | none => none
def joinR : R (List PV) → Str → R PV
  | .ok ds h, acc => match joinP ds acc with
    | some x => .ok (.str x) h
    | none => .stuck
  | _, _ => .stuck
def tmF (k : TxM) (a : Str) (d : PV) (h : PHeap) : Option (PV × PHeap) := match k with
  | .join => match lstOf h d with
    | some ds => match strsP ds with
      | some ys => if (ys.map (·.length)).sum + ys.length * a.length ≤ 16777216 then some (.str (Txt.join a ys), h) else none
      | none => none
    | none => none
  | .startswith => match d with
    | .str b => some (.bl (Txt.startswith a b), h)
    | _ => none
  | .removeprefix => match d with
    | .str b => if a.length ≤ sizeLine then some (.str (Txt.removeprefix a b), h) else none
    | _ => none
/-- a field's number, of an instance without slots -/
def numF (ct : Ct) (f : Nat) (x : PV) (h : PHeap) : Option (Nat × Int) := match x with
  | .ref i => match h[i]? with
    | some (.ins c fs) => if ct.isSl c then none else match fs.lookup f with
      | some (.int n) => some (c, n)
      | _ => none
    | _ => none
  | _ => none
def setTP (ds : List PV) (h : PHeap) : Option (PV × PHeap) := match strsP ds with
  | some xs => if xs.length < 64 then some (.fz (.set ((dedS xs).map PV.str)), h) else none
  | none => none
def isiP (ct : Ct) : Pf := fun ds h =>
  match ds with
  | [v, .gl c] => match objOf h v with
    | some (.ins d _) => (ct.sub d c).map fun b => (.bl b, h)
    | _ => match tyName h v with
      | some _ => if (ct.sub c c).isSome then some (.bl false, h) else none
      | none => none
  | _ => none
/-- what an instance may be compared with: one of its class, a built-in's value -/
def oeqY (c : Nat) (h : PHeap) (y : PV) : Bool := match objOf h y with
  | some (.ins d _) => d == c
  | _ => (tyName h y).isSome
def oeqR (C : Orc) (ne : Bool) (x y : PV) (h : PHeap) : R PV := match objOf h x with
  | some (.ins c _) => if C.ct.isSl c = false ∧ oeqY c h y = true then match C.ct.eqm c with
    | some f => match C.call f [x, y] h with
      | .ok (.bl r) h3 => .ok (.bl (ne != r)) h3
      | _ => .stuck
    | none => .stuck
    else .stuck
  | _ => .stuck
/-- an instance is made: the object, then __init__ -/
def makeF (call : Nat → List PV → PHeap → R PV) (c f : Nat) (ds : List PV) (h : PHeap) : R PV :=
  match call f (.ref h.length :: ds) (h ++ [.ins c []]) with
  | .ok .non h2 => .ok (.ref h.length) h2
  | .exc c fs h2 => .exc c fs h2
  | _ => .stuck
inductive RS where
  | nx (l : Loc) (h : PHeap)
  | rt (d : PV) (h : PHeap)
  | bk (l : Loc) (h : PHeap)
  | ct (l : Loc) (h : PHeap)
  | exc (c : PV) (fs : List (Nat × PV)) (l : Loc) (h : PHeap)
  | stuck
def R.toS {α : Type} (m : R α) (l : Loc) (k : α → PHeap → RS) : RS :=
  match m with
  | .ok a h => k a h
  | .exc c fs h => .exc c fs l h
  | .stuck => .stuck
inductive Src where
  | seq (ds : List PV)
  | lst (i : Nat)
def srcAt (h : PHeap) (i : Nat) : Src → Option (Option PV)
  | .seq ds => some ds[i]?
  | .lst r => match h[r]? with
    | some (.lst ds) => some ds[i]?
    | _ => none
def srcLen (h : PHeap) : Src → Nat
  | .seq ds => ds.length
  | .lst r => match h[r]? with
    | some (.lst ds) => ds.length
    | _ => 0
def srcOf (h : PHeap) : PV → Option Src
  | .tup ds => some (.seq ds)
  | .fz (.lst ds) => some (.seq ds)
  | .str x => some (.seq (x.cps.toList.map fun c => .str ⟨#[c]⟩))
  | .ref i => match h[i]? with
    | some (.lst _) => some (.lst i)
    | _ => none
  | _ => none
/-- what stands still: a tuple, a list that nobody changes -/
def fzS : PV → Option (Bool × List PV)
  | .tup ds => some (true, ds)
  | .fz (.lst ds) => some (false, ds)
  | _ => none
def enmP (d : PV) : Option Src := match fzS d with
  | some (_, ds) => some (.seq (ds.mapIdx fun i x => .tup [.int i, x]))
  | none => none
def zipP (d e : PV) : Option Src := match fzS d, fzS e with
  | some (a, xs), some (b, ys) => if a = b then some (.seq (List.zipWith (fun x y => .tup [x, y]) xs ys)) else none
  | _, _ => none
def rngOf (lo hi : Int) : Option Src :=
  if -2 ^ 62 ≤ lo ∧ lo < 2 ^ 62 ∧ -2 ^ 62 ≤ hi ∧ hi < 2 ^ 62 then some (.seq ((List.range (hi - lo).toNat).map fun (i : Nat) => .int (lo + i))) else none
mutual
def bindT : Tg → PV → Loc → Option Loc
  | .nm i, d, l => if i < l.length then some (l.set i (some d)) else none
  | .tp ts, .tup ds, l => bindTs ts ds l
  | .tp _, _, _ => none
def bindTs : Tgs → List PV → Loc → Option Loc
  | .nil, [], l => some l
  | .cons t ts, d :: ds, l => match bindT t d l with
    | some l' => bindTs ts ds l'
    | none => none
  | _, _, _ => none
end
def wipeP (l : Loc) : List Nat → Loc
  | [] => l
  | i :: r => (wipeP l r).set i none
/-- the turns of a comprehension: what is made so far, the turn's number -/
def lcLoop (tg : Tg) (src : Src) (tt : Loc → PHeap → R Bool) (el : Loc → PHeap → R PV) (lw : Loc) : Nat → Nat → List PV → PHeap → R (List PV)
  | 0, _, _, _ => .stuck
  | n + 1, i, acc, h => match srcAt h i src with
    | none => .stuck
    | some none => .ok acc h
    | some (some d) => match bindT tg d lw with
      | none => .stuck
      | some l => match tt l h with
        | .ok false h1 => lcLoop tg src tt el lw n (i + 1) acc h1
        | .ok true h1 => match el l h1 with
          | .ok y h2 => if acc.length < sizeLine then lcLoop tg src tt el lw n (i + 1) (acc ++ [y]) h2 else .stuck
          | _ => .stuck
        | _ => .stuck
def forLoop (tg : Tg) (src : Src) (body : Loc → PHeap → RS) : Nat → Nat → Loc → PHeap → RS
  | 0, _, _, _ => .stuck
  | n + 1, i, l, h => match srcAt h i src with
    | none => .stuck
    | some none => .nx l h
    | some (some d) => match bindT tg d l with
      | none => .stuck
      | some l1 => match body l1 h with
        | .nx l2 h2 => forLoop tg src body n (i + 1) l2 h2
        | .ct l2 h2 => forLoop tg src body n (i + 1) l2 h2
        | .bk l2 h2 => .nx l2 h2
        | .rt d h2 => .rt d h2
        | .exc c fs l2 h2 => .exc c fs l2 h2
        | .stuck => .stuck
def whlLoop (c : Loc → PHeap → R Bool) (body : Loc → PHeap → RS) : Nat → Loc → PHeap → RS
  | 0, _, _ => .stuck
  | n + 1, l, h => (c l h).toS l fun b h1 => match b with
    | false => .nx l h1
    | true => match body l h1 with
      | .nx l2 h2 => whlLoop c body n l2 h2
      | .ct l2 h2 => whlLoop c body n l2 h2
      | .bk l2 h2 => .nx l2 h2
      | .rt d h2 => .rt d h2
      | .exc c fs l2 h2 => .exc c fs l2 h2
      | .stuck => .stuck
def hxV (ct : Ct) (h : PHeap) (c : Nat) (fs : List (Nat × PV)) : Hx → Option PV
  | .con d => some d
  | .fld f => if ct.xfl c = some f then fs.lookup f else none
  | .add a b => match hxV ct h c fs a, hxV ct h c fs b with
    | some (.str x), some (.str y) => if x.length + y.length ≤ sizeLine then some (.str (x ++ y)) else none
    | _, _ => none
  | .rep a => match hxV ct h c fs a with
    | some v => (reprC h v).map .str
    | none => none
  | .num a => match hxV ct h c fs a with
    | some (.int i) => if i.natAbs.log2 < 1920 then some (.str (toString i)) else none
    | _ => none
  | .tup a b => match hxV ct h c fs a, hxV ct h c fs b with
    | some x, some y => some (.tup [x, y])
    | _, _ => none
def metGo (ct : Ct) (c : Nat) (fs : List (Nat × PV)) (h : PHeap) : List (Nat × Hx) → R PV
  | [] => .stuck
  | (d, x) :: r => match ct.exm c d with
    | some true => match hxV ct h c fs x with
      | some v => .ok v h
      | none => .stuck
    | some false => metGo ct c fs h r
    | none => .stuck
def bkV : Bk → PV → PV
  | .drop d, _ => d
  | .ret, v => v
  | .pair x, v => .tup [.str x, v]
def metF (ct : Ct) (m : Nat) (r : R PV) : R PV := match ct.met m with
  | none => .stuck
  | some (hs, bk) => match r with
    | .ok d h => .ok (bkV bk d) h
    | .exc (.gl c) fs h => metGo ct c fs h hs
    | _ => .stuck
def truthR (r : R PV) : R Bool := r.bind fun d h => match truthF h d with
  | some b => .ok b h
  | none => .stuck
def optI : R PV → R (Option Int)
  | .ok (.int i) h => .ok (some i) h
  | .ok _ _ => .stuck
  | .exc c fs h => .exc c fs h
  | .stuck => .stuck
def srcR (s : Option Src) (h : PHeap) : R Src := match s with
  | some s => .ok s h
  | none => .stuck
/-- what is behind o.f += e -/
def augK (ct : Ct) (f : Nat) (x : PV) (l : Loc) (h1 : PHeap) (r : R PV) : RS := match numF ct f x h1 with
  | some (c, i) => r.toS l fun y h2 => match y with
    | .int j => match numF ct f x h2 with
      | some (c', _) => if c' = c then match fldF ct x f (.int (i + j)) h2 with
          | some h3 => .nx l h3
          | none => .stuck
        else .stuck
      | none => .stuck
    | _ => .stuck
  | none => .stuck
mutual
def evE (C : Orc) : Ex → Loc → PHeap → R PV
  | .loc i, l, h => match l[i]? with
    | some (some d) => .ok d h
    | _ => .stuck
  | .con d, _, h => .ok d h
  | .bin op a b, l, h => ev2 (evE C a) (evE C b) (bopF op) l h
  | .neg a, l, h => (evE C a l h).bind fun x h1 => match x with
    | .int i => .ok (.int (-i)) h1
    | _ => .stuck
  | .not a, l, h => (truthR (evE C a l h)).bind fun b h1 => .ok (.bl !b) h1
  | .cmp op a b, l, h => ev2 (evE C a) (evE C b) (cmpF op) l h
  | .chn op op' a b c, l, h => (evE C a l h).bind fun x h1 => (evE C b l h1).bind fun y h2 => (liftP (cmpF op [x, y] h2)).bind fun r h3 => match r with
    | .bl true => (evE C c l h3).bind fun z h4 => liftP (cmpF op' [y, z] h4)
    | .bl false => .ok (.bl false) h3
    | _ => .stuck
  | .and a b, l, h => (evE C a l h).bind fun x h1 => match truthF h1 x with
    | some true => evE C b l h1
    | some false => .ok x h1
    | none => .stuck
  | .or a b, l, h => (evE C a l h).bind fun x h1 => match truthF h1 x with
    | some true => .ok x h1
    | some false => evE C b l h1
    | none => .stuck
  | .ite c a b, l, h => (truthR (evE C c l h)).bind fun k h1 => match k with
    | true => evE C a l h1
    | false => evE C b l h1
  | .tup es, l, h => (evA C es l h).bind fun ds h1 => if ds.length ≤ sizeLine then .ok (.tup ds) h1 else .stuck
  | .lst z es, l, h => (evA C es l h).bind fun ds h1 => if ds.length ≤ sizeLine then liftP (some (mkL z ds h1)) else .stuck
  | .call f es, l, h => (evA C es l h).bind fun ds h1 => C.call f ds h1
  | .make c f es, l, h => (evA C es l h).bind fun ds h1 => makeF C.call c f ds h1
  | .blt b es, l, h => (evA C es l h).bind fun ds h1 => liftP (bltF b ds h1)
  | .meth m o es, l, h => (evE C o l h).bind fun x h1 => match rcvOk m x h1 with
    | true => (evA C es l h1).bind fun ds h2 => liftP (methF m (x :: ds) h2)
    | false => .stuck
  | .sub o i, l, h => ev2 (evE C o) (evE C i) subF l h
  | .slc o lo hi, l, h => (evE C o l h).bind fun x h1 => (evOp C lo l h1).bind fun a h2 => (evOp C hi l h2).bind fun b h3 => liftP (slcF x a b h3)
  | .attr o f, l, h => ev1 (evE C o) (attrF C.ct f) l h
  | .lc z elt tg it ifs own, l, h => (evI C it l h).bind fun src h1 =>
      (lcLoop tg src (evT1 C ifs) (evE C elt) (wipeP l own) (srcLen h1 src + 1) 0 [] h1).bind fun ds h2 => liftP (some (mkL z ds h2))
  | .dic0 z, l, h => liftP (some (mkD z h))
  | .met m e, l, h => metF C.ct m (evE C e l h)
  | .pop o, l, h => ev1 (evE C o) popP l h
  | .rev z o, l, h => ev1 (evE C o) (revP z) l h
  | .mcl m o es, l, h => (evE C o l h).bind fun x h1 => match mthF C.ct h1 x m with
    | some f => (evA C es l h1).bind fun ds h2 => C.call f (x :: ds) h2
    | none => .stuck
  | .mc0 m o, l, h => (evE C o l h).bind fun x h1 => match mthF C.ct h1 x m with
    | some f => C.call f [x] h1
    | none => .stuck
  | .oeq ne a b, l, h => (evE C a l h).bind fun x h1 => (evE C b l h1).bind fun y h2 => oeqR C ne x y h2
  | .cmt c m es, l, h => match C.ct.cmt c m with
    | some f => (evA C es l h).bind fun ds h1 => C.call f (.gl c :: ds) h1
    | none => .stuck
  | .mkl i c f es, l, h => match l[i]? with
    | some (some (.gl d)) => if d = c then (evA C es l h).bind fun ds h1 => makeF C.call c f ds h1 else .stuck
    | _ => .stuck
  | .isi es, l, h => (evA C es l h).bind fun ds h1 => liftP (isiP C.ct ds h1)
  | .prp f o, l, h => (evE C o l h).bind fun x h1 => match prpF C.ct h1 x f with
    | some g => okR (C.call g [x] h1)
    | none => .stuck
  | .dln m o, l, h => (evE C o l h).bind fun x h1 => match mthF C.ct h1 x m with
    | some f => lenR (C.call f [x] h1)
    | none => .stuck
  | .dst m o, l, h => (evE C o l h).bind fun x h1 => match mthF C.ct h1 x m with
    | some f => strR (C.call f [x] h1)
    | none => .stuck
  | .dgt m o i, l, h => (evE C o l h).bind fun x h1 => (evE C i l h1).bind fun y h2 => match mthF C.ct h2 x m with
    | some f => C.call f [x, y] h2
    | none => .stuck
  | .din m i o, l, h => (evE C i l h).bind fun y h1 => (evE C o l h1).bind fun x h2 => match mthF C.ct h2 x m with
    | some f => blR (C.call f [x, y] h2)
    | none => .stuck
  | .sc elt tg it own, l, h => (evI C it l h).bind fun src h1 =>
      (lcLoop tg src (fun _ h => R.ok true h) (evE C elt) (wipeP l own) (srcLen h1 src + 1) 0 [] h1).bind fun ds h2 => liftP (setTP ds h2)
  | .tm k o e, l, h => (evE C o l h).bind fun x h1 => match x with
    | .str a => (evE C e l h1).bind fun y h2 => liftP (tmF k a y h2)
    | _ => .stuck
  | .fst es, l, h => joinR (evA C es l h) Str.empty
def evA (C : Orc) : Exs → Loc → PHeap → R (List PV)
  | .nil, _, h => .ok [] h
  | .cons e es, l, h => evCons (evE C e) (evA C es) l h
  | .star e es, l, h => (evE C e l h).bind fun x h1 => match seqOf h1 x with
    | some ds => (evA C es l h1).bind fun xs h2 => .ok (ds ++ xs) h2
    | none => .stuck
def evOp (C : Orc) : Op → Loc → PHeap → R (Option Int)
  | .no, _, h => .ok none h
  | .yes e, l, h => optI (evE C e l h)
def evI (C : Orc) : Itr → Loc → PHeap → R Src
  | .val e, l, h => (evE C e l h).bind fun d h1 => srcR (srcOf h1 d) h1
  | .rng1 e, l, h => (evE C e l h).bind fun d h1 => match d with
    | .int j => srcR (rngOf 0 j) h1
    | _ => .stuck
  | .rng2 a b, l, h => (evE C a l h).bind fun d h1 => (evE C b l h1).bind fun e h2 => match d, e with
    | .int i, .int j => srcR (rngOf i j) h2
    | _, _ => .stuck
  | .enm e, l, h => (evE C e l h).bind fun d h1 => srcR (enmP d) h1
  | .zp a b, l, h => (evE C a l h).bind fun d h1 => (evE C b l h1).bind fun e h2 => srcR (zipP d e) h2
/-- the if of a comprehension -/
def evT1 (C : Orc) : Op → Loc → PHeap → R Bool
  | .no, _, h => .ok true h
  | .yes e, l, h => truthR (evE C e l h)
end
def putF (o i v : PV) (h : PHeap) : Option PHeap :=
  match o with
  | .ref r => match h[r]? with
    | some (.lst ds) => match i with
      | .int k => (ixN ds.length k).map fun j => h.set r (.lst (ds.set j v))
      | _ => none
    | some (.dic kvs) => (dPutF kvs i v).map fun kvs' => h.set r (.dic kvs')
    | _ => none
  | _ => none
mutual
def exS (C : Orc) : Sx → Loc → PHeap → RS
  | .ex e, l, h => (evE C e l h).toS l fun _ h1 => .nx l h1
  | .asg t e, l, h => (evE C e l h).toS l fun d h1 => match bindT t d l with
    | some l1 => .nx l1 h1
    | none => .stuck
  | .put o i e, l, h => (evE C e l h).toS l fun v h1 => (evE C o l h1).toS l fun x h2 => (evE C i l h2).toS l fun y h3 => match putF x y v h3 with
    | some h4 => .nx l h4
    | none => .stuck
  | .fld o f e, l, h => (evE C e l h).toS l fun v h1 => (evE C o l h1).toS l fun x h2 => match fldF C.ct x f v h2 with
    | some h3 => .nx l h3
    | none => .stuck
  | .ret e, l, h => (evE C e l h).toS l fun d h1 => .rt d h1
  | .ret0, l, h => .rt .non h
  | .iff c a b, l, h => (truthR (evE C c l h)).toS l fun k h1 => match k with
    | true => exSs C a l h1
    | false => exSs C b l h1
  | .for_ t it b, l, h => (evI C it l h).toS l fun src h1 => forLoop t src (exSs C b) (srcLen h1 src + 1) 0 l h1
  | .whl c b, l, h => whlLoop (fun l h => truthR (evE C c l h)) (exSs C b) 1000000 l h
  | .pass, l, h => .nx l h
  | .brk, l, h => .bk l h
  | .cnt, l, h => .ct l h
  | .rai c m, l, h => .exc (.gl c) [] l h
  | .stk, _, _ => .stuck
  | .raf c f e, l, h => if C.ct.xfl c = some f then (evE C e l h).toS l fun v h1 => .exc (.gl c) [(f, v)] l h1 else .stuck
  | .augf o f e, l, h => (evE C o l h).toS l fun x h1 => augK C.ct f x l h1 (evE C e l h1)
def exSs (C : Orc) : Sxs → Loc → PHeap → RS
  | .nil, l, h => .nx l h
  | .cons s r, l, h => match exS C s l h with
    | .nx l1 h1 => exSs C r l1 h1
    | x => x
end
/-! ### what leaves a def: frozen, and what was made inside is gone -/
mutual
/-- all places are below n -/
def clV (n : Nat) : PV → Bool
  | .tup ds => clVs n ds
  | .fz o => clO n o
  | .ref i => decide (i < n)
  | _ => true
def clO (n : Nat) : PObj → Bool
  | .lst ds => clVs n ds
  | .dic kvs => clKs n kvs
  | .set ds => clVs n ds
  | .ins _ fs => clFs n fs
def clVs (n : Nat) : List PV → Bool
  | [] => true
  | d :: r => clV n d && clVs n r
def clKs (n : Nat) : List (PV × PV) → Bool
  | [] => true
  | (k, v) :: r => clV n k && clV n v && clKs n r
def clFs (n : Nat) : List (Nat × PV) → Bool
  | [] => true
  | (_, v) :: r => clV n v && clFs n r
end
mutual
def PV.same : PV → PV → Bool
  | .non, .non => true
  | .bl a, .bl b => a == b
  | .int a, .int b => a == b
  | .str a, .str b => a == b
  | .tup a, .tup b => PV.sames a b
  | .fz a, .fz b => PObj.same a b
  | .ref a, .ref b => a == b
  | .ty a, .ty b => a == b
  | .gl a, .gl b => a == b
  | .scr a, .scr b => a == b
  | _, _ => false
termination_by structural x => x
def PObj.same : PObj → PObj → Bool
  | .lst a, .lst b => PV.sames a b
  | .dic a, .dic b => PV.sameK a b
  | .set a, .set b => PV.sames a b
  | .ins c a, .ins d b => c == d && PV.sameF a b
  | _, _ => false
termination_by structural x => x
def PV.sames : List PV → List PV → Bool
  | [], [] => true
  | a :: r, b :: t => PV.same a b && PV.sames r t
  | _, _ => false
termination_by structural x => x
def PV.sameK : List (PV × PV) → List (PV × PV) → Bool
  | [], [] => true
  | (a, v) :: r, (b, w) :: t => PV.same a b && PV.same v w && PV.sameK r t
  | _, _ => false
termination_by structural x => x
def PV.sameF : List (Nat × PV) → List (Nat × PV) → Bool
  | [], [] => true
  | (a, v) :: r, (b, w) :: t => a == b && PV.same v w && PV.sameF r t
  | _, _ => false
termination_by structural x => x
end
def frzO (f : PV → Option PV) : PObj → Option PObj
  | .lst ds => (mapO f ds).map .lst
  | .dic kvs => (mapO (fun p => if (nkOf p.1).isSome then (f p.2).map fun v => (p.1, v) else none) kvs).map .dic
  | .set ds => some (.set ds)
  | .ins c fs => (mapO (fun p => (f p.2).map fun v => (p.1, v)) fs).map (.ins c)
def frzV (h : PHeap) (n : Nat) : Nat → PV → Option PV
  | 0, d => if clV n d then some d else none
  | k + 1, d => if clV n d then some d else match d with
    | .tup ds => (mapO (frzV h n k) ds).map .tup
    | .fz o => (frzO (frzV h n k) o).map .fz
    | .ref i => match h[i]? with
      | some o => (frzO (frzV h n k) o).map .fz
      | none => none
    | _ => none
/-- the objects that were there: as they were, or without new places in them -/
def sealH (n : Nat) : PHeap → PHeap → Option PHeap
  | [], _ => some []
  | o :: r, o' :: r' => if PObj.same o o' || clO n o' then (sealH n r r').map (o' :: ·) else none
  | _ :: _, [] => none
def sealF (h : PHeap) : R PV → R PV
  | .ok d h' => match frzV h' h.length 6 d, sealH h.length h h' with
    | some d1, some h1 => .ok d1 h1
    | _, _ => .stuck
  | .exc c fs h' => if clV h.length c && clFs h.length fs then match sealH h.length h h' with
      | some h1 => .exc c fs h1
      | none => .stuck
    else .stuck
  | .stuck => .stuck
/-- a def: how many parameters, how many slots, the body; sealed: what it made inside is gone behind it -/
structure Fd where
  np : Nat
  n : Nat
  body : Sxs
  fz : Bool
def runFn (fd : Fd) (C : Orc) (ds : List PV) (h : PHeap) : R PV :=
  if ds.length = fd.np then
    match exSs C fd.body (ds.map some ++ List.replicate (fd.n - fd.np) none) h with
    | .nx _ h1 => .ok .non h1
    | .rt d h1 => .ok d h1
    | .exc c fs _ h1 => .exc c fs h1
    | _ => .stuck
  else .stuck
def runFs (fd : Fd) (C : Orc) (ds : List PV) (h : PHeap) : R PV := if fd.fz then sealF h (runFn fd C ds h) else runFn fd C ds h
def callN (ct : Ct) (T : Nat → Option Fd) : Nat → Nat → List PV → PHeap → R PV
  | 0, _, _, _ => .stuck
  | n + 1, f, ds, h => match T f with
    | some fd => runFs fd ⟨callN ct T n, ct⟩ ds h
    | none => .stuck
mutual
theorem PV.same_eq : ∀ (a b : PV), PV.same a b = true → a = b
  | .non, b, h => by cases b <;> simp [PV.same] at h ⊢
  | .bl x, b, h => by cases b <;> simp [PV.same] at h ⊢; exact h
  | .int x, b, h => by cases b <;> simp [PV.same] at h ⊢; exact h
  | .str x, b, h => by cases b <;> simp [PV.same] at h ⊢; exact h
  | .tup x, b, h => by cases b <;> simp [PV.same] at h ⊢; exact PV.sames_eq _ _ h
  | .ty x, b, h => by cases b <;> simp [PV.same] at h ⊢; exact h
  | .fz x, b, h => by cases b <;> simp [PV.same] at h ⊢; exact PObj.same_eq _ _ h
  | .ref x, b, h => by cases b <;> simp [PV.same] at h ⊢; exact h
  | .gl x, b, h => by cases b <;> simp [PV.same] at h ⊢; exact h
  | .scr x, b, h => by cases b <;> simp [PV.same] at h ⊢; exact h
theorem PObj.same_eq : ∀ (a b : PObj), PObj.same a b = true → a = b
  | .lst x, b, h => by cases b <;> simp [PObj.same] at h ⊢; exact PV.sames_eq _ _ h
  | .set x, b, h => by cases b <;> simp [PObj.same] at h ⊢; exact PV.sames_eq _ _ h
  | .dic x, b, h => by cases b <;> simp [PObj.same] at h ⊢; exact PV.sameK_eq _ _ h
  | .ins c x, b, h => by cases b <;> simp [PObj.same] at h ⊢; exact ⟨h.1, PV.sameF_eq _ _ h.2⟩
theorem PV.sames_eq : ∀ (a b : List PV), PV.sames a b = true → a = b
  | [], b, h => by cases b <;> simp [PV.sames] at h ⊢
  | x :: r, b, h => by
    cases b with
    | nil => simp [PV.sames] at h
    | cons y t => simp [PV.sames] at h; rw [PV.same_eq x y h.1, PV.sames_eq r t h.2]
theorem PV.sameK_eq : ∀ (a b : List (PV × PV)), PV.sameK a b = true → a = b
  | [], b, h => by cases b <;> simp [PV.sameK] at h ⊢
  | (x, v) :: r, b, h => by
    cases b with
    | nil => simp [PV.sameK] at h
    | cons y t => simp [PV.sameK] at h; rw [PV.sameK_eq r t h.2]; simp [Prod.ext_iff, PV.same_eq x _ h.1.1, PV.same_eq v _ h.1.2]
theorem PV.sameF_eq : ∀ (a b : List (Nat × PV)), PV.sameF a b = true → a = b
  | [], b, h => by cases b <;> simp [PV.sameF] at h ⊢
  | (x, v) :: r, b, h => by
    cases b with
    | nil => simp [PV.sameF] at h
    | cons y t => simp [PV.sameF] at h; rw [PV.sameF_eq r t h.2]; simp [Prod.ext_iff, h.1.1, PV.same_eq v _ h.1.2]
end
mutual
theorem PV.same_rfl : ∀ d : PV, PV.same d d = true
  | .non => rfl
  | .bl _ => by simp [PV.same]
  | .int _ => by simp [PV.same]
  | .str _ => by simp [PV.same]
  | .tup ds => by simp [PV.same, PV.sames_rfl ds]
  | .fz o => by simp [PV.same, PObj.same_rfl o]
  | .ref _ => by simp [PV.same]
  | .ty _ => by simp [PV.same]
  | .gl _ => by simp [PV.same]
  | .scr _ => by simp [PV.same]
theorem PObj.same_rfl : ∀ d : PObj, PObj.same d d = true
  | .lst ds => by simp [PObj.same, PV.sames_rfl ds]
  | .set ds => by simp [PObj.same, PV.sames_rfl ds]
  | .dic ds => by simp [PObj.same, PV.sameK_rfl ds]
  | .ins _ ds => by simp [PObj.same, PV.sameF_rfl ds]
theorem PV.sames_rfl : ∀ d : List PV, PV.sames d d = true
  | [] => rfl
  | d :: r => by simp [PV.sames, PV.same_rfl d, PV.sames_rfl r]
theorem PV.sameK_rfl : ∀ d : List (PV × PV), PV.sameK d d = true
  | [] => rfl
  | (k, v) :: r => by simp [PV.sameK, PV.same_rfl k, PV.same_rfl v, PV.sameK_rfl r]
theorem PV.sameF_rfl : ∀ d : List (Nat × PV), PV.sameF d d = true
  | [] => rfl
  | (k, v) :: r => by simp [PV.sameF, PV.same_rfl v, PV.sameF_rfl r]
end
end Zed
end
section
set_option Elab.async false
set_option linter.all false
set_option maxRecDepth 100000
namespace Zed
open PySem L2
section
variable {G : Gc} {φ φ' : List Addr} {h h' : PHeap} {H H' : Hp} {a p : Addr} {d : PV} {v : V} {ds : List PV} {vs : List V} {l : Loc} {σ : St} {o : PObj} {u : HO} {i : Nat} {od : Obj}
theorem paired_map {α β : Type} {F F' : α → β → Prop} {l : List α} {m : List β} (p : Paired F l m) (h : ∀ a b, F a b → F' a b) : Paired F' l m := Paired.mapP p h
theorem repO_imp (rv : ∀ {d : PV} {v : V}, RepV G φ H d v → RepV G φ' H' d v) (rvs : ∀ {ds : List PV} {vs : List V}, RepVs G φ H ds vs → RepVs G φ' H' ds vs) (hx : ∀ b fs, H b = some (.xd fs) → H' b = some (.xd fs)) (ho : ∀ b x, H b = some (.own x) → H' b = some (.own x) ∨ H' b = some (.xd [])) (e : H' a = H a) (ro : RepO G φ H a o) : RepO G φ' H' a o := by
  cases o with
  | lst ds => obtain ⟨vs, e1, q⟩ := ro; exact ⟨vs, e.trans e1, rvs q⟩
  | dic kvs =>
    obtain ⟨z, ⟨ks, e1, q⟩ | ⟨xs, ne, e1, q1, q2, q⟩⟩ := ro
    · exact ⟨z, .inl ⟨ks, e.trans e1, paired_map q fun p k h => ⟨h.1, rv h.2⟩⟩⟩
    · exact ⟨z, .inr ⟨xs, ne, e.trans e1, q1, q2, paired_map q fun p k h => ⟨h.1, h.2.1, rv h.2.2.1, let ⟨v, r1, r2⟩ := h.2.2.2; ⟨v, r1, rv r2⟩⟩⟩⟩
  | set => obtain ⟨xs, ks, e0, e1, q⟩ := ro; exact ⟨xs, ks, e0, e.trans e1, q⟩
  | ins c fs =>
    obtain ⟨nd, C, dx, hC, ⟨z, ws, e1, ql, q, q2⟩ | ⟨z, vs, hs, hw, q⟩⟩ := ro
    · exact ⟨nd, C, dx, hC, .inl ⟨z, ws, e.trans e1, ql, fun f d hf => let ⟨a0, v, a1, a2⟩ := q f d hf; ⟨a0, v, a1, rv a2⟩, q2⟩⟩
    · refine ⟨nd, C, dx, hC, .inr ⟨z, vs, ?_, ⟨hw.1, hw.2.elim (fun q => ho _ _ q) (fun q => .inr (hx _ _ q))⟩, fun f d hf => let ⟨i, v, a1, a2, a3⟩ := q f d hf; ⟨i, v, a1, a2, rv a3⟩⟩⟩
      rcases hs with ⟨h1, h2⟩ | ⟨h1, h2⟩
      · exact .inl ⟨e.trans h1, h2⟩
      · exact .inr ⟨e.trans h1, hx _ _ h2⟩
theorem repO_ext (r : RelH G φ h H) (x : Ext φ H φ' H') (e : H' a = H a) (ro : RepO G φ H a o) : RepO G φ' H' a o :=
  repO_imp (repV_ext r x) (repVs_ext r x) (fun b fs q => x.keep _ _ q (r.notXd q) trivial) (fun b y q => x.own _ _ q (r.notOwn q)) e ro
theorem ext_alloc (r : RelH G φ h H) (hp : H p = none) : Ext φ H (φ ++ [p]) (upd H p u) := .of (List.prefix_append _ _)
  (fun b hb nb => by
    rcases List.mem_append.mp hb with z | z
    · exact absurd z nb
    · rw [List.mem_singleton.mp z]; exact hp)
  (fun b o e _ => by rw [upd_ne (ne_of_none e hp)]; exact e)
theorem RelH.alloc (r : RelH G φ h H) (hp : H p = none) (ro : RepO G (φ ++ [p]) (upd H p u) p o) : RelH G (φ ++ [p]) (h ++ [o]) (upd H p u) where
  tab := r.tabs (ext_alloc (u := u) r hp).new fun b o e _ _ _ => by rw [upd_ne (ne_of_none e hp)]; exact e
  len := by simp [r.len]
  nd := by
    refine List.nodup_append.mpr ⟨r.nd, by simp, fun b hb c hc => ?_⟩
    rw [List.mem_singleton.mp hc]
    intro e
    rw [e] at hb
    exact r.free hp hb
  obj := fun j o' b e1 e2 => by
    have hl := r.len
    by_cases hj : j < h.length
    · rw [List.getElem?_append_left hj] at e1
      rw [List.getElem?_append_left (by omega)] at e2
      have nb : b ≠ p := fun z => r.free hp (by rw [← z]; exact List.mem_of_getElem? e2)
      exact repO_ext r (ext_alloc r hp) (upd_ne nb) (r.obj j o' b e1 e2)
    · rw [List.getElem?_append_right (by omega)] at e1 e2
      have z1 : j - h.length = 0 := by
        have := (List.getElem?_eq_some_iff.mp e1).1
        simp at this; omega
      have z2 : j - φ.length = 0 := by omega
      rw [z1] at e1; rw [z2] at e2
      simp at e1 e2
      subst e1; subst e2
      exact ro
theorem ext_put (hi : φ[i]? = some a) : Ext φ H φ (upd H a u) := .of (List.prefix_refl _)
  (fun b hb nb => absurd hb nb)
  (fun b o e nb => by
    have n : b ≠ a := fun z => nb (by rw [z]; exact List.mem_of_getElem? hi)
    rw [upd_ne n]; exact e)
theorem nodup_get {xs : List Addr} (nd : xs.Nodup) {i j : Nat} {a : Addr} (h1 : xs[i]? = some a) (h2 : xs[j]? = some a) : i = j := by
  induction xs generalizing i j with
  | nil => simp at h1
  | cons x xs ih =>
    obtain ⟨n1, n2⟩ := List.nodup_cons.mp nd
    cases i with
    | zero =>
      cases j with
      | zero => rfl
      | succ j =>
        simp at h1 h2
        subst h1
        exact absurd (List.mem_of_getElem? h2) n1
    | succ i =>
      cases j with
      | zero =>
        simp at h1 h2
        subst h2
        exact absurd (List.mem_of_getElem? h1) n1
      | succ j => exact congrArg (· + 1) (ih n2 (i := i) (j := j) (by simpa using h1) (by simpa using h2))
theorem RelH.put (r : RelH G φ h H) (hi : φ[i]? = some a) (ro : RepO G φ (upd H a u) a o) : RelH G φ (h.set i o) (upd H a u) where
  tab := r.tabs (fun b hb nb => absurd hb nb) fun b o e nb _ _ => by rw [upd_ne fun z => nb (by rw [z]; exact List.mem_of_getElem? hi)]; exact e
  len := by simp [r.len]
  nd := r.nd
  obj := fun j o' b e1 e2 => by
    by_cases hj : j = i
    · subst hj
      rw [hi] at e2; cases e2
      have hl : j < h.length := by
        have := (List.getElem?_eq_some_iff.mp e1).1
        simpa using this
      rw [List.getElem?_set_self hl] at e1
      cases e1
      exact ro
    · rw [List.getElem?_set_ne (Ne.symm hj)] at e1
      have nb : b ≠ a := fun (z : b = a) => by
        subst z
        exact hj (nodup_get r.nd e2 hi)
      exact repO_ext r (ext_put hi) (upd_ne nb) (r.obj j o' b e1 e2)
theorem ext_tup (hp : H p = none) : Ext φ H φ (upd H p u) := .of (List.prefix_refl _)
  (fun b hb nb => absurd hb nb)
  (fun b o e _ => by rw [upd_ne (ne_of_none e hp)]; exact e)
theorem RelH.tup (r : RelH G φ h H) (hp : H p = none) : RelH G φ h (upd H p u) where
  tab := r.tabs (fun b hb nb => absurd hb nb) fun b o e _ _ _ => by rw [upd_ne (ne_of_none e hp)]; exact e
  len := r.len
  nd := r.nd
  obj := fun j o' b e1 e2 => by
    have nb : b ≠ p := fun z => r.free hp (by rw [← z]; exact List.mem_of_getElem? e2)
    exact repO_ext r (ext_tup hp) (upd_ne nb) (r.obj j o' b e1 e2)
/-- a new list -/
theorem new_lst {Q : VK} (r : RelH G φ h H) (rv : RepVs G φ H ds vs) (q : ∀ φ' H' v, Ext φ H φ' H' → RelH G φ' (h ++ [PObj.lst ds]) H' → RepV G φ' H' (.ref h.length) v → Q v H') :
    ∀ p, H p = none → Q (.ref p) (upd H p (.lst vs)) := fun p hp => by
  have x := ext_alloc (u := HO.lst vs) r hp
  refine q (φ ++ [p]) _ _ x (r.alloc hp ⟨vs, upd_same, repVs_ext r x rv⟩) (.ref ?_)
  rw [← r.len, List.getElem?_append_right (Nat.le_refl _)]; simp
theorem new_tup {Q : VK} (r : RelH G φ h H) (rv : RepVs G φ H ds vs) (q : ∀ φ' H' v, Ext φ H φ' H' → RelH G φ' h H' → RepV G φ' H' (.tup ds) v → Q v H') :
    ∀ p, H p = none → Q (.ref p) (upd H p (.tup vs)) := fun p hp => by
  have x := ext_tup (φ := φ) (u := HO.tup vs) hp
  exact q φ _ _ x (r.tup hp) (.tup (SqT.of upd_same) (repVs_ext r x rv))
/-- a new list that nobody changes -/
theorem new_fl {Q : VK} (r : RelH G φ h H) (rv : RepVs G φ H ds vs) (q : ∀ φ' H' v, Ext φ H φ' H' → RelH G φ' h H' → RepV G φ' H' (.fl ds) v → Q v H') :
    ∀ p, H p = none → ∀ od, Q (.ref p) (upd (upd H p (.lst vs)) p (.frz od (.lst vs))) := fun p hp od => by
  rw [upd_upd]
  have x := ext_tup (φ := φ) (u := HO.frz od (.lst vs)) hp
  exact q φ _ _ x (r.tup hp) (.fl ⟨od, upd_same⟩ (repVs_ext r x rv))
/-- .. any thing -/
theorem new_fz {Q : VK} (r : RelH G φ h H) (rv : RepV G φ (upd H p (.frz od u)) (.fz o) (.ref p)) (hp : H p = none) (q : ∀ φ' H' v, Ext φ H φ' H' → RelH G φ' h H' → RepV G φ' H' (.fz o) v → Q v H') :
    Q (.ref p) (upd (upd H p u) p (.frz od u)) := by
  rw [upd_upd]
  exact q φ _ _ (ext_tup hp) (r.tup hp) rv
/-- what seqOf, lstOf tell -/
theorem rep_lst (r : RelH G φ h H) (rv : RepV G φ H d v) (e : lstOf h d = some ds) : ∃ a vs, v = .ref a ∧ SqL G.K H a vs ∧ RepVs G φ H ds vs := by
  unfold lstOf at e
  cases rv with
  | fl s q => simp only [objOf] at e; cases e; exact ⟨_, _, rfl, s.sq, q⟩
  | ref hi =>
    rename_i i a
    simp only [objOf] at e
    split at e
    · rename_i xs hx
      cases e
      obtain ⟨vs, e1, q⟩ := r.obj i _ a hx hi
      exact ⟨a, vs, rfl, SqL.of e1, q⟩
    · cases e
  | _ => simp only [objOf] at e; cases e
theorem rep_lstR (r : RelH G φ h H) (rv : RepV G φ H d v) (e : lstOf h d = some ds) : ∃ a vs, v = .ref a ∧ Rd H a (.lst vs) ∧ RepVs G φ H ds vs := by
  unfold lstOf at e
  cases rv with
  | fl s q => simp only [objOf] at e; cases e; exact ⟨_, _, rfl, s.rd, q⟩
  | ref hi =>
    rename_i i a
    simp only [objOf] at e
    split at e
    · rename_i xs hx
      cases e
      obtain ⟨vs, e1, q⟩ := r.obj i _ a hx hi
      exact ⟨a, vs, rfl, .inl e1, q⟩
    · cases e
  | _ => simp only [objOf] at e; cases e
theorem ints_repVs : ∀ ns : List Int, RepVs G φ H (ns.map PV.int) (ns.map V.int)
  | [] => .nil
  | n :: r => .cons (.int n) (ints_repVs r)
theorem seq_cases (e : seqOf h d = some ds) : d = .tup ds ∨ lstOf h d = some ds ∨ ∃ ns, d = .scr ns ∧ ds = ns.map .int := by
  cases d <;> simp only [seqOf] at e <;> first | (cases e; exact .inl rfl) | exact .inr (.inl e) | (cases e; exact .inr (.inr ⟨_, rfl, rfl⟩))
theorem rep_seq (r : RelH G φ h H) (rv : RepV G φ H d v) (e : seqOf h d = some ds) : ∃ a vs, v = .ref a ∧ (SqL G.K H a vs ∨ SqT G.K H a vs) ∧ RepVs G φ H ds vs := by
  rcases seq_cases e with rfl | e | ⟨ns, rfl, rfl⟩
  · cases rv with
    | tup s q => exact ⟨_, _, rfl, .inr s, q⟩
  · obtain ⟨a, vs, e1, s, q⟩ := rep_lst r rv e
    exact ⟨a, vs, e1, .inl s, q⟩
  · cases rv with
    | scr s => exact ⟨_, _, rfl, .inl s.sq, ints_repVs ns⟩
/-- data -/
theorem mapO_cons {α β : Type} {f : α → Option β} {a : α} {r : List α} {bs : List β} (e : mapO f (a :: r) = some bs) : ∃ b bs', f a = some b ∧ mapO f r = some bs' ∧ bs = b :: bs' := by
  simp only [mapO] at e
  split at e
  · rename_i b bs' h1 h2; cases e; exact ⟨b, bs', h1, h2, rfl⟩
  · cases e
theorem rep_all (f : PV → Option PyData) (P : ∀ {d : PV} {v : V} {x : PyData}, RepV G φ H d v → f d = some x → Dp G.K H v x) : ∀ {ds : List PV} {vs : List V} {xs : List PyData}, RepVs G φ H ds vs → mapO f ds = some xs → DpAll G.K H vs xs
  | _, _, xs, .nil, e => by simp only [mapO] at e; cases e; exact .nil
  | _, _, xs, .cons r rs, e => by
    obtain ⟨b, bs, e1, e2, rfl⟩ := mapO_cons e
    exact .cons (P r e1) (rep_all f P rs e2)
theorem rep_data (r : RelH G φ h H) : ∀ (n : Nat) {d : PV} {v : V} {x : PyData}, RepV G φ H d v → toD h n d = some x → Dp G.K H v x
  | n, .non, _, _, .non, e => by unfold toD at e; cases e; exact .non
  | n, .bl b, _, _, .bl _, e => by unfold toD at e; cases e; exact .bl b
  | n, .int b, _, _, .int _, e => by unfold toD at e; cases e; exact .int b
  | n, .str b, _, _, .str _, e => by unfold toD at e; cases e; exact .str b
  | n, .ty _, _, _, _, e => by cases n <;> (unfold toD at e; cases e)
  | n, .gl _, _, _, _, e => by cases n <;> (unfold toD at e; cases e)
  | n, .scr _, _, _, _, e => by cases n <;> (unfold toD at e; cases e)
  | 0, .tup _, _, _, _, e => by unfold toD at e; cases e
  | 0, .fz _, _, _, _, e => by unfold toD at e; cases e
  | 0, .ref _, _, _, _, e => by unfold toD at e; cases e
  | n + 1, .tup ds, _, _, .tup s q, e => by
    unfold toD at e
    cases e1 : mapO (toD h n) ds with
    | none => rw [e1] at e; cases e
    | some xs => rw [e1] at e; cases e; exact .tup s (rep_all _ (rep_data r n) q e1)
  | n + 1, .fz (.lst ds), _, _, .fl s q, e => by
    unfold toD at e
    dsimp only at e
    cases e1 : mapO (toD h n) ds with
    | none => rw [e1] at e; cases e
    | some xs => rw [e1] at e; cases e; exact .lst s.sq (rep_all _ (rep_data r n) q e1)
  | n + 1, .fz (.dic _), _, _, _, e => by unfold toD at e; cases e
  | n + 1, .fz (.set _), _, _, _, e => by unfold toD at e; cases e
  | n + 1, .fz (.ins _ _), _, _, _, e => by unfold toD at e; cases e
  | n + 1, .ref i, _, _, .ref hi, e => by
    unfold toD at e
    split at e
    · rename_i ds hx
      obtain ⟨vs, e0, q⟩ := r.obj i _ _ hx hi
      cases e1 : mapO (toD h n) ds with
      | none => rw [e1] at e; cases e
      | some xs => rw [e1] at e; cases e; exact .lst (SqL.of e0) (rep_all _ (rep_data r n) q e1)
    · cases e
end
end Zed
end
section
set_option Elab.async false
set_option linter.all false
set_option maxRecDepth 100000
namespace Zed
open PySem L2
section
variable {X : Cx} {G : Gc} {φ φ' : List Addr} {h h' : PHeap} {H H' : Hp} {a p : Addr} {d : PV} {v : V} {ds : List PV} {vs : List V} {l : Loc} {σ : St} {o : PObj} {u : HO} {i : Nat}
theorem log2_big {i : Int} (h : i.natAbs < big) : i.natAbs.log2 < 9000 := by
  unfold big at h
  by_cases z : i.natAbs = 0
  · rw [z]; decide
  · exact (Nat.log2_lt z).mpr h
/-- from a reading to a rule of two -/
theorem opr_of {f : Value → Value → Sem Value} {F : Pf}
    (k : ∀ (pins : List (Addr × Obj)) (s : Shared) (σ : St) (H : Hp) (x y : V) (v u : Value) (Q : VK) (φ : List Addr) (h : PHeap) (d e : PV) (z : PV) (h' : PHeap), Inv X pins σ H s → RelV x v → RelV y u → RelH G φ h H → RepV G φ H d x → RepV G φ H e y →
      F [d, e] h = some (z, h') → (∀ φ' H' v, Ext φ H φ' H' → RelH G φ' h' H' → RepV G φ' H' z v → Q v H') → wpAny (model X.prog X.w) X.A (f v u) (EP X pins σ Q) X.xe s) : OpR X f (r2 G F) := by
  intro pins s σ H x y v u Q I rx ry q
  obtain ⟨φ, h, ds, z, h', rh, rv, e, q⟩ := q
  cases rv with
  | cons r1 rv =>
    cases rv with
    | cons r2 rv =>
      cases rv
      exact k pins s σ H x y v u Q φ h _ _ z h' I rx ry rh r1 r2 e q
theorem some2 {α β : Type} {a c : α} {b d : β} (e : some (a, b) = some (c, d)) : a = c ∧ b = d := by cases e; exact ⟨rfl, rfl⟩
/-- what is new is locked -/
theorem ep_lock {pins : List (Addr × Obj)} {Q : VK} {w : Value} {s : Shared} (e : EP X pins σ (fun v H' => ∃ d u, v = .ref d ∧ H' d = some u ∧ Mut (some u) ∧ ∀ od, Q v (upd H' d (.frz od u))) w s) : EP X pins σ Q w s := by
  obtain ⟨v, H', I, r, d, u, e1, e2, mu, q⟩ := e
  obtain ⟨od, I'⟩ := I.lock e2 mu
  exact ⟨v, _, I', r, q od⟩
theorem wp_lock {t : Sem Value} {pins : List (Addr × Obj)} {Q : VK} {s : Shared} (e : wpAny (model X.prog X.w) X.A t (EP X pins σ (fun v H' => ∃ d u, v = .ref d ∧ H' d = some u ∧ Mut (some u) ∧ ∀ od, Q v (upd H' d (.frz od u)))) X.xe s) : wpAny (model X.prog X.w) X.A t (EP X pins σ Q) X.xe s :=
  thn e fun _ _ q => ep_lock q
theorem pe_frz {e : Expr} {t : TE} (h : PE X e t) : PE X e (fun σ H Q => t σ H fun v H' => ∃ d u, v = .ref d ∧ H' d = some u ∧ Mut (some u) ∧ ∀ od, Q v (upd H' d (.frz od u))) :=
  ⟨fun pins s σ H Q I q => wp_lock (h.run pins s σ H _ I q)⟩
/-- a list that can be read, in the model's heap -/
theorem rd_list {pins : List (Addr × Obj)} {s : Shared} {b : Addr} {xs : List V} (I : Inv X pins σ H s) (r : Rd H b (.lst xs)) : ∃ (its : List Value) (n : Nat), Vals xs its ∧ s.heap.get? b = some { cls := .type "list", data := .seq its.toArray n } :=
  let ⟨_, its, n, q, e⟩ := r.ok I.hok
  ⟨its, n, q, e⟩
/-- list + list, both read: a new locked list -/
theorem cat_Z {pins : List (Addr × Obj)} {s : Shared} {b c : Addr} {xs ys : List V} {Q : VK} (I : Inv X pins σ H s) (r1 : Rd H b (.lst xs)) (r2 : Rd H c (.lst ys)) (hz : xs.length + ys.length ≤ sizeLine)
    (q : ∀ p, H p = none → ∀ od, Q (.ref p) (upd (upd H p (.lst (xs ++ ys))) p (.frz od (.lst (xs ++ ys))))) : wpAny (model X.prog X.w) X.A (binaryOp .Add (.ref b) (.ref c)) (EP X pins σ Q) X.xe s := by
  obtain ⟨is, n, v1, e1⟩ := rd_list I r1
  obtain ⟨js, m, v2, e2⟩ := rd_list I r2
  have z1 := v1.length
  have z2 := v2.length
  refine wp_lock (PySem.P.add_list e1 e2 (hsz := by simp only [List.size_toArray]; omega) ?_)
  have J := I.lnew (t' := s.toks) (v1.append v2) (by simpa using hz)
  rw [show is.toArray ++ js.toArray = (is ++ js).toArray by simp]
  exact ⟨.ref _, _, J, rfl, _, _, rfl, upd_same, trivial, q _ I.fresh⟩
theorem op_addZ (hK : G.K = X.K) : OpR X (binaryOp .Add) (r2 G (bopF .add)) := by
  refine opr_of fun pins s σ H x y v u Q φ h d e z h' I rx ry rh r1 r2 ef q => ?_
  simp only [bopF] at ef
  unfold addF at ef
  split at ef
  · obtain ⟨rfl, rfl⟩ := some2 ef
    cases r1; cases r2
    exact op_add pins s σ H _ _ v u Q I rx ry ⟨_, _, rfl, rfl, q φ H _ .refl rh (.int _)⟩
  · split at ef
    · rename_i hz
      obtain ⟨rfl, rfl⟩ := some2 ef
      cases r1; cases r2
      exact op_add_str pins s σ H _ _ v u Q I rx ry ⟨_, _, rfl, rfl, hz, q φ H _ .refl rh (.str _)⟩
    · cases ef
  · split at ef
    · rename_i xs ys hz
      obtain ⟨rfl, rfl⟩ := some2 ef
      cases r1 with
      | tup s1 q1 =>
        cases r2 with
        | tup s2 q2 =>
          have l1 := q1.length
          have l2 := q2.length
          refine op_catA pins s σ H _ _ v u Q I rx ry ⟨_, _, _, _, rfl, rfl, hK ▸ s1, hK ▸ s2, by omega, fun e => ?_, fun _ e => ?_, fun _ _ => new_tup rh (q1.append q2) q⟩
          · have z : xs = [] := by apply List.eq_nil_of_length_eq_zero; rw [l1, e]; rfl
            subst z
            exact q φ H _ .refl rh (.tup s2 q2)
          · have z : ys = [] := by apply List.eq_nil_of_length_eq_zero; rw [l2, e]; rfl
            subst z
            rw [List.append_nil] at q
            exact q φ H _ .refl rh (.tup s1 q1)
    · cases ef
  · split at ef
    · rename_i xs ys e1 e2
      split at ef
      · rename_i hz
        obtain ⟨rfl, rfl⟩ := some2 ef
        obtain ⟨a, as, rfl, sa, qa⟩ := rep_lstR rh r1 e1
        obtain ⟨b, bs, rfl, sb, qb⟩ := rep_lstR rh r2 e2
        have l1 := qa.length
        have l2 := qb.length
        cases rx
        cases ry
        exact cat_Z I sa sb (by omega) (new_fl rh (qa.append qb) q)
      · cases ef
    · cases ef
theorem RepVs.rep {xs : List PV} (q : RepVs G φ H ds vs) : ∀ n, RepVs G φ H (List.replicate n ds).flatten (List.replicate n vs).flatten
  | 0 => .nil
  | n + 1 => by
    rw [List.replicate_succ, List.replicate_succ, List.flatten_cons, List.flatten_cons]
    exact q.append (RepVs.rep (xs := xs) q n)
/-- the empty tuple, any number of times -/
theorem mul_none (l : Addr) (n : Nat) (dd : Option Addr) (sl : Array (Option Value)) (x : Int) (u : Tok) (c0 : (decide (x < -(2 ^ 63)) || decide (x ≥ 2 ^ 63)) = false) :
    Meets (Builtin.«tuple.__mul__» ⟨[.ref l, .int x u], []⟩) (fun _ R s => s.heap.get? l = some { cls := .type "tuple", dict := dd, data := .seq #[] n, slots := sl } ∧ R (.ok (.ret (Value.ref l))) s) :=
  .of_wp fun prog w A R s h => by
    obtain ⟨hp, g, d, tk, os⟩ := s
    obtain ⟨at_, fin⟩ := h
    have ix := AutoSeq1.idx_int
    wp_walk using wpAny_loadPart' at_
    refine wpAny_ite_false (decide_eq_false (by rw [c0]; exact Bool.false_ne_true)) ?_
    wp_walk using wpAny_loadPart' at_
    exact ⟨_, rfl, fin⟩
def rNone (K : PySem.W.Frag) : R2 := fun x y H Q => ∃ l k, x = .ref l ∧ y = .int k ∧ SqT K H l [] ∧ 0 ≤ k ∧ k ≤ 1000 ∧ Q (.ref l) H
theorem op_mulNone : OpR X (binaryOp .Mult) (rNone X.K) := by
  intro pins s σ H x y v u Q I rx ry h
  obtain ⟨l, k, rfl, rfl, sq, h1, h2, q⟩ := h
  cases rx
  obtain ⟨t, rfl⟩ := ry
  obtain ⟨its, r, ⟨⟨cls, dd, data, sl⟩, ho, hc, n, hd⟩, _⟩ := I.tuple sq
  simp only at hc hd
  subst hc hd
  have e : its = [] := List.eq_nil_of_length_eq_zero (by rw [← r.length]; rfl)
  subst e
  have c0 : (decide (k < -(2 ^ 63)) || decide (k ≥ 2 ^ 63)) = false := by
    rw [decide_eq_false (by omega), decide_eq_false (by omega)] <;> rfl
  refine wpAny_binaryOp_repeat_ref (T := "tuple") (U := "int") (by decide) ⟨_, ho, rfl⟩ (fun s' => typeIs_int s' k t) noFill_tuple_mul F.fills_int_mul F.slot_int_rmul repeat_tuple F.slot_int_index.lookup
    (call_meets F.slot_int_rmul (typeIs_int s k t) F.entry_int_rmul (F.args_int_rmul_2 _ _) (int_rmul_tuple k t l #[] n dd sl)
      ⟨ho, rfl, ⟨_, ho, rfl⟩, call_meets F.slot_tuple_mul ⟨_, ho, rfl⟩ F.entry_tuple_mul (F.args_tuple_mul_2 _ _) (mul_none l n dd sl k t c0) ⟨ho, ?_⟩⟩)
  exact ⟨.ref l, _, I, rfl, q⟩
theorem op_mulZ (hK : G.K = X.K) : OpR X (binaryOp .Mult) (r2 G (bopF .mul)) := by
  refine opr_of fun pins s σ H x y v u Q φ h d e z h' I rx ry rh r1 r2 ef q => ?_
  simp only [bopF] at ef
  unfold mulF at ef
  split at ef
  · split at ef
    · rename_i hz
      obtain ⟨rfl, rfl⟩ := some2 ef
      cases r1; cases r2
      refine op_mulW pins s σ H _ _ v u Q I rx ry ⟨_, _, rfl, rfl, ?_, q φ H _ .refl rh (.int _)⟩
      have := log2_big hz.1
      have := log2_big hz.2
      show _ + _ < _
      omega
    · cases ef
  · split at ef
    · rename_i hz
      obtain ⟨rfl, rfl⟩ := some2 ef
      cases r1 with
      | tup s1 q1 =>
        cases r2
        have l1 := q1.length
        refine op_repT pins s σ H _ _ v u Q I rx ry ⟨_, _, _, rfl, rfl, hK ▸ s1, fun e => ?_, hz.2.1, hz.2.2.1, by omega, new_tup rh (RepVs.rep (xs := []) q1 _) q⟩
        rw [e] at l1
        exact hz.1 (List.eq_nil_of_length_eq_zero l1)
    · split at ef
      · rename_i hz
        obtain ⟨rfl, rfl⟩ := some2 ef
        obtain ⟨rfl, z1, z2⟩ := hz
        have r0 := r1
        cases r1 with
        | tup s1 q1 =>
          cases r2
          cases q1
          exact op_mulNone pins s σ H _ _ v u Q I rx ry ⟨_, _, rfl, rfl, hK ▸ s1, z1, z2, q φ H _ .refl rh r0⟩
      · cases ef
  · split at ef
    · rename_i xs e1
      split at ef
      · rename_i hz
        obtain ⟨rfl, rfl⟩ := some2 ef
        cases r1 with
        | ref hi =>
          obtain ⟨as, sa, qa⟩ := rh.obj _ _ _ e1 hi
          cases r2
          have l1 := qa.length
          exact wp_lock (op_rep pins s σ H _ _ v u _ I rx ry ⟨_, _, _, rfl, rfl, sa, hz.1, hz.2.1, by rw [← l1]; exact hz.2.2, fun p np => ⟨p, _, rfl, upd_same, trivial, new_fl rh (RepVs.rep (xs := []) qa _) q p np⟩⟩)
      · cases ef
    · cases ef
  · cases ef
theorem op_powW : OpR X (binaryOp .Pow) (rI (fun i j => 0 ≤ j ∧ j ≤ 1000 ∧ i.natAbs < 2 ^ 300) fun i j => .int (i ^ j.toNat)) := opI fun i j _ _ _ _ _ hc q => by
  refine PyProof.Rows.pow_int hc.1 ?_ q
  have hb := PyProof.Rows.intBits_le hc.2.2
  have h1 : (Builtin.Int.intBits i : Int) * j ≤ 300 * j := Int.mul_le_mul_of_nonneg_right (by omega) hc.1
  have := hc.2.1
  omega
theorem op_arZ {op : Bop} {bo : Operator} {C : Int → Int → Prop} {g : Int → Int → Int} (o : OpR X (binaryOp bo) (rI C fun i j => .int (g i j))) (hop : ∀ x y h, bopF op [x, y] h = match x, y with | .int i, .int j => (arI op i j).map fun k => (.int k, h) | _, _ => none)
    (har : ∀ i j k, arI op i j = some k → C i j ∧ k = g i j) : OpR X (binaryOp bo) (r2 G (bopF op)) := by
  refine opr_of fun pins s σ H x y v u Q φ h d e z h' I rx ry rh r1 r2 ef q => ?_
  rw [hop] at ef
  split at ef
  · rename_i i j
    cases e1 : arI op i j with
    | none => rw [e1] at ef; cases ef
    | some k =>
      rw [e1] at ef
      obtain ⟨rfl, rfl⟩ := some2 ef
      obtain ⟨c, rfl⟩ := har i j k e1
      cases r1; cases r2
      exact o pins s σ H _ _ v u Q I rx ry ⟨_, _, rfl, rfl, c, q φ H _ .refl rh (.int _)⟩
  · cases ef
theorem op_subZ : OpR X (binaryOp .Sub) (r2 G (bopF .sub)) := op_arZ (C := fun _ _ => True) (g := fun i j => i - j) (fun pins s σ H x y v u Q I rx ry ⟨i, j, e1, e2, _, q⟩ => op_sub pins s σ H x y v u Q I rx ry ⟨i, j, e1, e2, q⟩) (fun _ _ _ => rfl) fun i j k e => by
  simp only [arI] at e; cases e; exact ⟨trivial, rfl⟩
theorem op_fdivZ : OpR X (binaryOp .FloorDiv) (r2 G (bopF .fdiv)) := op_arZ (g := fun i j => i / j) op_fdivW (fun _ _ _ => rfl) fun i j k e => by
  simp only [arI] at e
  split at e
  · rename_i hz; cases e; exact ⟨⟨hz.1, log2_big hz.2⟩, rfl⟩
  · cases e
theorem op_modZ : OpR X (binaryOp .Mod) (r2 G (bopF .mod)) := op_arZ (g := fun i j => i % j) op_mod (fun _ _ _ => rfl) fun i j k e => by
  simp only [arI] at e
  split at e
  · rename_i hz; cases e; exact ⟨hz, rfl⟩
  · cases e
theorem op_powZ : OpR X (binaryOp .Pow) (r2 G (bopF .pow)) := op_arZ (g := fun i j => i ^ j.toNat) op_powW (fun _ _ _ => rfl) fun i j k e => by
  simp only [arI] at e
  split at e
  · rename_i hz; cases e; exact ⟨hz, rfl⟩
  · cases e
/-! ### comparisons -/
theorem cmp_of {co : CmpOp} {op : Cop}
    (k : ∀ (pins : List (Addr × Obj)) (s : Shared) (σ : St) (H : Hp) (x y : V) (v u : Value) (Q : VK) (φ : List Addr) (h : PHeap) (d e : PV) (b : Bool), Inv X pins σ H s → RelV x v → RelV y u → RelH G φ h H → RepV G φ H d x → RepV G φ H e y →
      cmpB op h d e = some b → Q (.bl b) H → wpAny (model X.prog X.w) X.A (compareOp co v u) (EP X pins σ Q) X.xe s) : OpR X (compareOp co) (r2 G (cmpF op)) := by
  refine opr_of fun pins s σ H x y v u Q φ h d e z h' I rx ry rh r1 r2 ef q => ?_
  simp only [cmpF] at ef
  cases e1 : cmpB op h d e with
  | none => rw [e1] at ef; cases ef
  | some b =>
    rw [e1] at ef
    obtain ⟨rfl, rfl⟩ := some2 ef
    exact k pins s σ H x y v u Q φ h d e b I rx ry rh r1 r2 e1 (q φ H _ .refl rh (.bl _))
theorem eq_data (rh : RelH G φ h H) {x y : V} {d e : PV} {b : Bool} (r1 : RepV G φ H d x) (r2 : RepV G φ H e y) (e1 : eqD h d e = some b) : ∃ p q, Dp G.K H x p ∧ Dp G.K H y q ∧ SeqAt.shaped p = true ∧ SeqAt.shaped q = true ∧ b = PyData.eqv p q := by
  unfold eqD at e1
  split at e1
  · rename_i p q h1 h2
    split at e1
    · rename_i hz
      cases e1
      exact ⟨p, q, rep_data rh _ r1 h1, rep_data rh _ r2 h2, hz.1, hz.2, rfl⟩
    · cases e1
  · cases e1
theorem flat_eq {x : V} {d : PV} (r : RepV G φ H d x) (f : flatP d = true) : flatV x = true ∧ ∀ {e : PV} {y : V}, RepV G φ H e y → flatP e = true → eqV y x = eqP e d := by
  cases r <;> simp only [flatP] at f <;> first | (cases f; done) | skip
  all_goals refine ⟨rfl, fun {e y} r2 f2 => ?_⟩
  all_goals (cases r2 <;> simp only [flatP] at f2 <;> first | (cases f2; done) | rfl)
theorem eqTup_run {A : Around} {s : Shared} : ∀ {xs ys : List PV} {vs ws : List V} {us ts : List Value} {b : Bool}, RepVs G φ H xs vs → RepVs G φ H ys ws → Vals vs us → Vals ws ts → eqTup xs ys = some b →
    ∃ f : Nat → Bool, (∀ j (h1 : j < us.length) (h2 : j < ts.length), SeqAt.EqAt A s us[j] ts[j] (f j)) ∧ ((List.range (min us.length ts.length)).all f && us.length == ts.length) = b
  | [], [], _, _, _, _, _, .nil, .nil, .nil, .nil, e => by
    simp only [eqTup] at e; cases e
    exact ⟨fun _ => true, fun j h1 => absurd h1 (by simp), rfl⟩
  | [], _ :: _, _, _, _, _, _, .nil, .cons _ _, .nil, .cons _ _, e => by
    simp only [eqTup] at e; cases e
    exact ⟨fun _ => true, fun j h1 => absurd h1 (by simp), by simp⟩
  | _ :: _, [], _, _, _, _, _, .cons _ _, .nil, .cons _ _, .nil, e => by
    simp only [eqTup] at e; cases e
    exact ⟨fun _ => true, fun j h1 h2 => absurd h2 (by simp), by simp⟩
  | x :: xs, y :: ys, _, _, _, _, b, .cons rx q1, .cons ry q2, .cons vx w1, .cons vy w2, e => by
    simp only [eqTup] at e
    split at e
    · rename_i hf
      rw [Bool.and_eq_true] at hf
      cases e2 : eqTup xs ys with
      | none => rw [e2] at e; cases e
      | some c =>
        rw [e2] at e
        cases e
        obtain ⟨f, g1, g2⟩ := eqTup_run (A := A) (s := s) q1 q2 w1 w2 e2
        refine ⟨fun j => match j with | 0 => eqP x y | j + 1 => f j, fun j h1 h2 => ?_, ?_⟩
        · cases j with
          | zero =>
            have fx := flat_eq rx hf.1
            have fy := flat_eq ry hf.2
            have z := eqAt_V (A := A) (s := s) vx vy fx.1 fy.1
            rw [fy.2 rx hf.1] at z
            exact z
          | succ j => exact g1 j (Nat.lt_of_succ_lt_succ h1) (Nat.lt_of_succ_lt_succ h2)
        · rw [← g2]
          simp only [List.length_cons, Nat.succ_min_succ, List.range_succ_eq_map, List.all_cons, List.all_map, Function.comp_def, Bool.and_assoc]
          congr 2
          simp
    · cases e
theorem eqP_same {x : V} {d e : PV} (r1 : RepV G φ H d x) (r2 : RepV G φ H e x) (f1 : flatP d = true) (f2 : flatP e = true) : eqP d e = true := by
  cases r1 <;> simp only [flatP] at f1 <;> first | (cases f1; done) | skip
  all_goals (cases r2 <;> simp [eqP])
/-- the pairs of two rows of values -/
theorem zip_run {P : PV → PV → Value → Value → Bool → Prop} {f : PV → PV → Option Bool} (hp : ∀ d e x y u t b, RepV G φ H d x → RepV G φ H e y → RelV x u → RelV y t → f d e = some b → P d e u t b) :
    ∀ {xs ys : List PV} {vs ws : List V} {us ts : List Value} {b : Bool}, RepVs G φ H xs vs → RepVs G φ H ys ws → Vals vs us → Vals ws ts → allO (List.zipWith f xs ys) = some b →
      ∃ g : Nat → Bool, (∀ j (h1 : j < us.length) (h2 : j < ts.length), ∃ d e, P d e us[j] ts[j] (g j)) ∧ (List.range (min us.length ts.length)).all g = b ∧ us.length = xs.length ∧ ts.length = ys.length
  | [], ys, _, _, _, _, _, .nil, r2, .nil, w2, e => by
    simp only [List.zipWith_nil_left, allO] at e
    cases e
    refine ⟨fun _ => true, fun j h1 => absurd h1 (by simp), by simp, rfl, ?_⟩
    rw [← w2.length, r2.length]
  | x :: xs, [], _, _, _, _, _, .cons r1 q1, .nil, .cons v1 w1, .nil, e => by
    simp only [List.zipWith_nil_right, allO] at e
    cases e
    refine ⟨fun _ => true, fun j h1 h2 => absurd h2 (by simp), by simp, ?_, rfl⟩
    have := w1.length
    have := q1.length
    simp only [List.length_cons]; omega
  | x :: xs, y :: ys, _, _, _, _, b, .cons rx q1, .cons ry q2, .cons vx w1, .cons vy w2, e => by
    simp only [List.zipWith_cons_cons] at e
    cases e0 : f x y with
    | none => rw [e0] at e; cases e
    | some c0 =>
      rw [e0] at e
      simp only [allO] at e
      cases e2 : allO (List.zipWith f xs ys) with
      | none => rw [e2] at e; cases e
      | some c =>
        rw [e2] at e
        cases e
        obtain ⟨g, g1, g2, g3, g4⟩ := zip_run hp q1 q2 w1 w2 e2
        refine ⟨fun j => match j with | 0 => c0 | j + 1 => g j, fun j h1 h2 => ?_, ?_, by simp [g3], by simp [g4]⟩
        · cases j with
          | zero => exact ⟨x, y, hp x y _ _ _ _ c0 rx ry vx vy e0⟩
          | succ j => exact g1 j (Nat.lt_of_succ_lt_succ h1) (Nat.lt_of_succ_lt_succ h2)
        · rw [← g2]
          simp only [List.length_cons, Nat.succ_min_succ, List.range_succ_eq_map, List.all_cons, List.all_map, Function.comp_def]
theorem eqG_flat {n : Nat} {d e : PV} (f : (flatP d && flatP e) = true) : eqG h n d e = some (eqP d e) := by
  cases n <;> (unfold eqG; rw [if_pos f])
theorem allO_true {f : PV → PV → Option Bool} (hf : ∀ {d e : PV} {x : V} {b : Bool}, RepV G φ H d x → RepV G φ H e x → f d e = some b → b = true) : ∀ {xs ys : List PV} {vs : List V} {b : Bool}, RepVs G φ H xs vs → RepVs G φ H ys vs → allO (List.zipWith f xs ys) = some b → b = true
  | _, _, _, _, .nil, .nil, e => by simp only [List.zipWith_nil_left, allO] at e; cases e; rfl
  | x :: xs, y :: ys, _, _, .cons r1 q1, .cons r2 q2, e => by
    simp only [List.zipWith_cons_cons] at e
    cases e0 : f x y with
    | none => rw [e0] at e; cases e
    | some c0 =>
      rw [e0] at e
      simp only [allO] at e
      cases e2 : allO (List.zipWith f xs ys) with
      | none => rw [e2] at e; cases e
      | some c =>
        rw [e2] at e
        cases e
        rw [hf r1 r2 e0, allO_true hf q1 q2 e2]; rfl
/-- the kinds of what eqG compares -/
theorem eqG_cases {n : Nat} {d e : PV} {b : Bool} (z : eqG h (n + 1) d e = some b) : ((flatP d && flatP e) = true ∧ b = eqP d e) ∨
    (∃ xs ys c, d = .tup xs ∧ e = .tup ys ∧ allO (List.zipWith (eqG h n) xs ys) = some c ∧ b = (c && xs.length == ys.length)) ∨
    (∃ xs ys, lstOf h d = some xs ∧ lstOf h e = some ys ∧ ((xs.length = ys.length ∧ allO (List.zipWith (eqG h n) xs ys) = some b) ∨ (xs.length ≠ ys.length ∧ b = false))) := by
  unfold eqG at z
  split at z
  · rename_i f; cases z; exact .inl ⟨f, rfl⟩
  · split at z
    · rename_i xs ys _
      cases e1 : allO (List.zipWith (eqG h n) xs ys) with
      | none => rw [e1] at z; cases z
      | some c => rw [e1] at z; cases z; exact .inr (.inl ⟨xs, ys, c, rfl, rfl, e1, rfl⟩)
    · split at z
      · rename_i xs ys e1 e2
        split at z
        · rename_i hl; exact .inr (.inr ⟨xs, ys, e1, e2, .inl ⟨hl, z⟩⟩)
        · rename_i hl; cases z; exact .inr (.inr ⟨xs, ys, e1, e2, .inr ⟨hl, rfl⟩⟩)
      · cases z
theorem eqG_same {pins : List (Addr × Obj)} {σ : St} {s : Shared} (I : Inv X pins σ H s) (hK : G.K = X.K) (rh : RelH G φ h H) : ∀ (n : Nat) {d e : PV} {x : V} {b : Bool}, RepV G φ H d x → RepV G φ H e x → eqG h n d e = some b → b = true
  | 0, d, e, x, b, r1, r2, z => by
    unfold eqG at z
    split at z
    · rename_i f; rw [Bool.and_eq_true] at f; cases z; exact eqP_same r1 r2 f.1 f.2
    · cases z
  | n + 1, d, e, x, b, r1, r2, z => by
    rcases eqG_cases z with ⟨f, rfl⟩ | ⟨xs, ys, c, rfl, rfl, e1, rfl⟩ | ⟨xs, ys, e1, e2, k⟩
    · rw [Bool.and_eq_true] at f; exact eqP_same r1 r2 f.1 f.2
    · cases r1 with
      | tup t1 q1 =>
        cases r2 with
        | tup t2 q2 =>
          have := I.tuple_inj (hK ▸ t1) (hK ▸ t2)
          subst this
          have l1 := q1.length
          have l2 := q2.length
          rw [allO_true (fun a b c => eqG_same I hK rh n a b c) q1 q2 e1, Bool.true_and, beq_iff_eq]; omega
    · obtain ⟨a, vs, rfl, s1, q1⟩ := rep_lst rh r1 e1
      obtain ⟨a', vs', e3, s2, q2⟩ := rep_lst rh r2 e2
      cases e3
      have := I.list_inj (hK ▸ s1) (hK ▸ s2)
      subst this
      have l1 := q1.length
      have l2 := q2.length
      rcases k with ⟨_, k⟩ | ⟨k, _⟩
      · exact allO_true (fun a b c => eqG_same I hK rh n a b c) q1 q2 k
      · omega
theorem eqG_rc {pins : List (Addr × Obj)} {σ : St} {s : Shared} (I : Inv X pins σ H s) (hK : G.K = X.K) (rh : RelH G φ h H) : ∀ (n : Nat) {A : Around} {d e : PV} {x y : V} {v u : Value} {b : Bool}, A.units + n < cLine → RepV G φ H d x → RepV G φ H e y → RelV x v → RelV y u → eqG h n d e = some b →
    SeqAt.EqAt A s v u b ∧ ((flatP d && flatP e) = false → SeqAt.RcAt A s v u b)
  | 0, A, d, e, x, y, v, u, b, hu, r1, r2, v1, v2, z => by
    unfold eqG at z
    split at z
    · rename_i f
      have f' := f
      rw [Bool.and_eq_true] at f; cases z
      have fx := flat_eq r1 f.1
      have fy := flat_eq r2 f.2
      have z := eqAt_V (A := A) (s := s) v1 v2 fx.1 fy.1
      rw [fy.2 r1 f.1] at z
      exact ⟨z, fun k => by rw [f'] at k; cases k⟩
    · cases z
  | n + 1, A, d, e, x, y, v, u, b, hu, r1, r2, v1, v2, z => by
    have both : ∀ {l m : Addr}, v = .ref l → u = .ref m → SeqAt.RcAt A s v u b → SeqAt.EqAt A s v u b ∧ ((flatP d && flatP e) = false → SeqAt.RcAt A s v u b) := fun {l m} e1 e2 k => by
      subst e1; subst e2
      refine ⟨?_, fun _ => k⟩
      by_cases q : l = m
      · subst q
        have e3 : x = .ref l := v1.inj rfl
        have e4 : y = .ref l := v2.inj rfl
        subst e3; subst e4
        rw [eqG_same I hK rh (n + 1) r1 r2 z]
        exact .same _
      · exact .of_refs q k
    have st : A.in1.units + n < cLine := by simp only [Around.in1]; omega
    rcases eqG_cases z with ⟨f, rfl⟩ | ⟨xs, ys, c, rfl, rfl, e1, rfl⟩ | ⟨xs, ys, e1, e2, k⟩
    · have f' := f
      rw [Bool.and_eq_true] at f
      have fx := flat_eq r1 f.1
      have fy := flat_eq r2 f.2
      have z := eqAt_V (A := A) (s := s) v1 v2 fx.1 fy.1
      rw [fy.2 r1 f.1] at z
      exact ⟨z, fun k => by rw [f'] at k; cases k⟩
    · cases r1 with
      | tup t1 q1 =>
        cases r2 with
        | tup t2 q2 =>
          cases v1; cases v2
          obtain ⟨its, w1, p1, _⟩ := I.tuple (hK ▸ t1)
          obtain ⟨jts, w2, p2, _⟩ := I.tuple (hK ▸ t2)
          obtain ⟨g, g1, g2, g3, g4⟩ := zip_run (P := fun _ _ u t b => SeqAt.EqAt A.in1 s u t b) (fun d e x y u t b a1 a2 a3 a4 a5 => (eqG_rc I hK rh n st a1 a2 a3 a4 a5).1) q1 q2 w1 w2 e1
          refine both rfl rfl ?_
          have k := SeqAt.RcAt.tuples (A := A) (e := g) p1 p2 (by omega) (fun j h1 h2 => by
            obtain ⟨_, _, k⟩ := g1 j (by simpa using h1) (by simpa using h2)
            simpa using k)
          have e5 : ((List.range (min its.toArray.size jts.toArray.size)).all g && its.toArray.size == jts.toArray.size) = (c && xs.length == ys.length) := by
            simp only [List.size_toArray]
            rw [g2, g3, g4]
          rw [e5] at k
          exact k
    · obtain ⟨a, vs, rfl, s1, q1⟩ := rep_lst rh r1 e1
      obtain ⟨a', vs', rfl, s2, q2⟩ := rep_lst rh r2 e2
      cases v1; cases v2
      obtain ⟨its, w1, p1, _⟩ := I.list (hK ▸ s1)
      obtain ⟨jts, w2, p2, _⟩ := I.list (hK ▸ s2)
      have l1 := q1.length
      have l2 := q2.length
      have l3 := w1.length
      have l4 := w2.length
      refine both rfl rfl ?_
      rcases k with ⟨k1, k⟩ | ⟨k1, rfl⟩
      · obtain ⟨g, g1, g2, g3, g4⟩ := zip_run (P := fun _ _ u t b => SeqAt.EqAt A.in1 s u t b) (fun d e x y u t b a1 a2 a3 a4 a5 => (eqG_rc I hK rh n st a1 a2 a3 a4 a5).1) q1 q2 w1 w2 k
        have k := SeqAt.RcAt.lists (A := A) (e := g) p1.isList p2.isList (by simp only [List.size_toArray]; omega) (by omega) (fun j h1 h2 => by
            obtain ⟨_, _, k⟩ := g1 j (by simpa using h1) (by simpa using h2)
            simpa using k)
        have e5 : (List.range its.toArray.size).all g = b := by
          simp only [List.size_toArray]
          rw [← g2, show min its.length jts.length = its.length by omega]
        rw [e5] at k
        exact k
      · exact SeqAt.RcAt.lists_lengths (A := A) p1.isList p2.isList (by simp only [List.size_toArray, bne_iff_ne]; omega) (by omega)
theorem op_eqZ (hK : G.K = X.K) (hu : X.A.units + 64 < cLine) : OpR X (compareOp .Eq) (r2 G (cmpF .eq)) := by
  refine cmp_of fun pins s σ H x y v u Q φ h d e b I rx ry rh r1 r2 e1 q => ?_
  have gen : ∀ b, eqG h 40 d e = some b → (flatP d && flatP e) = false → Q (.bl b) H → wpAny (model X.prog X.w) X.A (compareOp .Eq v u) (EP X pins σ Q) X.xe s := fun b z f q =>
    (eqG_rc I hK rh 40 (A := X.A) (by omega) r1 r2 rx ry z).2 f _ _ _ _ ⟨.bl b, H, I, rfl, q⟩
  simp only [cmpB, eqF] at e1
  split at e1
  · rename_i b' e2
    cases e1
    obtain ⟨p, p', d1, d2, s1, s2, rfl⟩ := eq_data rh r1 r2 e2
    exact op_eqD hu pins s σ H x y v u Q I rx ry ⟨p, p', hK ▸ d1, hK ▸ d2, s1, s2, q⟩
  · split at e1
    · split at e1
      · rename_i b' e2
        cases e1
        cases r1 with
        | tup t1 q1 =>
          cases r2 with
          | tup t2 q2 =>
            cases rx; cases ry
            obtain ⟨its, w1, p1, _⟩ := I.tuple (hK ▸ t1)
            obtain ⟨jts, w2, p2, _⟩ := I.tuple (hK ▸ t2)
            obtain ⟨f, g1, g2⟩ := eqTup_run (A := X.A.in1) (s := s) q1 q2 w1 w2 e2
            refine SeqAt.eq_tupleAt (e := f) p1 p2 (by omega) (fun j h1 h2 => ?_) ⟨.bl _, H, I, ?_, q⟩
            · simpa using g1 j (by simpa using h1) (by simpa using h2)
            · show Value.bool _ = Value.bool _
              rw [← g2]; simp
      · exact gen _ e1 rfl q
    · split at e1
      · cases e1
      · rename_i f
        exact gen _ e1 (by simpa using f) q
theorem map_not {o : Option Bool} {b : Bool} (e : o.map (!·) = some b) : o = some !b := by
  cases o with
  | none => cases e
  | some c => cases e; simp
theorem op_neZ (hK : G.K = X.K) (hu : X.A.units + 64 < cLine) : OpR X (compareOp .NotEq) (r2 G (cmpF .ne)) := by
  refine cmp_of fun pins s σ H x y v u Q φ h d e b I rx ry rh r1 r2 e1 q => ?_
  obtain ⟨p, p', d1, d2, s1, s2, e2⟩ := eq_data rh r1 r2 (map_not e1)
  refine op_neD hu pins s σ H x y v u Q I rx ry ⟨p, p', hK ▸ d1, hK ▸ d2, s1, s2, ?_⟩
  rw [← e2]; simpa using q
theorem flat_all {x : V} {d : PV} (r : RepV G φ H d x) (f : flatP d = true) : ∀ {es : List PV} {ys : List V}, RepVs G φ H es ys → es.all flatP = true → ys.all flatV = true ∧ inV x ys = inP d es
  | _, _, .nil, _ => ⟨rfl, rfl⟩
  | _, _, .cons a b, g => by
    rw [List.all_cons, Bool.and_eq_true] at g
    obtain ⟨i1, i2⟩ := flat_all r f b g.2
    refine ⟨by rw [List.all_cons, (flat_eq a g.1).1, i1]; rfl, ?_⟩
    show (eqV _ x || inV x _) = (eqP _ d || inP d _)
    rw [i2, (flat_eq r f).2 a g.1]
theorem in_data (rh : RelH G φ h H) {x y : V} {d e : PV} {b : Bool} (r1 : RepV G φ H d x) (r2 : RepV G φ H e y) (e1 : inF h d e = some b) : (∃ p xs, y = V.ref p ∧ (SqL G.K H p xs ∨ SqT G.K H p xs) ∧ flatV x = true ∧ xs.all flatV = true ∧ inV x xs = b) ∨
    ∃ (c : Nat) (z : Str), x = .str ⟨#[c]⟩ ∧ y = .str z ∧ b = decide (c ∈ z.cps.toList) := by
  unfold inF at e1
  split at e1
  · rename_i a z
    split at e1
    · rename_i c hc
      cases e1
      cases r1; cases r2
      refine .inr ⟨c, z, ?_, rfl, rfl⟩
      obtain ⟨⟨l⟩⟩ := a
      simp only at hc
      subst hc; rfl
    · cases e1
  · split at e1
    · rename_i ds h1
      split at e1
      · rename_i hz
        cases e1
        obtain ⟨p, vs, rfl, sq, rv⟩ := rep_seq rh r2 h1
        obtain ⟨i1, i2⟩ := flat_all r1 hz.1 rv hz.2
        exact .inl ⟨p, vs, rfl, sq, (flat_eq r1 hz.1).1, i1, i2⟩
      · cases e1
    · cases e1
theorem op_inZ (hK : G.K = X.K) : OpR X (compareOp .In) (r2 G (cmpF .isin)) := by
  refine cmp_of fun pins s σ H x y v u Q φ h d e b I rx ry rh r1 r2 e1 q => ?_
  rcases in_data rh r1 r2 e1 with ⟨p, xs, rfl, sq, f1, f2, e2⟩ | ⟨c, z, rfl, rfl, rfl⟩
  · refine op_in_seq pins s σ H x _ v u Q I rx ry ⟨p, xs, rfl, hK ▸ sq, f1, f2, ?_⟩
    rw [e2]; exact q
  · exact op_in_sign pins s σ H _ _ v u Q I rx ry ⟨c, z, rfl, rfl, q⟩
theorem op_notinZ (hK : G.K = X.K) : OpR X (compareOp .NotIn) (r2 G (cmpF .notin)) := by
  refine cmp_of fun pins s σ H x y v u Q φ h d e b I rx ry rh r1 r2 e1 q => ?_
  rcases in_data rh r1 r2 (map_not e1) with ⟨p, xs, rfl, sq, f1, f2, e2⟩ | ⟨c, z, rfl, rfl, e3⟩
  · refine op_notIn_seq pins s σ H x _ v u Q I rx ry ⟨p, xs, rfl, hK ▸ sq, f1, f2, ?_⟩
    rw [e2]; simpa using q
  · refine op_notIn_sign pins s σ H _ _ v u Q I rx ry ⟨c, z, rfl, rfl, ?_⟩
    rw [← e3]; simpa using q
theorem is_data {x y : V} {d e : PV} {b : Bool} (r1 : RepV G φ H d x) (r2 : RepV G φ H e y) (e1 : isF d e = some b) : (∃ a c, x = .bl a ∧ y = .bl c ∧ b = decide (a = c)) ∨ (y = .non ∧ b = decide (x = .non)) := by
  unfold isF at e1
  split at e1
  · cases e1; cases r1; cases r2; exact .inl ⟨_, _, rfl, rfl, rfl⟩
  · cases e1; cases r1; cases r2; exact .inr ⟨rfl, rfl⟩
  · cases e1; cases r2; refine .inr ⟨rfl, ?_⟩
    cases r1 <;> first | rfl | (rename_i n _; exact absurd rfl (n rfl)) | (exfalso; simp_all)
  · cases e1
theorem op_isZ : OpR X (compareOp .Is) (r2 G (cmpF .is)) := by
  refine cmp_of fun pins s σ H x y v u Q φ h d e b I rx ry rh r1 r2 e1 q => ?_
  rcases is_data r1 r2 e1 with ⟨a, c, rfl, rfl, rfl⟩ | ⟨rfl, rfl⟩
  · exact op_is_bl pins s σ H _ _ v u Q I rx ry ⟨a, c, rfl, rfl, q⟩
  · exact op_isN pins s σ H _ _ v u Q I rx ry ⟨rfl, q⟩
theorem op_isnotZ : OpR X (compareOp .IsNot) (r2 G (cmpF .isnot)) := by
  refine cmp_of fun pins s σ H x y v u Q φ h d e b I rx ry rh r1 r2 e1 q => ?_
  rcases is_data r1 r2 (map_not e1) with ⟨a, c, rfl, rfl, e⟩ | ⟨rfl, e⟩
  · refine op_isnot_bl pins s σ H _ _ v u Q I rx ry ⟨a, c, rfl, rfl, ?_⟩
    rw [← e]; simpa using q
  · refine op_notN pins s σ H _ _ v u Q I rx ry ⟨rfl, ?_⟩
    rw [← e]; simpa using q
theorem op_ltZ : OpR X (compareOp .Lt) (r2 G (cmpF .lt)) := by
  refine cmp_of fun pins s σ H x y v u Q φ h d e b I rx ry rh r1 r2 e1 q => ?_
  simp only [cmpB] at e1
  unfold ordF at e1
  split at e1 <;> first | (exfalso; simp_all; done) | skip
  · cases e1; cases r1; cases r2; exact op_lt pins s σ H _ _ v u Q I rx ry ⟨_, _, rfl, rfl, q⟩
  · cases e1; cases r1; cases r2; exact op_lt_str pins s σ H _ _ v u Q I rx ry ⟨_, _, rfl, rfl, q⟩
theorem op_leZ : OpR X (compareOp .LtE) (r2 G (cmpF .le)) := by
  refine cmp_of fun pins s σ H x y v u Q φ h d e b I rx ry rh r1 r2 e1 q => ?_
  simp only [cmpB] at e1
  unfold ordF at e1
  split at e1 <;> first | (exfalso; simp_all; done) | skip
  · cases e1; cases r1; cases r2; exact op_le pins s σ H _ _ v u Q I rx ry ⟨_, _, rfl, rfl, q⟩
  · cases e1; cases r1; cases r2; exact op_le_str pins s σ H _ _ v u Q I rx ry ⟨_, _, rfl, rfl, q⟩
theorem op_gtZ : OpR X (compareOp .Gt) (r2 G (cmpF .gt)) := by
  refine cmp_of fun pins s σ H x y v u Q φ h d e b I rx ry rh r1 r2 e1 q => ?_
  simp only [cmpB] at e1
  unfold ordF at e1
  split at e1 <;> first | (exfalso; simp_all; done) | skip
  · cases e1; cases r1; cases r2; exact op_gt pins s σ H _ _ v u Q I rx ry ⟨_, _, rfl, rfl, q⟩
theorem op_geZ : OpR X (compareOp .GtE) (r2 G (cmpF .ge)) := by
  refine cmp_of fun pins s σ H x y v u Q φ h d e b I rx ry rh r1 r2 e1 q => ?_
  simp only [cmpB] at e1
  unfold ordF at e1
  split at e1 <;> first | (exfalso; simp_all; done) | skip
  · cases e1; cases r1; cases r2; exact op_ge pins s σ H _ _ v u Q I rx ry ⟨_, _, rfl, rfl, q⟩
end
end Zed
end
section
set_option Elab.async false
set_option linter.all false
set_option maxRecDepth 100000
namespace Zed
open PySem L2
section
variable {X : Cx} {G : Gc} {φ φ' : List Addr} {h h' : PHeap} {H H' : Hp} {a p : Addr} {d : PV} {v : V} {pins : List (Addr × Obj)} {s : Shared} {σ : St} {kvs : List (PV × PV)}
/-! ### keys -/
theorem nkOfs_cons {d : PV} {ds : List PV} {ks : List NestedKey} (e : nkOfs (d :: ds) = some ks) : ∃ k r, nkOf d = some k ∧ nkOfs ds = some r ∧ ks = k :: r := by
  simp only [nkOfs] at e
  split at e
  · rename_i k r h1 h2; cases e; exact ⟨k, r, h1, h2, rfl⟩
  · cases e
mutual
theorem nk_is (hK : G.K = X.K) (I : Inv X pins σ H s) : ∀ (d : PV) {v : V} {u : Value} {k : NestedKey}, RepV G φ H d v → RelV v u → nkOf d = some k → NestedIs s.heap k u
  | .non, _, _, _, q, r, e => by cases q; simp only [nkOf] at e; cases e; cases r; exact .none
  | .bl b, _, _, _, q, r, e => by cases q; simp only [nkOf] at e; cases e; cases r; exact .bool rfl
  | .int i, _, _, _, q, r, e => by cases q; simp only [nkOf] at e; cases e; obtain ⟨t, rfl⟩ := r; exact .int _ _
  | .str x, _, _, _, q, r, e => by cases q; simp only [nkOf] at e; cases e; obtain ⟨t, rfl⟩ := r; exact .text _ _
  | .ty n, _, _, _, _, r, e => by simp only [nkOf] at e; cases e
  | .fz _, _, _, _, _, r, e => by simp only [nkOf] at e; cases e
  | .ref _, _, _, _, _, r, e => by simp only [nkOf] at e; cases e
  | .gl _, _, _, _, _, r, e => by simp only [nkOf] at e; cases e
  | .scr _, _, _, _, _, r, e => by simp only [nkOf] at e; cases e
  | .tup ds, _, _, _, q, r, e => by
    cases q with
    | tup sq q =>
      simp only [nkOf] at e
      cases e1 : nkOfs ds with
      | none => rw [e1] at e; cases e
      | some ks =>
        rw [e1] at e
        cases e
        cases r
        obtain ⟨its, r1, ⟨o, h1, h2, n, h3⟩, _⟩ := Inv.tuple I (hK ▸ sq)
        exact .tup h1 h2 h3 (by simpa using nks_is hK I ds q r1 e1)
theorem nks_is (hK : G.K = X.K) (I : Inv X pins σ H s) : ∀ (ds : List PV) {vs : List V} {us : List Value} {ks : List NestedKey}, RepVs G φ H ds vs → Vals vs us → nkOfs ds = some ks → NestedAll s.heap ks us
  | [], _, _, _, q, r, e => by cases q; simp only [nkOfs] at e; cases e; cases r; exact .nil
  | d :: ds, _, _, _, q, r, e => by
    cases q with
    | cons a b =>
      obtain ⟨k, ks, e1, e2, rfl⟩ := nkOfs_cons e
      cases r with
      | cons r1 r2 => exact .cons (nk_is hK I d a r1 e1) (nks_is hK I ds b r2 e2)
end
theorem nk_flat {d : PV} {k : Key} (e : keyOf d = some k) : nkOf d = some (match k with | .inl i => .num i | .inr x => .text x) := by
  cases d <;> simp only [keyOf] at e <;> first | (cases e; done) | (cases e; rfl)
theorem same_flat {p d : PV} {k q : Key} {nk : NestedKey} (e1 : keyOf p = some q) (e2 : keyOf d = some k) (e3 : nkOf d = some nk) : sameK p nk = decide (q = k) := by
  have n1 := nk_flat e1
  have n2 := nk_flat e2
  rw [e3] at n2
  cases n2
  unfold sameK
  rw [n1]
  cases q <;> cases k <;> simp [NestedKey.beq]
theorem find_flat {k : Key} {nk : NestedKey} {d : PV} (e2 : keyOf d = some k) (e3 : nkOf d = some nk) : ∀ {kvs : List (PV × PV)} {ks : List (Key × V)}, Paired (RepK G φ H) kvs ks → (∀ z, dFind kvs nk = some z → ∃ w, valV ks k = some w ∧ RepV G φ H z w) ∧ (dFind kvs nk = none → valV ks k = none)
  | _, _, .nil => ⟨(fun z h => by simp [dFind] at h), (fun _ => rfl)⟩
  | _, _, .cons (a := p) (b := q) r t => by
    have ih := find_flat (k := k) (nk := nk) e2 e3 t
    have sm := same_flat r.1 e2 e3
    unfold dFind valV at *
    rw [List.find?_cons, List.find?_cons]
    by_cases z : q.1 = k
    · have s1 : sameK p.1 nk = true := by rw [sm]; exact decide_eq_true z
      rw [s1]
      simp only [z, decide_true]
      exact ⟨fun w hw => by cases hw; exact ⟨_, rfl, r.2⟩, fun hw => by cases hw⟩
    · have s1 : sameK p.1 nk = false := by rw [sm]; exact decide_eq_false z
      rw [s1]
      simp only [z, decide_false]
      exact ih
theorem any_find {ks : List (Key × V)} {k : Key} : (ks.any fun kv => decide (kv.1 = k)) = (valV ks k).isSome := by
  unfold valV
  induction ks with
  | nil => rfl
  | cons q t ih =>
    rw [List.any_cons, List.find?_cons]
    by_cases z : q.1 = k
    · simp [z]
    · simp only [z, decide_false, Bool.false_or]
      exact ih
theorem store_flat {k : Key} {nk : NestedKey} {d z : PV} {w : V} (e2 : keyOf d = some k) (e3 : nkOf d = some nk) (rz : RepV G φ H z w) {kvs : List (PV × PV)} {ks : List (Key × V)} (r : Paired (RepK G φ H) kvs ks) : Paired (RepK G φ H) (dStore kvs nk d z) (putK ks k w) := by
  have f := find_flat e2 e3 r
  unfold dStore putK
  rw [any_find]
  cases e : dFind kvs nk with
  | none =>
    rw [f.2 e]
    exact Paired.snoc r ⟨e2, rz⟩
  | some z' =>
    obtain ⟨w', e4, _⟩ := f.1 z' e
    rw [e4]
    simp only [Option.isSome_some, if_true]
    clear f e e4
    induction r with
    | nil => exact .nil
    | cons h t ih =>
      refine .cons ?_ ih
      rename_i p0 q0 _ _
      have sm := same_flat h.1 e2 e3
      show RepK G φ H (if sameK p0.1 nk = true then (p0.1, z) else p0) (if q0.1 = k then (q0.1, w) else q0)
      rw [sm]
      by_cases c : q0.1 = k
      · rw [if_pos (decide_eq_true c), if_pos c]; exact ⟨h.1, rz⟩
      · rw [if_neg (by rw [decide_eq_false c]; exact Bool.false_ne_true), if_neg c]; exact h
theorem same_tup {p d : PV} {q nk : NestedKey} (e1 : nkOf p = some q) : sameK p nk = decide (q = nk) := by
  unfold sameK
  rw [e1, NestedKey.decide_eq]
theorem find_tup {nk : NestedKey} : ∀ {kvs : List (PV × PV)} {xs : List (NestedKey × Addr × Value)}, Paired (RepE G φ H) kvs xs → (∀ z, dFind kvs nk = some z → ∃ p w, atKey xs nk = some p ∧ RelV w p.2 ∧ RepV G φ H z w) ∧ (dFind kvs nk = none → atKey xs nk = none)
  | _, _, .nil => ⟨(fun z h => by simp [dFind] at h), (fun _ => rfl)⟩
  | _, _, .cons (a := p) (b := q) r t => by
    have ih := find_tup (nk := nk) t
    have sm := same_tup (d := p.1) (nk := nk) r.1
    unfold dFind atKey at *
    rw [List.find?_cons, List.find?_cons]
    by_cases z : q.1 = nk
    · have s1 : sameK p.1 nk = true := by rw [sm]; exact decide_eq_true z
      rw [s1]
      simp only [z, decide_true]
      obtain ⟨w, r1, r2⟩ := r.2.2.2
      exact ⟨fun z' hw => by cases hw; exact ⟨_, w, rfl, r1, r2⟩, fun hw => by cases hw⟩
    · have s1 : sameK p.1 nk = false := by rw [sm]; exact decide_eq_false z
      rw [s1]
      simp only [z, decide_false]
      exact ih
theorem store_tup {nk : NestedKey} {d z : PV} {w : V} {b : Addr} {u : Value} (e3 : nkOf d = some nk) (hd : nk.depth ≤ 8) (rd : RepV G φ H d (.ref b)) (rw' : RelV w u) (rz : RepV G φ H z w) {kvs : List (PV × PV)} {xs : List (NestedKey × Addr × Value)} (r : Paired (RepE G φ H) kvs xs) :
    Paired (RepE G φ H) (dStore kvs nk d z) (storedH xs nk b u) := by
  have f := find_tup (nk := nk) r
  unfold dStore storedH
  cases e : dFind kvs nk with
  | none =>
    rw [f.2 e]
    exact Paired.snoc r ⟨e3, hd, rd, w, rw', rz⟩
  | some z' =>
    obtain ⟨p, w', e4, _⟩ := f.1 z' e
    rw [e4]
    simp only [Option.isSome_some, if_true]
    clear f e e4
    induction r with
    | nil => exact .nil
    | cons h t ih =>
      refine .cons ?_ ih
      rename_i p0 q0 _ _
      have sm := same_tup (d := p0.1) (nk := nk) h.1
      show RepE G φ H (if sameK p0.1 nk = true then (p0.1, z) else p0) (if q0.1 = nk then (q0.1, q0.2.1, u) else q0)
      rw [sm]
      by_cases c : q0.1 = nk
      · rw [if_pos (decide_eq_true c), if_pos c]; exact ⟨h.1, h.2.1, h.2.2.1, w, rw', rz⟩
      · rw [if_neg (by rw [decide_eq_false c]; exact Bool.false_ne_true), if_neg c]; exact h
/-- the dict in the model's heap -/
theorem dict_at (hK : G.K = X.K) (hP : G.P = X.prog) (hw : G.w = X.w) (I : Inv X pins σ H s) {xs : List (NestedKey × Addr × Value)} (e : Rd H a (NdO G.P G.w a xs)) (nd : (xs.map (·.1)).Nodup) (r : Paired (RepE G φ H) kvs xs) : s.heap.DictOfH (nestedKind X.prog X.w) a xs := by
  have ok := e.ok I.hok
  obtain ⟨⟨o, es, ep, h1, h2, h3, h4⟩, _, _⟩ := ok
  rw [hP, hw] at h4
  refine ⟨o, es, ep, h1, h2, h3, h4, fun x hx => ?_, nd⟩
  have all : ∀ {l : List (PV × PV)} {m : List (NestedKey × Addr × Value)}, Paired (RepE G φ H) l m → ∀ x ∈ m, (nestedKind X.prog X.w).is s.heap x.1 x.2.1 := by
    intro l m q
    induction q with
    | nil => intro x hx; exact nomatch hx
    | cons hq t ih =>
      intro x hx
      rcases List.mem_cons.mp hx with e | hx
      · subst e
        exact ⟨nk_is hK I _ hq.2.2.1 rfl hq.1, hq.2.1⟩
      · exact ih x hx
  exact all r x hx
theorem tup_ref {d : PV} (h : isTupP d = true) (r : RepV G φ H d v) : ∃ b, v = .ref b := by
  cases r <;> first | (cases h; done) | exact ⟨_, rfl⟩
theorem flat_not_tup {k : PV} (h1 : isTupP k = true) : keyOf k = none := by cases k <;> first | rfl | cases h1
theorem not_flat_ref {k : PV} {b : Addr} {kk : Key} (r : RepV G φ H k (.ref b)) (e : keyOf k = some kk) : False := by
  cases r <;> simp [keyOf] at e
/-- a dict that can be read -/
def RdD (G : Gc) (φ : List Addr) (H : Hp) (a : Addr) (kvs : List (PV × PV)) : Prop := kvs.length ≤ sizeLine ∧ ((∃ ks, Rd H a (.dK ks) ∧ Paired (RepK G φ H) kvs ks) ∨
      ∃ xs, kvs ≠ [] ∧ Rd H a (NdO G.P G.w a xs) ∧ (a == sysModules) = false ∧ (xs.map (·.1)).Nodup ∧ Paired (RepE G φ H) kvs xs)
theorem RdD.of (r : RepO G φ H a (.dic kvs)) : RdD G φ H a kvs := by
  obtain ⟨z, ⟨ks, e, q⟩ | ⟨xs, ne, e, q⟩⟩ := r
  · exact ⟨z, .inl ⟨ks, .inl e, q⟩⟩
  · exact ⟨z, .inr ⟨xs, ne, .inl e, q⟩⟩
theorem rep_dic (r : RelH G φ h H) (rv : RepV G φ H d v) (e : objOf h d = some (.dic kvs)) : ∃ a, v = .ref a ∧ RdD G φ H a kvs := by
  cases rv with
  | fdK z e1 q => simp only [objOf] at e; cases e; exact ⟨_, rfl, z, .inl ⟨_, .inr ⟨_, e1⟩, q.pd⟩⟩
  | fdN z ne e1 m nd q => simp only [objOf] at e; cases e; exact ⟨_, rfl, z, .inr ⟨_, ne, .inr ⟨_, e1⟩, m, nd, q.pd⟩⟩
  | ref hi => exact ⟨_, rfl, .of (r.obj _ _ _ e hi)⟩
  | _ => simp only [objOf] at e; cases e
/-- d[k], there -/
theorem dic_get (hK : G.K = X.K) (hP : G.P = X.prog) (hw : G.w = X.w) (hu : X.A.units + 64 < cLine) (I : Inv X pins σ H s) (ro : RdD G φ H a kvs) {k z : PV} {y : V} {u : Value} (rk : RepV G φ H k y) (ry : RelV y u) (e : dGetF kvs k = some z)
    {Q : VK} (q : ∀ w, RepV G φ H z w → Q w H) : s.TypeIs (.ref a) "dict" ∧ wpAny (model X.prog X.w) X.A (getItem (.ref a) u) (EP X pins σ Q) X.xe s := by
  unfold dGetF at e
  split at e
  · rename_i nk e3
    split at e
    · rename_i fit
      unfold fitsK at fit
      rw [Bool.or_eq_true] at fit
      obtain ⟨_, ⟨ks, e1, r⟩ | ⟨xs, ne, e1, sm, nd, r⟩⟩ := ro
      · -- numbers, texts
        have kf : ∃ kk, keyOf k = some kk := by
          rcases fit with f | f
          · rw [Bool.and_eq_true] at f
            exact Option.isSome_iff_exists.mp f.1
          · exfalso
            rw [Bool.and_eq_true, Bool.and_eq_true] at f
            cases r with
            | nil => cases e
            | cons h t =>
              have f2 := f.2
              rw [List.all_cons, Bool.and_eq_true] at f2
              have := flat_not_tup f2.1
              rw [h.1] at this; cases this
        obtain ⟨kk, ek⟩ := kf
        obtain ⟨w, e4, rw'⟩ := (find_flat ek e3 r).1 z e
        have yk : y = kV kk := by
          cases rk <;> simp only [keyOf] at ek <;> first | (cases ek; done) | (cases ek; rfl)
        subst yk
        have g : DGet H a (kV kk) (some w) := by rw [← e4]; exact .inl ⟨ks, kk, e1, rfl, rfl⟩
        exact ⟨dict_typeIs I g, d_getItem (by omega) I g ry fun w' s' I' rv => ⟨w, H, I', rv, q w rw'⟩⟩
      · have kt : isTupP k = true ∧ nk.depth ≤ 8 := by
          rcases fit with f | f
          · exfalso
            rw [Bool.and_eq_true] at f
            cases r with
            | nil => exact ne rfl
            | cons h t =>
              have f2 := f.2
              rw [List.all_cons, Bool.and_eq_true] at f2
              obtain ⟨kk, ek⟩ := Option.isSome_iff_exists.mp f2.1
              have h2 := h.2.2.1
              exact not_flat_ref h2 ek
          · rw [Bool.and_eq_true, Bool.and_eq_true] at f
            exact ⟨f.1.1, of_decide_eq_true f.1.2⟩
        obtain ⟨b, rfl⟩ := tup_ref kt.1 rk
        cases ry
        have dd := dict_at hK hP hw I e1 nd r
        obtain ⟨p, w, e4, r1, r2⟩ := (find_tup r).1 z e
        refine ⟨dd.typeIs, wpAny_getItem_heap (knd := nestedKind X.prog X.w) (by show X.A.in1.units + 8 < cLine; show X.A.units + 1 + 8 < cLine; omega) ⟨nk_is hK I _ rk rfl e3, kt.2⟩ dd e4 ⟨w, H, I.tok _, r1, q w r2⟩⟩
    · cases e
  · cases e
theorem dStore_len {nk : NestedKey} {k z : PV} : (dStore kvs nk k z).length ≤ kvs.length + 1 := by
  unfold dStore
  split
  · rw [List.length_map]; omega
  · rw [List.length_append]; simp
theorem dStore_ne {nk : NestedKey} {k z : PV} : dStore kvs nk k z ≠ [] := by
  unfold dStore
  split
  · rename_i h
    intro e
    cases kvs with
    | nil => simp [dFind] at h
    | cons p r => simp at e
  · intro e; simp at e
/-- d[k] = v -/
theorem dic_put (hK : G.K = X.K) (hP : G.P = X.prog) (hw : G.w = X.w) (hu : X.A.units + 64 < cLine) (I : Inv X pins σ H s) (rh : RelH G φ h H) {i : Nat} (hi : φ[i]? = some a) (hd0 : h[i]? = some (.dic kvs)) {k z : PV} {y w : V} {u r : Value} (rk : RepV G φ H k y) (ry : RelV y u) (rz : RepV G φ H z w) (rw' : RelV w r)
    {kvs' : List (PV × PV)} (e : dPutF kvs k z = some kvs') {Q : Hp → Prop} (q : ∀ φ' H', Ext φ H φ' H' → RelH G φ' (h.set i (.dic kvs')) H' → Q H') :
    wpAny (model X.prog X.w) X.A (setItem (.ref a) u r) (fun _ s' => ∃ H', Inv X pins σ H' s' ∧ Q H') X.xe s := by
  have ro := rh.obj i _ a hd0 hi
  unfold dPutF at e
  split at e
  · rename_i nk e3
    split at e
    · rename_i fit
      cases e
      rw [Bool.and_eq_true] at fit
      have hlen : kvs.length < sizeLine := of_decide_eq_true fit.2
      have fit := fit.1
      unfold fitsK at fit
      rw [Bool.or_eq_true] at fit
      -- a dict of tuples, from the dict as it lies
      have tupW : ∀ {xs : List (NestedKey × Addr × Value)}, isTupP k = true → nk.depth ≤ 8 → Mut (H a) → (a == sysModules) = false → s.heap.DictOfH (nestedKind X.prog X.w) a xs → Paired (RepE G φ H) kvs xs →
          wpAny (model X.prog X.w) X.A (setItem (.ref a) u r) (fun _ s' => ∃ H', Inv X pins σ H' s' ∧ Q H') X.xe s := by
        intro xs kt kd mu sm dd pr
        obtain ⟨b, rfl⟩ := tup_ref kt rk
        cases ry
        have hz : xs.length ≤ sizeLine := by rw [← Paired.length pr]; omega
        refine wpAny_setItem_heap (knd := nestedKind X.prog X.w) (hsz := hz) (by show X.A.units + 1 + 8 < cLine; omega) ⟨nk_is hK I _ rk rfl e3, kd⟩ dd fun h' dd' hs => ?_
        obtain ⟨o, es, ep, h1, h2, h3, h4, _, h5⟩ := dd'
        have new : ObjOk X.prog X.w (upd H a (NdO G.P G.w a (storedH xs nk b r))) h' a (NdO G.P G.w a (storedH xs nk b r)) := by
          refine ⟨⟨o, es, ep, h1, h2, h3, by rw [hP, hw]; exact h4⟩, ⟨o, h1⟩, fun g1 g2 ⟨o', es', ep', k1, k2, k3, k4⟩ kk => ⟨o', es', ep', kk o' k1, k2, k3, k4⟩⟩
        refine ⟨_, d_write I mu hs ⟨o, h1⟩ new, q φ _ (ext_put hi) (rh.put hi ⟨by have := dStore_len (kvs := kvs) (nk := nk) (k := k) (z := z); omega, .inr ⟨_, dStore_ne, upd_same, sm, h5, ?_⟩⟩)⟩
        exact paired_map (store_tup e3 kd rk rw' rz pr) fun p x hh => ⟨hh.1, hh.2.1, repV_ext rh (ext_put hi) hh.2.2.1, let ⟨v, r1, r2⟩ := hh.2.2.2; ⟨v, r1, repV_ext rh (ext_put hi) r2⟩⟩
      obtain ⟨_, ⟨ks, e1, pr⟩ | ⟨xs, ne, e1, sm, nd, pr⟩⟩ := ro
      · obtain ⟨hz, hsm, vs, kv, dd⟩ := dk_of I.hok e1
        by_cases kt : isTupP k = true
        · have kd : nk.depth ≤ 8 ∧ kvs = [] := by
            rcases fit with f | f
            · rw [Bool.and_eq_true] at f
              have := flat_not_tup kt
              rw [this] at f; exact absurd f.1 (by simp)
            · rw [Bool.and_eq_true, Bool.and_eq_true] at f
              refine ⟨of_decide_eq_true f.1.2, ?_⟩
              cases pr with
              | nil => rfl
              | cons hh t =>
                have f2 := f.2
                rw [List.all_cons, Bool.and_eq_true] at f2
                have := flat_not_tup f2.1
                rw [hh.1] at this; cases this
          obtain ⟨kd, rfl⟩ := kd
          cases pr
          cases kv
          obtain ⟨o, es, ep, h1, h2, h3, h4, h5, h6⟩ := dd
          have he : es.toList = [] := by
            cases hq : es.toList with
            | nil => rfl
            | cons x r => rw [hq] at h5; cases h5
          refine tupW (xs := []) kt kd (by rw [e1]; exact True.intro) hsm ⟨o, es, ep, h1, h2, h3, he, (fun x hx => nomatch hx), List.nodup_nil⟩ .nil
        · have kf : ∃ kk, keyOf k = some kk := by
            rcases fit with f | f
            · rw [Bool.and_eq_true] at f
              exact Option.isSome_iff_exists.mp f.1
            · rw [Bool.and_eq_true, Bool.and_eq_true] at f
              exact absurd f.1.1 kt
          obtain ⟨kk, ek⟩ := kf
          have yk : y = kV kk := by
            cases rk <;> simp only [keyOf] at ek <;> first | (cases ek; done) | (cases ek; rfl)
          subst yk
          have hl : ks.length < sizeLine := by rw [← Paired.length pr]; exact hlen
          refine d_setItem (by omega) I (DPut.k e1 hl) ry rw' fun s' I' => ⟨_, I', q φ _ (ext_put hi) (rh.put hi ⟨by have := dStore_len (kvs := kvs) (nk := nk) (k := k) (z := z); omega, .inl ⟨_, upd_same, ?_⟩⟩)⟩
          exact paired_map (store_flat ek e3 rz pr) fun p x hh => ⟨hh.1, repV_ext rh (ext_put hi) hh.2⟩
      · have kt : isTupP k = true ∧ nk.depth ≤ 8 := by
          rcases fit with f | f
          · exfalso
            rw [Bool.and_eq_true] at f
            cases pr with
            | nil => exact ne rfl
            | cons hh t =>
              have f2 := f.2
              rw [List.all_cons, Bool.and_eq_true] at f2
              obtain ⟨kk, ek⟩ := Option.isSome_iff_exists.mp f2.1
              exact not_flat_ref hh.2.2.1 ek
          · rw [Bool.and_eq_true, Bool.and_eq_true] at f
            exact ⟨f.1.1, of_decide_eq_true f.1.2⟩
        exact tupW kt.1 kt.2 (by rw [e1]; exact True.intro) sm (dict_at hK hP hw I (.inl e1) nd pr) pr
    · cases e
  · cases e
theorem new_fd {Q : VK} (r : RelH G φ h H) (q : ∀ φ' H' v, Ext φ H φ' H' → RelH G φ' h H' → RepV G φ' H' (.fz (.dic [])) v → Q v H') :
    ∀ p, H p = none → ∀ od, Q (.ref p) (upd (upd H p (.dK [])) p (.frz od (.dK []))) := fun p hp od => new_fz r (.fdK (Nat.zero_le _) upd_same .nil) hp q
theorem new_dic {Q : VK} (r : RelH G φ h H) (q : ∀ φ' H' v, Ext φ H φ' H' → RelH G φ' (h ++ [PObj.dic []]) H' → RepV G φ' H' (.ref h.length) v → Q v H') :
    ∀ p, H p = none → Q (.ref p) (upd H p (.dK [])) := fun p hp => by
  have x := ext_alloc (u := HO.dK []) r hp
  refine q (φ ++ [p]) _ _ x (r.alloc hp ⟨Nat.zero_le _, .inl ⟨[], upd_same, .nil⟩⟩) (.ref ?_)
  rw [← r.len, List.getElem?_append_right (Nat.le_refl _)]; simp
end
end Zed
end
section
set_option Elab.async false
set_option linter.all false
set_option maxRecDepth 100000
namespace Zed
open PySem L2
section
variable {X : Cx} {G : Gc} {φ φ' : List Addr} {h h' : PHeap} {H H' : Hp} {a p : Addr} {d : PV} {v : V} {ds : List PV} {vs : List V} {l : Loc} {σ : St} {o : PObj} {u : HO} {i : Nat}
theorem RepVs.atI {i : Int} (q : RepVs G φ H ds vs) (e : L2.atI ds i = some d) : ∃ v, L2.atI vs i = some v ∧ RepV G φ H d v := by
  unfold L2.atI at e ⊢
  rw [← q.length]
  cases z : ixN ds.length i with
  | none => rw [z] at e; cases e
  | some j => rw [z] at e; exact q.get e
theorem ix_subZ (hK : G.K = X.K) (hP : G.P = X.prog) (hw : G.w = X.w) (hu : X.A.units + 64 < cLine) : IxR X (r2 G subF) := by
  intro value slice pins s σ H x y v u Q I rx ry q hs
  obtain ⟨φ, h, ds, z, h', rh, rv, e, q⟩ := q
  cases rv with
  | cons r1 rv =>
    cases rv with
    | cons r2 rv =>
      cases rv
      simp only [subF] at e
      cases z0 : getF _ _ h with
      | none => rw [z0] at e; cases e
      | some c0 =>
        rw [z0] at e
        obtain ⟨rfl, rfl⟩ := some2 e
        unfold getF at z0
        split at z0
        · rename_i x
          split at z0
          · rename_i i
            split at z0
            · rename_i hz
              cases z1 : L2.atI x.cps.toList i with
              | none => rw [z1] at z0; cases z0
              | some c =>
                rw [z1] at z0
                cases z0
                cases r1; cases r2
                exact ix_str value slice pins s σ H _ _ v u Q I rx ry ⟨_, _, c, rfl, rfl, hz, z1, q φ H _ .refl rh (.str _)⟩ hs
            · cases z0
          · cases z0
        · split at z0
          · cases r1 with
            | tup s1 q1 =>
              cases r2
              obtain ⟨w, e2, rw⟩ := q1.atI z0
              exact ix_tup value slice pins s σ H _ _ v u Q I rx ry ⟨_, _, _, w, rfl, rfl, hK ▸ s1, e2, q φ H _ .refl rh rw⟩ hs
          · cases z0
        · split at z0
          · cases r1 with
            | scr s1 =>
              cases r2
              obtain ⟨w, e2, rw⟩ := (ints_repVs (G := G) (φ := φ) (H := H) _).atI z0
              exact ix_list value slice pins s σ H _ _ v u Q I rx ry ⟨_, _, _, w, rfl, rfl, hK ▸ s1.sq, e2, q φ H _ .refl rh rw⟩ hs
          · cases z0
        · split at z0
          · rename_i kvs hx
            obtain ⟨a, rfl, rd⟩ := rep_dic rh r1 hx
            cases rx
            obtain ⟨ty, wp⟩ := dic_get hK hP hw hu I rd r2 ry z0 (Q := Q) fun w rw => q φ H w .refl rh rw
            exact PyProof.Rows.tail_any ty PySem.F.slot_dict_getitem.lookup wp hs
          · rename_i es hx
            split at z0
            · obtain ⟨a, vs, rfl, sq, q1⟩ := rep_lst rh r1 (by unfold lstOf; rw [hx])
              cases r2
              obtain ⟨w, e2, rw⟩ := q1.atI z0
              exact ix_list value slice pins s σ H _ _ v u Q I rx ry ⟨_, _, _, w, rfl, rfl, hK ▸ sq, e2, q φ H _ .refl rh rw⟩ hs
            · cases z0
          · cases z0
/-- slices -/
theorem RepVs.take : ∀ {ds : List PV} {vs : List V} (n : Nat), RepVs G φ H ds vs → RepVs G φ H (ds.take n) (vs.take n)
  | _, _, 0, _ => .nil
  | _, _, _ + 1, .nil => .nil
  | _, _, n + 1, .cons a b => .cons a (RepVs.take n b)
theorem RepVs.drop : ∀ {ds : List PV} {vs : List V} (n : Nat), RepVs G φ H ds vs → RepVs G φ H (ds.drop n) (vs.drop n)
  | _, _, 0, q => q
  | _, _, _ + 1, .nil => .nil
  | _, _, n + 1, .cons a b => RepVs.drop n b
theorem RepVs.cut (q : RepVs G φ H ds vs) (lo hi : Option Int) : RepVs G φ H (cutP ds lo hi) (cutV vs lo hi) := by
  unfold cutP cutV
  rw [q.length]
  exact RepVs.take _ (RepVs.drop _ q)
def rSlZ (G : Gc) : V → Option Int → Option Int → Hp → VK → Prop := fun x lo hi H Q =>
  ∃ φ h d z h', RelH G φ h H ∧ RepV G φ H d x ∧ slcF d lo hi h = some (z, h') ∧ ∀ φ' H' v, Ext φ H φ' H' → RelH G φ' h' H' → RepV G φ' H' z v → Q v H'
theorem sl_Z (hK : G.K = X.K) : SlR X (rSlZ G) := by
  intro pins s σ H x v vl vu lo hi sl Q I rx hs pl pu q
  obtain ⟨φ, h, d, z, h', rh, rv, e, q⟩ := q
  unfold slcF at e
  split at e
  · split at e
    · rename_i hz
      obtain ⟨rfl, rfl⟩ := some2 e
      cases rv with
      | tup s1 q1 =>
        rw [q1.length] at hz
        exact sl_tupA pins s σ H _ v vl vu lo hi sl Q I rx hs pl pu ⟨_, _, rfl, hK ▸ s1, fun _ => q φ H _ .refl rh (.tup s1 q1), fun nz => absurd hz nz⟩
    · rename_i hz
      obtain ⟨rfl, rfl⟩ := some2 e
      cases rv with
      | tup s1 q1 =>
        rw [q1.length] at hz
        exact sl_tup pins s σ H _ v vl vu lo hi sl Q I rx hs pl pu ⟨_, _, rfl, hK ▸ s1, hz, new_tup rh (q1.cut lo hi) q⟩
  · split at e
    · rename_i ds e1
      obtain ⟨rfl, rfl⟩ := some2 e
      obtain ⟨a, vs, rfl, sq, q1⟩ := rep_lst rh rv e1
      obtain ⟨T, id, t1, t2, t3⟩ := sl_list pins s σ H _ v vl vu lo hi sl (fun v H' => ∃ d u, v = .ref d ∧ H' d = some u ∧ Mut (some u) ∧ ∀ od, Q v (upd H' d (.frz od u))) I rx hs pl pu ⟨_, _, rfl, hK ▸ sq, fun p np => ⟨p, _, rfl, upd_same, trivial, new_fl rh (q1.cut lo hi) q p np⟩⟩
      exact ⟨T, id, t1, t2, wp_lock t3⟩
    · cases e
/-- truth -/
theorem truth_Z (rh : RelH G φ h H) (rv : RepV G φ H d v) {b : Bool} (e : truthF h d = some b) : TruV G.K v H b := by
  have sq : ∀ {ds : List PV}, (seqOf h d).map (fun ds => !ds.isEmpty) = some b → TruV G.K v H b := by
    intro _ e
    cases z : seqOf h d with
    | none => rw [z] at e; cases e
    | some es =>
      rw [z] at e
      obtain ⟨a, vs, rfl, sq, q⟩ := rep_seq rh rv z
      have hl : es.isEmpty = vs.isEmpty := by
        have := q.length
        cases es <;> cases vs <;> first | rfl | (simp at this)
      cases e
      rcases sq with sq | sq
      · exact .inl ⟨vs, sq, by show (!es.isEmpty) = _; rw [hl]⟩
      · exact .inr (.inl ⟨vs, sq, by show (!es.isEmpty) = _; rw [hl]⟩)
  unfold truthF at e
  split at e
  · cases e; cases rv; rfl
  · cases e; cases rv; rfl
  · cases e; cases rv; rfl
  · split at e
    · rename_i hz
      cases e; cases rv
      refine ⟨hz, ?_⟩
      rename_i x
      cases hx : x.length with
      | zero => rfl
      | succ n => show (n + 1 != 0) = (((n + 1 : Nat) : Int) != 0); simp; omega
    · cases e
  · exact sq (ds := []) e
/-- calls of built-ins -/
theorem bools_map : ∀ {ds : List PV} {vs : List V} {bs : List Bool}, RepVs G φ H ds vs → bools ds = some bs → vs = bs.map V.bl
  | _, _, _, .nil, e => by simp only [bools] at e; cases e; rfl
  | _, _, _, .cons a b, e => by
    cases a <;> simp only [bools] at e <;> first | (cases e; done) | skip
    rename_i c
    revert e
    cases z : bools _ with
    | none => intro e; cases e
    | some cs => intro e; cases e; rw [bools_map b z]; rfl
def biV : Bi → Value
  | .len => .builtin "len"
  | .isinstance => .builtin "isinstance"
  | .all => .builtin "all"
  | .abs => .builtin "abs"
  | .int => .type "int"
  | .max => .builtin "max"
  | .min => .builtin "min"
  | .tuple => .type "tuple"
  | .list => .type "list"
  | .listm => .type "list"
  | .sorted => .builtin "sorted"
  | .set => .type "set"
  | .repr => .builtin "repr"
  | .reprc => .builtin "repr"
  | .str => .type "str"
theorem ints_map : ∀ {ds : List PV} {vs : List V} {ns : List Int}, RepVs G φ H ds vs → intsP ds = some ns → vs = ns.map V.int
  | _, _, _, .nil, e => by simp only [intsP] at e; cases e; rfl
  | _, _, _, .cons a b, e => by
    cases a <;> simp only [intsP] at e <;> first | (cases e; done) | skip
    rename_i c
    revert e
    cases z : intsP _ with
    | none => intro e; cases e
    | some cs => intro e; cases e; rw [ints_map b z]; rfl
theorem foldMax : ∀ (r : List Int) (n : Int), (r.foldl max n ∈ n :: r) ∧ ∀ y ∈ n :: r, y ≤ r.foldl max n
  | [], n => ⟨List.mem_cons_self, fun y hy => by simp at hy; subst hy; exact Int.le_refl _⟩
  | x :: r, n => by
    obtain ⟨a, b⟩ := foldMax r (max n x)
    have hx := b (max n x) List.mem_cons_self
    refine ⟨?_, fun y hy => ?_⟩
    · show r.foldl max (max n x) ∈ n :: x :: r
      rcases List.mem_cons.mp a with a | a
      · rw [a]
        rcases Int.le_total n x with z | z
        · rw [Int.max_eq_right z]; exact List.mem_cons_of_mem _ List.mem_cons_self
        · rw [Int.max_eq_left z]; exact List.mem_cons_self
      · exact List.mem_cons_of_mem _ (List.mem_cons_of_mem _ a)
    · show y ≤ r.foldl max (max n x)
      rcases List.mem_cons.mp hy with rfl | hy
      · exact Int.le_trans (Int.le_max_left _ _) hx
      · rcases List.mem_cons.mp hy with rfl | hy
        · exact Int.le_trans (Int.le_max_right _ _) hx
        · exact b y (List.mem_cons_of_mem _ hy)
theorem callr_of {f : Value} {F : Pf}
    (k : ∀ (pins : List (Addr × Obj)) (s : Shared) (σ : St) (H : Hp) (xs : List V) (us : List Value) (Q : VK) (φ : List Addr) (h : PHeap) (ds : List PV) (z : PV) (h' : PHeap), Inv X pins σ H s → Vals xs us → RelH G φ h H → RepVs G φ H ds xs →
      F ds h = some (z, h') → (∀ φ' H' v, Ext φ H φ' H' → RelH G φ' h' H' → RepV G φ' H' z v → Q v H') → wpAny (model X.prog X.w) X.A (call f us) (EP X pins σ Q) X.xe s) : CallR X f (rP G F) := by
  intro pins s σ H xs us Q I rx ⟨φ, h, ds, z, h', rh, rv, e, q⟩
  exact k pins s σ H xs us Q φ h ds z h' I rx rh rv e q
theorem omap {α β : Type} {o : Option α} {f : α → β} {b : β} (e : o.map f = some b) : ∃ a, o = some a ∧ f a = b := by
  cases o with
  | none => cases e
  | some a => cases e; exact ⟨a, rfl, rfl⟩
theorem repVs_one (q : RepVs G φ H [d] vs) : ∃ v, vs = [v] ∧ RepV G φ H d v := by
  cases q with
  | cons a b => cases b; exact ⟨_, rfl, a⟩
theorem repVs_two {e : PV} (q : RepVs G φ H [d, e] vs) : ∃ v w, vs = [v, w] ∧ RepV G φ H d v ∧ RepV G φ H e w := by
  cases q with
  | cons a b =>
    obtain ⟨w, rfl, r⟩ := repVs_one b
    exact ⟨_, _, rfl, a, r⟩
theorem noKey {d : PV} {a : Addr} (z : (keyOf d).isSome = true) (r : RepV G φ H d (.ref a)) : False := by
  cases r <;> cases z
theorem ty_Z (rh : RelH G φ h H) (rv : RepV G φ H d v) {t : String} (e : tyName h d = some t) : TyX G.K H v (.type t) := by
  cases rv with
  | non => cases e; exact .base .non
  | bl b => cases e; exact .base (.bl b)
  | int b => cases e; exact .base (.int b)
  | str b => cases e; exact .base (.str b)
  | ty => cases e
  | gl => cases e
  | scr => simp only [tyName, objOf] at e; cases e
  | tup s q =>
    cases e
    rcases s with (s | ⟨o, s⟩) | ⟨o, its, n, s, c, _⟩
    · exact .base (.tup s)
    · exact .fTuple s
    · exact .kTuple s c
  | fl s q =>
    simp only [tyName, objOf] at e
    cases e
    obtain ⟨o, s⟩ := s
    exact .base (.frz s)
  | fdK z s q =>
    simp only [tyName, objOf] at e
    split at e
    · cases e; exact .fDict s
    · cases e
  | fdN z ne s m nd q =>
    simp only [tyName, objOf] at e
    split at e
    · rename_i hk
      cases q with
      | nil => exact absurd rfl ne
      | cons a b c =>
        rw [List.all_cons, Bool.and_eq_true] at hk
        exact (noKey hk.1 c).elim
    · cases e
  | fset => simp only [tyName, objOf] at e; cases e
  | fiP => simp only [tyName, objOf] at e; cases e
  | fiS => simp only [tyName, objOf] at e; cases e
  | ref hi =>
    simp only [tyName, objOf] at e
    split at e
    · rename_i ds hx
      cases e
      obtain ⟨vs, e1, _⟩ := rh.obj _ _ _ hx hi
      exact .base (.lst e1)
    · rename_i kvs hx
      split at e
      · rename_i hk
        cases e
        obtain ⟨_, ⟨ks, e1, _⟩ | ⟨xs, ne, e1, _, _, q⟩⟩ := rh.obj _ _ _ hx hi
        · exact .base (.dK e1)
        · cases q with
          | nil => exact absurd rfl ne
          | cons a b =>
            rw [List.all_cons, Bool.and_eq_true] at hk
            have z := hk.1
            have r := a.2.2.1
            exact (noKey z r).elim
      · cases e
    · cases e
theorem strsP_ok : ∀ {ds : List PV} {xs : List Str}, strsP ds = some xs → ds = xs.map PV.str
  | [], _, e => by cases e; rfl
  | d :: ds, xs, e => by
    cases d <;> simp only [strsP] at e <;> first | (cases e; done) | skip
    obtain ⟨ys, e1, e2⟩ := omap e
    cases e2
    rw [strsP_ok e1]; rfl
theorem strsP_map : ∀ (xs : List Str), strsP (xs.map PV.str) = some xs
  | [] => rfl
  | x :: r => by
    show (strsP (r.map PV.str)).map (x :: ·) = _
    rw [strsP_map r]; rfl
theorem repVs_strs : ∀ {xs : List Str} {vs : List V}, RepVs G φ H (xs.map PV.str) vs → vs = xs.map V.str
  | [], _, .nil => rfl
  | x :: r, _, .cons a b => by
    cases a
    rw [repVs_strs b]; rfl
theorem strs_repVs : ∀ (xs : List Str), RepVs G φ H (xs.map PV.str) (xs.map V.str)
  | [] => .nil
  | x :: r => .cons (.str x) (strs_repVs r)
theorem new_set {Q : VK} {w : World} (hw : G.w = w) {xs : List Str} (hl : xs.length < 64) (r : RelH G φ h H) (q : ∀ φ' H' v, Ext φ H φ' H' → RelH G φ' h H' → RepV G φ' H' (.fz (.set (xs.map PV.str))) v → Q v H') :
    ∀ ks p, ks.Perm xs → H p = none → ∀ od, Q (.ref p) (upd (upd H p (TxO w p ks)) p (.frz od (TxO w p ks))) := fun ks p pk hp od => by
  subst hw
  exact new_fz r (.fset rfl upd_same pk hl) hp q
theorem rep_set (r : RelH G φ h H) (rv : RepV G φ H d v) (e : objOf h d = some (.set ds)) : ∃ (a : Addr) (xs ks : List Str), v = .ref a ∧ ds = xs.map PV.str ∧ Rd H a (TxO G.w a ks) ∧ ks.Perm xs ∧ xs.length < 64 := by
  cases rv with
  | fset z e1 p l => simp only [objOf] at e; cases e; exact ⟨_, _, _, rfl, z, .inr ⟨_, e1⟩, p, l⟩
  | ref hi =>
    obtain ⟨xs, ks, z0, z1, z2, z3⟩ := r.obj _ _ _ e hi
    exact ⟨_, xs, ks, rfl, z0, .inl z1, z2, z3⟩
  | _ => simp only [objOf] at e; cases e
theorem repr_Z {x : Str} (e : reprP d = some x) (rv : RepV G φ H d v) {pins : List (Addr × Obj)} {σ : St} {s : Shared} {u : Value} {Q : VK} (I : Inv X pins σ H s) (r : RelV v u) (q : Q (.str x) H) :
    wpAny (model X.prog X.w) X.A (call (.builtin "repr") [u]) (EP X pins σ Q) X.xe s := by
  cases rv with
  | non =>
    cases e; cases r
    exact P.repr_of_none ⟨.str _, H, I.tok _, ⟨_, rfl⟩, q⟩
  | bl b =>
    cases e; cases r
    exact P.repr_of_bool ⟨.str _, H, I.tok _, ⟨_, rfl⟩, q⟩
  | int i =>
    obtain ⟨t, rfl⟩ := r
    unfold reprP at e
    dsimp only at e
    split at e
    · rename_i hb
      cases e
      exact P.repr_of_int hb ⟨.str _, H, I.tok _, ⟨_, rfl⟩, q⟩
    · cases e
  | _ => cases e
theorem reprC_Z (hK : G.K = X.K) (rh : RelH G φ h H) (hg : X.A.guards = some []) (hu : X.A.units + 64 < cLine) {x : Str} (e : reprC h d = some x) (rv : RepV G φ H d v) {pins : List (Addr × Obj)} {σ : St} {s : Shared} {u : Value} {Q : VK} (I : Inv X pins σ H s) (r : RelV v u) (q : Q (.str x) H) :
    wpAny (model X.prog X.w) X.A (call (.builtin "repr") [u]) (EP X pins σ Q) X.xe s := by
  unfold reprC at e
  split at e
  · rename_i y e1
    cases e
    exact repr_Z e1 rv I r q
  · rename_i e0
    split at e
    · rename_i y o e9
      split at e
      · rename_i hz
        cases e
        cases rv
        obtain ⟨t, rfl⟩ := r
        exact P.repr_of_str ⟨.str _, H, I.tok _, ⟨_, rfl⟩, q⟩ hz
      · cases e
    · rename_i ns e1
      split at e
      · rename_i hz
        cases e
        have dp := rep_data rh _ rv e1
        rw [hK] at dp
        obtain ⟨as, rd⟩ := Dp.reads I _ _ _ dp r
        have isr : ∃ a, v = .ref a := by
          cases rv with
          | tup => exact ⟨_, rfl⟩
          | fl => exact ⟨_, rfl⟩
          | fdK => exact ⟨_, rfl⟩
          | fdN => exact ⟨_, rfl⟩
          | fset => exact ⟨_, rfl⟩
          | fiP => exact ⟨_, rfl⟩
          | fiS => exact ⟨_, rfl⟩
          | ref => exact ⟨_, rfl⟩
          | gl => exact ⟨_, rfl⟩
          | scr => exact ⟨_, rfl⟩
          | str => exact (ns _ rfl).elim
          | non => cases e0
          | bl => cases e0
          | int =>
            exfalso
            simp only [toD] at e1
            cases e1
            simp only [reprP] at e0
            split at e0
            · cases e0
            · rename_i n1
              exact n1 (by simpa [PyData.showable] using hz.1)
          | ty => simp [toD] at e1
        obtain ⟨a, rfl⟩ := isr
        cases r
        refine PySem.repr_of_reads' rd hz.1 (fun z => by rw [hz.2.1] at z; cases z) hg (by have := hz.2.2.1; omega) (fun _ _ e => e) (fun h' u tk k => ⟨.str _, H, I.kept k, ⟨_, rfl⟩, q⟩) hz.2.2.2
      · cases e
    · cases e
theorem call_Z (hK : G.K = X.K) (hw : G.w = X.w) (hc : X.calm = true) (hu : X.A.units + 64 < cLine) (b : Bi) (hg : b = .reprc → X.A.guards = some []) : CallR X (biV b) (rP G (bltF b)) := by
  refine callr_of fun pins s σ H xs us Q φ h ds z h' I rx rh rv e q => ?_
  unfold bltF at e
  split at e
  · -- len str
    split at e
    · rename_i hz
      obtain ⟨rfl, rfl⟩ := some2 e
      obtain ⟨v, rfl, r⟩ := repVs_one rv
      cases r
      exact call_len pins s σ H _ us Q I rx ⟨_, _, rfl, ⟨hz, rfl⟩, q φ H _ .refl rh (.int _)⟩
    · cases e
  · obtain ⟨es, e1, e2⟩ := omap e
    cases e2
    obtain ⟨v, rfl, r⟩ := repVs_one rv
    obtain ⟨a, vs, rfl, sq, q1⟩ := rep_seq rh r e1
    refine call_len_seq pins s σ H _ us Q I rx ⟨_, vs, rfl, hK ▸ sq, ?_⟩
    rw [← q1.length]
    exact q φ H _ .refl rh (.int _)
  · split at e
    · rename_i t e1
      obtain ⟨b, e2, e3⟩ := omap e
      cases e3
      obtain ⟨v, w, rfl, r, r'⟩ := repVs_two rv
      cases r'
      exact call_isi pins s σ H _ us Q I rx ⟨_, _, _, _, _, rfl, .ty _, hK ▸ ty_Z rh r e1, kit_ty e2, q φ H _ .refl rh (.bl _)⟩
    · cases e
  · split at e
    · rename_i es e1
      obtain ⟨bs, e2, e3⟩ := omap e
      cases e3
      obtain ⟨v, rfl, r⟩ := repVs_one rv
      obtain ⟨a, vs, rfl, sq, q1⟩ := rep_lst rh r e1
      have := bools_map q1 e2
      subst this
      exact cr_all hc pins s σ H _ us Q I rx ⟨_, _, rfl, hK ▸ sq, q φ H _ .refl rh (.bl _)⟩
    · cases e
  · cases e
    obtain ⟨v, rfl, r⟩ := repVs_one rv
    cases r
    exact call_abs pins s σ H _ us Q I rx ⟨_, rfl, q φ H _ .refl rh (.int _)⟩
  · cases e
    obtain ⟨v, rfl, r⟩ := repVs_one rv
    cases r
    exact call_int1 pins s σ H _ us Q I rx (.inl ⟨_, rfl, q φ H _ .refl rh (.int _)⟩)
  · cases e
    obtain ⟨v, rfl, r⟩ := repVs_one rv
    cases r
    exact call_int1 pins s σ H _ us Q I rx (.inr ⟨_, rfl, q φ H _ .refl rh (.int _)⟩)
  · cases e
    obtain ⟨v, w, rfl, r, r'⟩ := repVs_two rv
    cases r; cases r'
    exact call_max2 hc pins s σ H _ us Q I rx ⟨_, _, rfl, q φ H _ .refl rh (.int _)⟩
  · split at e
    · rename_i es e1
      split at e
      · rename_i n r e2
        obtain ⟨rfl, rfl⟩ := some2 e
        obtain ⟨v, rfl, rw⟩ := repVs_one rv
        obtain ⟨a, vs, rfl, sq, q1⟩ := rep_lst rh rw e1
        have := ints_map q1 e2
        subst this
        obtain ⟨m1, m2⟩ := foldMax r n
        refine cr_max hc pins s σ H _ us Q I rx ⟨_, n :: r, rfl, hK ▸ sq, Nat.succ_pos _, fun m h1 h2 => ?_⟩
        have e : m = r.foldl max n := Int.le_antisymm (m2 m h1) (h2 _ m1)
        rw [e]
        exact q φ H _ .refl rh (.int _)
      · cases e
    · cases e
  · split at e
    · rename_i hl
      obtain ⟨rfl, rfl⟩ := some2 e
      obtain ⟨v, rfl, r⟩ := repVs_one rv
      cases r
      exact call_str_int pins s σ H _ us Q I rx ⟨_, rfl, hl, q φ H _ .refl rh (.str _)⟩
    · cases e
  · cases e
    obtain ⟨v, w, rfl, r, r'⟩ := repVs_two rv
    cases r; cases r'
    exact call_min2 hc pins s σ H _ us Q I rx ⟨_, _, rfl, q φ H _ .refl rh (.int _)⟩
  · cases e
    obtain ⟨v, rfl, r⟩ := repVs_one rv
    cases r with
    | tup s1 q1 => exact call_tuple_of pins s σ H _ us Q I rx ⟨_, _, rfl, .inr ⟨hK ▸ s1, q φ H _ .refl rh (.tup s1 q1)⟩⟩
  · obtain ⟨es, e1, e2⟩ := omap e
    cases e2
    obtain ⟨v, rfl, r⟩ := repVs_one rv
    obtain ⟨a, vs, rfl, sq, q1⟩ := rep_lst rh r e1
    exact call_tuple_of pins s σ H _ us Q I rx ⟨_, _, rfl, .inl ⟨hK ▸ sq, new_tup rh q1 q⟩⟩
  · obtain ⟨es, e1, e2⟩ := omap e
    cases e2
    obtain ⟨v, rfl, r⟩ := repVs_one rv
    obtain ⟨a, vs, rfl, sq, q1⟩ := rep_seq rh r e1
    exact wp_lock (call_list_of pins s σ H _ us _ I rx ⟨_, _, rfl, hK ▸ sq, fun p np => ⟨p, _, rfl, upd_same, trivial, new_fl rh q1 q p np⟩⟩)
  · obtain ⟨es, e1, e2⟩ := omap e
    cases e2
    obtain ⟨v, rfl, r⟩ := repVs_one rv
    obtain ⟨a, vs, rfl, sq, q1⟩ := rep_seq rh r e1
    exact call_list_of pins s σ H _ us Q I rx ⟨_, _, rfl, hK ▸ sq, new_lst rh q1 q⟩
  · unfold setP at e
    split at e
    · rename_i es e1
      split at e
      · rename_i ss e2
        split at e
        · rename_i hl
          obtain ⟨rfl, rfl⟩ := some2 e
          obtain ⟨v, rfl, r⟩ := repVs_one rv
          obtain ⟨a, vs, rfl, sq, q1⟩ := rep_lst rh r e1
          rw [strsP_ok e2] at q1
          have := repVs_strs q1
          subst this
          exact wp_lock (cr_txSet hc pins s σ H _ us _ I rx ⟨_, _, rfl, hK ▸ sq, hl, fun ks p pk hp => ⟨p, _, rfl, upd_same, trivial, new_set hw (Nat.lt_of_le_of_lt (dedS_len ss) hl) rh q ks p pk hp⟩⟩)
        · cases e
      · cases e
    · cases e
  · unfold sortP at e
    split at e
    · rename_i es e1
      obtain ⟨ss, e2, e3⟩ := omap e
      cases e3
      obtain ⟨v, rfl, r⟩ := repVs_one rv
      obtain ⟨a, xs0, ks, rfl, z0, z1, z2, z3⟩ := rep_set rh r e1
      subst z0
      rw [strsP_map] at e2
      cases e2
      refine wp_lock (cr_txSort hc pins s σ H _ us _ I rx ⟨_, ks, rfl, hw ▸ z1, by rw [z2.length_eq]; exact z3, fun ys p y1 y2 hp => ?_⟩)
      rw [sortS_one (y1.trans z2) y2]
      exact ⟨p, _, rfl, upd_same, trivial, new_fl rh (strs_repVs (sortS ss)) q p hp⟩
    · rename_i es e1
      split at e
      · rename_i ss e2
        split at e
        · rename_i hl
          obtain ⟨rfl, rfl⟩ := some2 e
          obtain ⟨v, rfl, r⟩ := repVs_one rv
          obtain ⟨a, vs, rfl, sq, q1⟩ := rep_lst rh r (by unfold lstOf; rw [e1])
          rw [strsP_ok e2] at q1
          have := repVs_strs q1
          subst this
          refine wp_lock (cr_sortedS pins s σ H _ us _ I rx ⟨_, ss, rfl, hK ▸ sq, hl, fun ys p y1 y2 hp => ?_⟩)
          rw [sortS_one y1 y2]
          exact ⟨p, _, rfl, upd_same, trivial, new_fl rh (strs_repVs (sortS ss)) q p hp⟩
        · cases e
      · cases e
    · cases e
  · obtain ⟨x, e1, e2⟩ := omap e
    cases e2
    obtain ⟨v, rfl, r⟩ := repVs_one rv
    cases rx with
    | cons ry rt =>
      cases rt
      exact repr_Z e1 r I ry (q φ H _ .refl rh (.str _))
  · obtain ⟨x, e1, e2⟩ := omap e
    cases e2
    obtain ⟨v, rfl, r⟩ := repVs_one rv
    cases rx with
    | cons ry rt =>
      cases rt
      exact reprC_Z hK rh (hg rfl) hu e1 r I ry (q φ H _ .refl rh (.str _))
  · cases e
end
end Zed
end
section
set_option Elab.async false
set_option linter.all false
set_option maxRecDepth 100000
set_option maxHeartbeats 4000000
namespace Zed
open PySem L2 PySem.Spec PyProof.Rows
/-! ### try with several clauses, with and without a name; what no clause takes is not wished for -/
/-- a clause: the class, the slot of its name, the suite's reading -/
structure Cl where
  cls : Value
  slot : Option Nat
  ts : Addr → Value → Option Addr → TS
/-- where a suite ends, the clause's name goes -/
def endsAt (D : Ends) : Option Nat → Ends
  | none => D
  | some i => { nx := fun σ' H' => D.nx (σ'.set i none) H', rt := D.rt, bk := fun σ' H' => D.bk (σ'.set i none) H', ct := fun σ' H' => D.ct (σ'.set i none) H' }
def slotsAt (σ : L2.St) (a : Addr) : Option Nat → L2.St
  | none => σ
  | some i => σ.set i (some (.ref a))
def wCl (K : PySem.W.Frag) (D : Ends) : List Cl → WX
  | [] => fun _ _ _ _ => False
  | c :: r => fun cls d σ H => ∃ b, PySem.W.exmOne K cls c.cls = some b ∧ (b = true → ∀ a, H a = none → c.ts a cls d (endsAt D c.slot) (slotsAt σ a c.slot) H) ∧ (b = false → wCl K D r cls d σ H)
inductive ClsOk (X : Cx) : List ExceptHandler → List Cl → Prop
  | cut {hds : List ExceptHandler} : ClsOk X hds []
  | bare {x : Str} {c : Value} {ts : Addr → Value → Option Addr → TS} {st : Stmt} {sts : List Stmt} {p1 p2 : Pos} {hds : List ExceptHandler} {l : List Cl} (nm : Names X x c)
      (su : ∀ (a : Addr) (ob : Obj) (cls : Value) (d : Option Addr) (pn : List (Addr × Obj)), Zc cls d ob → (∃ fs, ob.data = .fields fs) → PSs (X.suite a ((a, ob) :: pn)) (st :: sts) (ts a cls d)) (r : ClsOk X hds l) :
      ClsOk X (.ExceptHandler (some (.Name x p1)) none (st :: sts) p2 :: hds) (⟨c, none, ts⟩ :: l)
  | name {x n : Str} {c : Value} {i : Nat} {ts : Addr → Value → Option Addr → TS} {st : Stmt} {sts : List Stmt} {p1 p2 : Pos} {hds : List ExceptHandler} {l : List Cl} (nm : Names X x c) (hi : X.N[i]? = some n) (hl : X.env.kindOf n = some .local)
      (su : ∀ (a : Addr) (ob : Obj) (cls : Value) (d : Option Addr) (pn : List (Addr × Obj)), Zc cls d ob → (∃ fs, ob.data = .fields fs) → PSs (X.suite a ((a, ob) :: pn)) (st :: sts) (ts a cls d)) (r : ClsOk X hds l) :
      ClsOk X (.ExceptHandler (some (.Name x p1)) (some n) (st :: sts) p2 :: hds) (⟨c, some i, ts⟩ :: l)
theorem ps_tryZ {X : Cx} {body : List Stmt} {hd : ExceptHandler} {hds : List ExceptHandler} {l : List Cl} {pos : Pos} {tb : WX → TS} (hs : X.stack = X.env :: X.outer) (hfr : X.env.frame = some X.env.locals) (nd : X.N.Nodup)
    (hb : ∀ (W : WX) (pn : List (Addr × Obj)) (xe : Value → Shared → Prop), Takes (X.tr pn xe) W → PassesOwn (model X.prog X.w) X.A X.env xe → PSs (X.tr pn xe) body (tb W))
    (hc : ClsOk X (hd :: hds) l) : PS X (.Try body (hd :: hds) [] [] pos) (fun D σ H => tb (wCl X.K D l) D σ H) := by
  constructor
  intro pins s σ H D I h
  have ok := I.ok
  have frm : X.A.frames = some (X.env :: X.outer) := by rw [ok.frames, hs]
  refine wpAny_Try_except ?_
  have run := (hb (wCl X.K D l) (X.pn ++ pins) (fun e t1 => wpAny (model X.prog X.w) X.A (noteFrame e X.env) (fun _ t2 => wpAny (model X.prog X.w) X.A (setFlight e none)
    (fun _ t3 => wpAny (model X.prog X.w) X.A (handleBy e X.env (hd :: hds)) (SP X pins D) X.xe t3) X.xe t2) X.xe t1) ?take PassesOwn.looking).run [] s σ H D (I.toTry _) h
  case take =>
    rintro u0 t ⟨a, B, sI, pins1, σ1, H1, cls, d, rfl, J0, nb, up, sky, na, os, ag, w⟩
    have J : Inv X pins σ1 H1 sI := J0.ofTry ok
    have sk : Sky B (X.env :: X.outer) a (Zc cls d) X.env.locals t.heap := hs ▸ sky
    show wpAny (model X.prog X.w) X.A (noteFrame (.ref a) X.env) _ _ _
    refine Sky.land Zc.steady frm hfr sk ?_
    intro g fl upg
    have Jg : Inv X pins σ1 H1 { t with heap := g } := J.landed nb fl.1 (up.trans upg) os ag
    obtain ⟨ob, fs, hob, hz, hfs⟩ := fl.there
    have out : a ∉ frs (X.env :: X.outer) := fun hm => by
      obtain ⟨_, o1, e1, no⟩ := fl.2.2.1.mem hm
      rw [hob] at e1
      cases e1
      exact no _ hfs
    have nL : a ≠ X.env.locals := fun z => out (List.mem_filterMap.mpr ⟨X.env, List.mem_cons_self, by rw [hfr, z]⟩)
    have nF : a ∉ X.fs := fun hm => by
      obtain ⟨e, he, q⟩ := List.mem_filterMap.mp hm
      exact out (List.mem_filterMap.mpr ⟨e, .tail _ he, q⟩)
    have Sg := Jg.suite hob hfs na nL nF
    have go : ∀ (hds : List ExceptHandler) (l : List Cl), ClsOk X hds l → wCl X.K D l cls d σ1 H1 → wpAny (model X.prog X.w) X.A (handleBy (.ref a) X.env hds) (SP X pins D) X.xe { t with heap := g } := by
      intro hds l k
      induction k with
      | cut => exact fun z => z.elim
      | @bare x c ts st sts p1 p2 hds l nm su r ih =>
        rintro ⟨b, eb, yes, no⟩
        refine wpAny_handleBy_cons (codeAny_handlers_test ?_) (by intro z; cases z)
        have ty : PySem.W.Looks (model X.prog X.w) g (typeOf (.ref a)) cls := fun A Q E s k q => wpAny_typeOf_ref (k _ _ hob) (by rw [hz.1]; exact q)
        have look := PySem.W.exm_one (M := model X.prog X.w) Jg.kIn ty eb
        have nam : ∀ {Q E : Value → Shared → Prop}, Q c { t with heap := g } → wpAny (model X.prog X.w) (X.A.mark (some (.ref a))) (eval (.Name x p1) X.env) Q E { t with heap := g } := fun {Q E} q => by
          rcases nm with ⟨n1, n2, n3 | ⟨n3, n4, n5⟩⟩
          · exact ld_glob (X := X.suite a ((a, ob) :: (X.pn ++ pins))) Sg n1 n3 q n2
          · exact ld_blt (X := X.suite a ((a, ob) :: (X.pn ++ pins))) Sg n1 n3 n4 q n5 n2
        refine nam (look.here ?_)
        cases b with
        | false => exact ih (no rfl)
        | true =>
          refine codeAny_handlers_suite (HandSPX.lands_againZ fl fun g2 fl2 up2 => ?_)
          have J2 : Inv X pins σ1 H1 { t with heap := g2 } := J.landed nb fl2.1 ((up.trans upg).trans up2) os ag
          obtain ⟨ob2, fs2, hob2, hz2, hfs2⟩ := fl2.there
          have S2 := J2.suite hob2 hfs2 na nL nF
          refine wpAny_mono ((su a ob2 cls d (X.pn ++ pins) hz2 ⟨_, hfs2⟩).run [] _ _ H1 _ S2 (yes rfl a na)) (fun f s6 z => ?_) (fun _ _ z => z.elim)
          cases f with
          | ret u => obtain ⟨v6, σ6, H6, S6, r6, q6⟩ := z; exact ⟨_, _, _, S6.unsuite ok, r6, q6⟩
          | next => obtain ⟨σ6, H6, S6, q6⟩ := z; exact ⟨_, _, S6.unsuite ok, q6⟩
          | brk => obtain ⟨σ6, H6, S6, q6⟩ := z; exact ⟨_, _, S6.unsuite ok, q6⟩
          | cont => obtain ⟨σ6, H6, S6, q6⟩ := z; exact ⟨_, _, S6.unsuite ok, q6⟩
      | @name x n c i ts st sts p1 p2 hds l nm hi hl su r ih =>
        rintro ⟨b, eb, yes, no⟩
        refine wpAny_handleBy_cons (codeAny_handlers_test ?_) (by intro z; cases z)
        have ty : PySem.W.Looks (model X.prog X.w) g (typeOf (.ref a)) cls := fun A Q E s k q => wpAny_typeOf_ref (k _ _ hob) (by rw [hz.1]; exact q)
        have look := PySem.W.exm_one (M := model X.prog X.w) Jg.kIn ty eb
        have nam : ∀ {Q E : Value → Shared → Prop}, Q c { t with heap := g } → wpAny (model X.prog X.w) (X.A.mark (some (.ref a))) (eval (.Name x p1) X.env) Q E { t with heap := g } := fun {Q E} q => by
          rcases nm with ⟨n1, n2, n3 | ⟨n3, n4, n5⟩⟩
          · exact ld_glob (X := X.suite a ((a, ob) :: (X.pn ++ pins))) Sg n1 n3 q n2
          · exact ld_blt (X := X.suite a ((a, ob) :: (X.pn ++ pins))) Sg n1 n3 n4 q n5 n2
        refine nam (look.here ?_)
        cases b with
        | false => exact ih (no rfl)
        | true =>
          refine codeAny_handlers_suite_as (HandSPX.lands_againZ fl fun g2 fl2 up2 => ?_)
          have J2 : Inv X pins σ1 H1 { t with heap := g2 } := J.landed nb fl2.1 ((up.trans upg).trans up2) os ag
          obtain ⟨ob2, fs2, hob2, hz2, hfs2⟩ := fl2.there
          have S2 := J2.suite hob2 hfs2 na nL nF
          refine store_ok (X := X.suite a ((a, ob2) :: (X.pn ++ pins))) (v := .ref a) S2 nd hi (.inl hl) rfl (fun s5 S5 => ?_) (.inr hl)
          refine wpAny_mono ((su a ob2 cls d (X.pn ++ pins) hz2 ⟨_, hfs2⟩).run [] s5 _ H1 _ S5 (yes rfl a na)) (fun f s6 z => ?_) (fun _ _ z => z.elim)
          cases f with
          | ret u => obtain ⟨v6, σ6, H6, S6, r6, q6⟩ := z; exact gone_ok (S6.unsuite ok) nd hi hl fun s7 J7 => ⟨_, _, _, J7, r6, q6⟩
          | next => obtain ⟨σ6, H6, S6, q6⟩ := z; exact gone_ok (S6.unsuite ok) nd hi hl fun s7 J7 => ⟨_, _, J7, q6⟩
          | brk => obtain ⟨σ6, H6, S6, q6⟩ := z; exact gone_ok (S6.unsuite ok) nd hi hl fun s7 J7 => ⟨_, _, J7, q6⟩
          | cont => obtain ⟨σ6, H6, S6, q6⟩ := z; exact gone_ok (S6.unsuite ok) nd hi hl fun s7 J7 => ⟨_, _, J7, q6⟩
    exact go _ _ hc w
  refine wpAny_mono run (fun f s1 z => ?_) (fun e s1 z => z)
  cases f with
  | ret u => obtain ⟨v, σ6, H6, J6, r6, q6⟩ := z; exact ⟨v, σ6, H6, J6.ofTry ok, r6, q6⟩
  | next => obtain ⟨σ6, H6, J6, q6⟩ := z; exact wpAny_execs_nil ⟨σ6, H6, J6.ofTry ok, q6⟩
  | brk => obtain ⟨σ6, H6, J6, q6⟩ := z; exact ⟨σ6, H6, J6.ofTry ok, q6⟩
  | cont => obtain ⟨σ6, H6, J6, q6⟩ := z; exact ⟨σ6, H6, J6.ofTry ok, q6⟩
end Zed
end
section
set_option Elab.async false
set_option linter.all false
set_option maxRecDepth 100000
set_option maxHeartbeats 1000000
/-! ZedK: own errors over any base whose __init__ says super().__init__(a text) and keeps its value. -/
namespace Zed
open PySem PySem.W PySem.Calls PyProof.Rows PyProof.V PySem.Spec
section
open Builtin Builtin.ObjectAttr
variable {prog : Program} {w : World} {A : Around} {E : Value → Shared → Prop} {R : Result → Shared → Prop} {hp : Heap} {g : Array GenState} {d : Drawn} {t : Nat} {os : OsState}
theorem osaG {K : W.Frag} {B : String} {bmB : List Value} {name : Str} {tk : Tok} {v : Value} {x C : Addr} {fv : Array Value} {cd : ClassData} (S0 : StoreFacts B bmB "object.__setattr__" "object")
    (X : K.In hp) (hx : hp.get? x = some { cls := .ref C, data := .fields fv }) (hcd : W.clsIn K C = some cd) (hm : excTail bmB cd.mro = true) (ne : cd.mro.isEmpty = false) (hh : cd.hasDict = true) (ha : W.findIn K (.ref C) name = some none)
    (hq : ∀ h' tk' dx, (∀ b o, b ≠ x → hp.get? b = some o → h'.get? b = some o) → hp.objs.size ≤ dx → dx ≠ x → h'.get? x = some { cls := .ref C, dict := some dx, data := .fields fv } →
      h'.Ns1 dx (fun y => if y = name then some v else none) → R (.ok (.ret .none)) ⟨h', g, d, tk', os⟩) :
    codeAny (model prog w) A (.call (.builtin "object.__setattr__") ⟨[.ref x, .str name tk, v], []⟩) R ⟨hp, g, d, t, os⟩ := by
  have I : W.InstAt hp x { cls := .ref C, data := .fields fv } C none := ⟨hx, rfl, rfl, trivial⟩
  have SF := F.store_object
  have hob : cd.mro.contains (.type "object") = true := (excTail_contains "object" _ hm).trans S0.hasOwner
  have hxs : x ≠ hp.objs.size := Nat.ne_of_lt (Heap.lt_size hx)
  have sub : W.Looks (model prog w) hp (isInstance (.ref x) (.type "object")) true := I.type.andThen (W.looks_mroIn X (by unfold W.mroIn; rw [hcd, Option.bind_some, if_neg (by rw [ne]; decide), hob]))
  refine codeAny_call_builtin SF.slot.plain SF.entry (@W.check_slot (model prog w) _ _ ⟨hp, g, d, t, os⟩ "object.__setattr__" "object" "__setattr__" (.ref x) [.str name tk, v] [] _ SF.kind SF.split sub (SF.args (.ref x) (.str name tk) v) ?_)
  have hmr : W.Looks (model prog w) hp (mroOf (.ref C)) cd.mro := (W.looks_clsIn X hcd).andThen .now
  have L3 : W.Looks (model prog w) hp (storeTaker? none) none := .now
  have hcls : W.Looks (model prog w) hp (classData C) cd := W.looks_clsIn X hcd
  rw [W.osa_eq, refuse_eq]
  refine wpAny_bind (wpAny_bind (I.type.at (wpAny_bind (hmr.at ?_))))
  rw [excTail_pass _ (S0.passes _) _ hm]
  refine wpAny_pure (wpAny_bind (I.type.at (wpAny_bind ((W.looks_findIn X ha).at (wpAny_bind (L3.at ?_))))))
  show wpAny _ _ (storeInOwnDict (.ref x) (.ref C) (.str name tk) name v false) _ _ _
  obtain ⟨nm, bs, mro, ns, qn, hd, sn, sb, ab, col, del⟩ := cd
  dsimp only at hh
  subst hh
  unfold storeInOwnDict ownDictForStores
  repeat (first | with_reducible refine PySem.HandSPX.store_in_new ?_ ?_ | with_reducible refine wpAny_loadPart_at hx ?_ | with_reducible refine hcls.at ?_ | wp_step)
  · exact ⟨_, #[], _, (Heap.get?_update_ne _ _ _ _ hxs.symm).trans (Heap.get?_push_at rfl rfl), rfl, fun e he => absurd he (by simp), fun _ => rfl⟩
  · intro h' tk' hn' hs
    have hx₁ : (hp.push { cls := .type "dict", data := .dict #[] }).get? x = some { cls := .ref C, data := .fields fv } := Heap.get?_push_of_some _ hx
    refine hq h' tk' hp.objs.size (fun b o hb ho => ?_) (Nat.le_refl _) hxs.symm ?_ hn'
    · exact (hs.2 b (Nat.ne_of_lt (Heap.lt_size ho))).trans ((Heap.get?_update_ne _ _ _ _ hb).trans (Heap.get?_push_of_some _ ho))
    · exact (hs.2 x hxs).trans (Heap.get?_update_self _ hx₁ rfl)
end
section
variable {prog : Program} {w : World} {A : Around} {E : Value → Shared → Prop} {h : Heap} {g : Array GenState} {d : Drawn} {t : Nat} {os : OsState}
variable {nm q : Str} {C N : Addr} {bs bm bmB : List Value} {hdct : Bool} {sn : List Str} {sub : List Value} {ab : Bool} {col : Option Bool} {dd : Option Addr} {k0 k1 k2 k3 k5 : Option Value} {B newId i : String}
/-- the bound built-in __init__ called -/
theorem callG {u e t0 : Addr} {rest : List Value} {Q : Value → Shared → Prop} (FB : ExcBaseFacts B newId i bmB)
    (hC : h.get? C = some (excClassObj nm q C N bs bm hdct sn sub ab col dd k0 k1 k2 k3 k5 newId)) (he : h.get? e = some (excObj C t0 none .none)) (hu : h.get? u = some (kxs_mw i e)) (hz : rest.length ≤ sizeLine)
    (hq : ∀ h' t1, (∀ b o, b ≠ e → h.get? b = some o → h'.get? b = some o) → h'.get? e = some (excObj C t1 none .none) → Q .none ⟨h', g, d, t, os⟩) :
    wpAny (model prog w) A (call (.ref u) rest) Q E ⟨h, g, d, t, os⟩ := by
  refine wpAny_call (codeAny_of_tree ?_)
  show wpAny _ A.in1 (callAny (.ref u) ⟨rest, []⟩) _ _ _
  simp only [callAny]
  refine wpAny_bind (wpAny_load hu ?_)
  simp only [kxs_mw, show (Value.type "method-wrapper" == Value.type "method" || Value.type "method-wrapper" == Value.type "builtin_function_or_method" || Value.type "method-wrapper" == Value.type "method-wrapper") = true by decide, if_true]
  refine KFB.if_so (by decide) ?_
  refine wpAny_bind (check_bound_init FB.toExcCallFacts hC he rfl ?_)
  refine wpAny_bind (wpAny_pure (wpAny_pure ?_))
  refine ⟨plainId_quiet FB.init.plain _, codeAny_builtin FB.initEntry ?_⟩
  exact exc_init_tree (cls := .ref C) (t0 := t0) (dv := none) (c2 := .none) (c3 := .none) (b4 := .bool false) he hz fun h' k e' _ => hq h' _ k e'
end
section
variable {prog : Program} {w : World} {A : Around} {R : Result → Shared → Prop} {h : Heap} {g : Array GenState} {d : Drawn} {t : Nat} {os : OsState}
variable {K : Frag} {mg : Str → Option Value} {B newId i : String} {bmB : List Value} {C x fI cc cda t0 : Addr} {v : Value} {fld txt sf pn qual file : Str}
  {params : Arguments} {scope : Scope} {dV kV doc pm ct oc ccl cl : Value} {an od cdd cld dd : Option Addr} {osl ccs csl : Array (Option Value)} {vs : Array Value} {tf : Tok} {ar : Arg}
  {nm q : Str} {N : Addr} {bs bm : List Value} {sn : List Str} {sub : List Value} {ab : Bool} {col : Option Bool} {k0 k1 k2 k3 k5 : Option Value}
  {p0 p1 p2 p3 p4 p5 p6 p7 p8 pc : Pos} {kc : Nat} {binds : List (Str × Value)}
abbrev bodyI (txt sf pn fld : Str) (kc : Nat) (p0 p1 p2 p3 p4 p5 p6 p7 p8 pc : Pos) : List Stmt :=
  [.Expr (.Call (.Attribute (.Call (.Name "super" p0) [] [] p1) "__init__" p2) [.Constant (.str txt) kc pc] [] p3) p4, .Assign [.Attribute (.Name sf p5) fld p6] (.Name pn p7) p8]
theorem init_run (FB : ExcBaseFacts B newId i bmB) (KF : KxsFacts B i) (S0 : StoreFacts B bmB "object.__setattr__" "object") (X : K.In h) (lim : h.NoLimit) (glob : h.Ns mainGlobals mg)
    (blt : ∃ mb, h.Ns builtinsNs mb ∧ ∀ x : Str, x ≠ "__name__" → mb x = bootBuiltins x) (hsup : mg "super" = none) (hroom : A.depth < recursionLimit)
    (ho : K.lookup fI = some ⟨oc, od, .func (ksFn "__init__" qual params (bodyI txt sf pn fld kc p0 p1 p2 p3 p4 p5 p6 p7 p8 pc) scope dV kV doc pm an (.ref cda) ct cc), osl⟩) (hcd : codeIn K (.ref cda) qual = true)
    (hbind : BindsTo ⟨h, g, d, t, os⟩ (ksFn "__init__" qual params (bodyI txt sf pn fld kc p0 p1 p2 p3 p4 p5 p6 p7 p8 pc) scope dV kV doc pm an (.ref cda) ct cc) ⟨[.ref x, v], []⟩ binds)
    (hbx : binds.reverse.lookup sf = some (.ref x)) (hbv : binds.reverse.lookup pn = some v) (hloc : ∀ y ∈ binds, scope.names.lookup y.1 = some .local)
    (hcell : ∀ x ∈ scope.names, x.2 ≠ .cell) (hco : scope.isCoroutine = false) (hgen : scope.isGenerator = false) (hk : scope.kind = .function)
    (hp : (params.posonlyargs ++ params.args).head? = some ar) (har : ar.arg = sf) (hks : scope.names.lookup ("super" : Str) = some .globalImplicit) (hkc : scope.names.lookup ("__class__" : Str) = some .free)
    (hka : scope.names.lookup sf = some .local) (hkv : scope.names.lookup pn = some .local) (sdb : (sf == ("__debug__" : Str)) = false) (pdb : (pn == ("__debug__" : Str)) = false)
    (hcode : K.lookup cda = some ⟨ccl, cdd, .fields vs, ccs⟩) (hvs : vs[2]? = some (.str file tf)) (hfile : ((prog.main.file : Str) == file) = true) (htop : (prog.main.scope.names.lookup ("super" : Str)).isSome = false)
    (hcc : K.lookup cc = some ⟨cl, cld, .cell (some (.ref C)), csl⟩)
    (hC : K.lookup C = some (excClassObj nm q C N bs bm true sn sub ab col dd k0 k1 k2 k3 k5 newId)) (ht : excTail bmB bm = true) (hsub : mroIn K C (.ref C) = some true) (hB : subIn K (.ref C) (.type B) = some true)
    (hal : alongIn K "__init__" bm = some (some (.builtin i))) (hop : nsIn K cStatics "thirdparty.any" = some none) (hsa : findIn K (.ref C) "__setattr__" = some (some (.builtin "object.__setattr__"))) (hno : findIn K (.ref C) fld = some none)
    (hx : h.get? x = some (excObj C t0 none .none)) (xC : x ≠ C)
    (hln : (p2.endLine == p3.line) = true) (xK : K.lookup x = none)
    (hq : ∀ h' tk' dx t1, (∀ b o, b ≠ x → h.get? b = some o → h'.get? b = some o) → h.objs.size ≤ dx → dx ≠ x → h'.get? x = some (excObj C t1 (some dx) .none) → h'.Ns1 dx (fun y => if y = fld then some v else none) → R (.ok (.ret .none)) ⟨h', g, d, tk', os⟩) :
    codeAny (model prog w) A (.call (.ref fI) ⟨[.ref x, v], []⟩) R ⟨h, g, d, t, os⟩ := by
  refine ks_codeAny_call_defAt (fd := ksFn "__init__" qual params (bodyI txt sf pn fld kc p0 p1 p2 p3 p4 p5 p6 p7 p8 pc) scope dV kV doc pm an (.ref cda) ct cc) (body := bodyI txt sf pn fld kc p0 p1 p2 p3 p4 p5 p6 p7 p8 pc) (binds := binds) hroom (X _ _ ho) rfl lim (codeRec_of X hcd) rfl hbind hcell hloc (fun h₁ hns hk₁ => ?_) hco hgen hk
  show _root_.PySem.wpAt (model prog w) (A.deeper (ksEnv qual scope h.objs.size fI (.ref cda) cc)) (.func _ (ksEnv qual scope h.objs.size fI (.ref cda) cc)) (execs _ (ksEnv qual scope h.objs.size fI (.ref cda) cc)) _ _ _
  have X1 : K.In h₁ := X.keeps hk₁
  have hE : ∀ env : Env, eval (.Call (.Attribute (.Call (.Name "super" p0) [] [] p1) "__init__" p2) [.Constant (.str txt) kc pc] [] p3) env = (do
      let ov ← attributeBase (.Call (.Name "super" p0) [] [] p1) "__init__" env (eval (.Call (.Name "super" p0) [] [] p1) env)
      standAt p2.atName
      let (f, first) ← holding [ov] (getMethod ov "__init__" (do return (← pure (some false)).getD true))
      callWith p3 f first (backTo p3 (starEach [.Constant (.str txt) kc pc] env)) []) := fun env => by
    rw [arm_eval_Call]
    unfold methodCall methodCallPos
    simp only [hln, Bool.or_true, if_true, pure_bind]
    rfl
  have hI : interactive (ksEnv qual scope h.objs.size fI (.ref cda) cc) = false := by
    show (scope.kind == .module && _) = false
    rw [hk]; rfl
  refine ks_wpAt_execs_cons (ks_wpAt_Expr_any (ks_wpAt_MethodCall ?_ (hE _)) hI)
  refine ks_wpAt_super_base (env := ksEnv qual scope h.objs.size fI (.ref cda) cc) hks hkc (by decide) rfl (X1 _ _ ho) rfl hp rfl (X1 _ _ hcode) rfl hvs hfile htop ?_
  obtain ⟨mb, b1, b2⟩ := blt
  refine ks_loadName_global hk hks (loadGlobal_builtin (env := ksEnv qual scope h.objs.size fI (.ref cda) cc) (glob.keeps hk₁) hsup (b1.keeps hk₁) ((b2 "super" (by decide)).trans (by decide +kernel)) ⟨rfl, ?_⟩)
  refine wpAny_loadName_free hk hkc rfl ⟨_, X1 _ _ hcc, rfl⟩ ?_
  rw [har]
  refine wpAny_loadName_local hk hka hns hbx ?_
  have hC1 := X1 _ _ hC
  have hx1 : h₁.get? x = some (excObj C t0 none .none) := hk₁ _ _ hx
  refine ks_wpAny_isType_cls hC1 rfl ⟨rfl, ?_⟩
  refine ks_wpAny_call_super hC1 rfl hx1 rfl (fun c e => by cases e) (looks_mroIn X1 hsub) (fun h2 e2 k2 => ?_)
  have X2 : K.In h2 := X1.keeps k2
  have hx2 := k2 _ _ hx1
  have I2 : InstAt h2 x (excObj C t0 none .none) C none := ⟨hx2, rfl, rfl, trivial⟩
  have hcl : clsIn K C = some { name := nm, bases := bs, mro := .ref C :: bm, ns := N, qualname := q, hasDict := true, slotNames := sn, subclasses := sub, abstract := ab, collection := col, hasDel := false } := by unfold clsIn; rw [hC] <;> rfl
  refine kxs_getMethod KF e2 (looks_opaque X2 hop) (l₀ := .ref C :: bm) ((looks_clsIn X2 hcl).andThen .now) (l := bm) (by simp [List.dropWhile_cons]) X2 hal (I2.type.andThen (looks_subIn X2 hB)) xC (by decide) ?_
  have k3 : ∀ b o, h2.get? b = some o → (h2.push (kxs_mw i x)).get? b = some o := fun b o e => Heap.get?_push_of_some _ e
  have X3 : K.In (h2.push (kxs_mw i x)) := X2.keeps k3
  show wpAny _ _ (callWith p3 (.ref h2.objs.size) [] [(false, eval (.Constant (.str txt) kc pc) (ksEnv qual scope h.objs.size fI (.ref cda) cc))] []) _ _ _
  refine kxs_callWith (i := i) (x := x) rfl (evalArgs_plain (spliced_cons (wpAny_Constant_str ?_)))
  have hx3 := k3 _ _ hx2
  have hu : (h2.push (kxs_mw i x)).get? h2.objs.size = some (kxs_mw i x) := Heap.get?_push_at rfl rfl
  simp only [spliced]
  refine wpAny_pure ⟨hu, ?_⟩
  refine callG FB (X3 _ _ hC) hx3 hu (by show 1 ≤ sizeLine; rw [sizeLine_eq]; decide) fun h4 t1 k4 e4 => ?_
  have nK : ∀ b o, K.lookup b = some o → b ≠ x := fun b o e z => by rw [z, xK] at e; cases e
  have X4 : K.In h4 := fun b o e => k4 b o (nK b o e) (X3 b o e)
  have xl : x < h.objs.size := Heap.lt_size hx
  have all : ∀ b o, b ≠ x → h₁.get? b = some o → h4.get? b = some o := fun b o n e => k4 b o n (k3 _ _ (k2 _ _ e))
  have hns4 : h4.Ns h.objs.size (fun y => binds.reverse.lookup y) := hns.at fun o q => all _ o (Nat.ne_of_gt xl) q
  refine ks_wpAt_execs_cons (ks_wpAt_Assign_Attr (wpAt_of_wpAny (wpAny_Name (wpAny_loadName_local hk hkv hns4 hbv ?_) pdb)) (by rfl))
  refine wpAny_Name (wpAny_loadName_local hk hka hns4 hbx ?_) sdb
  refine set_plain X4 (ox := excObj C t1 none .none) (od := none) ⟨e4, rfl, rfl, trivial⟩ hsa ?_
  refine osaG S0 X4 e4 hcl (by show excTail bmB bm = true; exact ht) rfl rfl hno (fun h5 tk5 dx k5' dn dne e5 n5 => ?_)
  have hsz : h.objs.size ≤ dx := by
    have hL : ∃ o, h4.get? h.objs.size = some o := by obtain ⟨o, _, _, e, _⟩ := hns4; exact ⟨o, e⟩
    obtain ⟨o, e⟩ := hL
    exact Nat.le_of_lt (Nat.lt_of_lt_of_le (Heap.lt_size e) dn)
  refine wpAt_of_wpAny (wpAny_pure ?_)
  refine hq h5 tk5 dx t1 (fun b o n e => k5' b o n (all b o n (hk₁ b o e))) hsz dne e5 n5
end
end Zed
end
section
set_option Elab.async false
set_option linter.all false
set_option maxRecDepth 100000
set_option maxHeartbeats 1000000
/-! ZedK2: the rule for C(e), C an own error that keeps its value. -/
namespace Zed
open PySem PySem.W PySem.Calls PyProof.Rows PyProof.V PySem.Spec L2
/-- what is asked of the class -/
structure ErrC (prog : Program) (w : World) (K : Frag) (mg : Str → Option Value) (C : Addr) (fld : Str) (newId : String) (bmB : List Value) : Prop where
  cls : ∃ nm q N bs bm sn sub ab col dd k0 k1 k2 k3 k5, K.lookup C = some (excClassObj nm q C N bs bm true sn sub ab col dd k0 k1 k2 k3 k5 newId) ∧ excTail bmB bm = true
  exC : subIn K (.ref C) (.type "BaseException") = some true
  tyC : typeIn K (.ref C) = some (.type "type")
  kC : keepIn K (.ref C) = true
  run : ∃ fI, findIn K (.ref C) "__init__" = some (some (.ref fI)) ∧ typeIn K (.ref fI) = some (.type "function") ∧
    ∀ (A : Around) (R : Result → Shared → Prop) (h : Heap) (g : Array GenState) (d : Drawn) (t : Nat) (os : OsState) (x t0 : Addr) (v : Value), K.In h → h.NoLimit → h.Ns mainGlobals mg →
      (∃ mb, h.Ns builtinsNs mb ∧ ∀ x : Str, x ≠ "__name__" → mb x = bootBuiltins x) → A.depth < recursionLimit → h.get? x = some (excObj C t0 none .none) → x ≠ C → K.lookup x = none →
      (∀ h' tk' dx t1, (∀ b o, b ≠ x → h.get? b = some o → h'.get? b = some o) → h.objs.size ≤ dx → dx ≠ x → h'.get? x = some (excObj C t1 (some dx) .none) → h'.Ns1 dx (fun y => if y = fld then some v else none) → R (.ok (.ret .none)) ⟨h', g, d, tk', os⟩) →
      codeAny (model prog w) A (.call (.ref fI) ⟨[.ref x, v], []⟩) R ⟨h, g, d, t, os⟩
/-- C(e): a new dict holds the value -/
def tMkR (C : Addr) (fld : Str) (te : TE) : L2.St → Hp → XK → Prop := fun σ H Q => tCons te tNil σ H fun vs H1 => ∃ y, vs = [y] ∧ ∀ dx, H1 dx = none → Q (.ref C) (some dx) (upd H1 dx (.xd [(fld, y)]))
theorem pmk_raf {X : Cx} {B newId i : String} {bmB : List Value} {x fld : Str} {C : Addr} {k : Nat} {e : Expr} {te : TE} {p pos : Pos} (FB : ExcBaseFacts B newId i bmB) (T : ErrC X.prog X.w X.K X.mg C fld newId bmB)
    (hr : Room (k + 1) X.A) (hg : Gl X x) (hm : X.mg x = some (.ref C)) (he : PE X e te)
    (hdb : (x == ("__debug__" : Str)) = false) (hs : starEach [e] X.env = (false, eval e X.env) :: starEach [] X.env) (hpl : (backTo pos (starEach [] X.env)).any (·.1) = false := by rfl) :
    PMk X (.Call (.Name x p) [e] [] pos) (tMkR C fld te) := by
  intro pins s σ H Q I h
  obtain ⟨nm, q, N, bs, bm, sn, sub, ab, col, dd, k0, k1, k2, k3, k5, hC, hbm⟩ := T.cls
  obtain ⟨fI, iC, tI, run⟩ := T.run
  refine wpAny_Call_Name_kw (ld_glob I hg hm ?_ hdb)
  have ha : PA X [e] (tCons te tNil) := pa_cons he pa_nil hs
  refine PySem.W.callWith_K (h₀ := X.base) I.ok.mod.kin T.kC (thn (ha.run pos pins s σ H (fun vs H1 => ∃ y, vs = [y] ∧ ∀ dx, H1 dx = none → Q (.ref C) (some dx) (upd H1 dx (.xd [(fld, y)]))) I h) fun us s1 ⟨vs, H1, I1, r1, y, ev, q1⟩ => ⟨I1.kIn, ?_⟩) hs hpl
  subst ev
  cases r1 with
  | @cons _ u _ us' ry rn =>
    cases rn
    show wpAny _ _ (call (.ref C) [u]) _ _ _
    obtain ⟨hp, g, dr, tk, os⟩ := s1
    refine wpAny_call (PySem.HandSPX.call_own FB (fun Y => excTail_contains Y bm hbm) (I1.kIn _ _ hC) (PySem.W.looks_findIn I1.kIn iC) (fun self => PySem.W.bind_fn I1.kIn self tI) (by show 1 ≤ sizeLine; rw [sizeLine_eq]; decide) ?_)
    have kk : ∀ b o, hp.get? b = some o → ((hp.push (PySem.W.kdv_tup [u])).push (PySem.HandSPX.excO C hp.objs.size)).get? b = some o := fun b o e => Heap.get?_push_of_some _ (Heap.get?_push_of_some _ e)
    have hget : ((hp.push (PySem.W.kdv_tup [u])).push (PySem.HandSPX.excO C hp.objs.size)).get? (hp.objs.size + 1) = some (PySem.HandSPX.excO C hp.objs.size) := by heap_get
    have nK : ∀ b o, X.K.lookup b = some o → b < hp.objs.size := fun b o e => Heap.lt_size (I1.kIn b o e)
    refine run _ _ _ g dr tk os (hp.objs.size + 1) hp.objs.size u (I1.kIn.keeps kk) (I1.nolimit.keeps kk) ((I1.mod.glob.keeps I1.bk).keeps kk) ?_ (hr.make C [u] []).depth hget ?_ ?_ ?_
    · obtain ⟨mb, h1, h2⟩ := I1.mod.blt
      exact ⟨mb, (h1.keeps I1.bk).keeps kk, h2⟩
    · exact Nat.ne_of_gt (Nat.lt_succ_of_lt (nK C _ hC))
    · cases e : X.K.lookup (hp.objs.size + 1) with
      | none => rfl
      | some o => exact absurd (nK _ _ e) (Nat.not_lt.mpr (Nat.le_succ _))
    · intro h' tk' dx t1 k5' hsz dne e5 n5
      obtain ⟨G, gk1, gk2⟩ := restrict h' fun b => decide (b ≠ hp.objs.size + 1)
      have gk : ∀ b, b ≠ hp.objs.size + 1 → G.get? b = h'.get? b := fun b hb => gk1 b (decide_eq_true hb)
      have ge : G.get? (hp.objs.size + 1) = none := gk2 _ (by simp)
      have keep : ∀ b o, hp.get? b = some o → G.get? b = some o := fun b o e => by
        have l := Heap.lt_size e
        have n : b ≠ hp.objs.size + 1 := Nat.ne_of_lt (Nat.lt_succ_of_lt l)
        rw [gk b n]
        exact k5' b o n (kk b o e)
      have hdx : hp.objs.size ≤ dx := by
        have z : hp.objs.size ≤ ((hp.push (PySem.W.kdv_tup [u])).push (PySem.HandSPX.excO C hp.objs.size)).objs.size := by
          rw [Heap.size_push, Heap.size_push]
          omega
        exact Nat.le_trans z hsz
      have J := I1.laid (t' := tk') (a := dx) (o := .xd [(fld, y)]) (h' := G) keep hdx ⟨_, n5.at fun o q => (gk dx dne).trans q, relO_put (fs := []) ry fun g => True.intro⟩
      have kG : ∀ b o, G.get? b = some o → h'.get? b = some o := fun b o z => by
        by_cases hba : b = hp.objs.size + 1
        · rw [hba, ge] at z
          cases z
        · exact (gk b hba).symm.trans z
      exact ⟨rfl, hp.objs.size + 1, _, _, ⟨G, g, dr, tk', os⟩, _, .ref C, some dx, rfl, J, kG, ge, e5, ⟨rfl, rfl⟩, rfl, rfl, by rw [upd_ne (Ne.symm dne)]; exact I1.hok.fresh (Nat.le_succ _), rfl, I1.bare, raises_own T.exC T.tyC, q1 dx (I1.hok.fresh hdx)⟩
end Zed
end
section
set_option Elab.async false
set_option linter.all false
set_option maxRecDepth 100000
set_option maxHeartbeats 1000000
/-! ZedK3: a look at a class of errors that keep a value. -/
namespace Zed
open PySem PySem.W PySem.Calls PyProof.Rows PyProof.V PySem.Spec L2
/-- a built-in base: how it is made -/
def baseOf (B : String) : Option (String × String × List Value) :=
  if B = "ValueError" then some ("ValueError.__new__", "ValueError.__init__", [.type "ValueError", .type "Exception", .type "BaseException", .type "object"])
  else if B = "RuntimeError" then some ("RuntimeError.__new__", "RuntimeError.__init__", [.type "RuntimeError", .type "Exception", .type "BaseException", .type "object"])
  else if B = "OverflowError" then some ("OverflowError.__new__", "OverflowError.__init__", [.type "OverflowError", .type "ArithmeticError", .type "Exception", .type "BaseException", .type "object"])
  else if B = "IndexError" then some ("IndexError.__new__", "IndexError.__init__", [.type "IndexError", .type "LookupError", .type "Exception", .type "BaseException", .type "object"])
  else if B = "ArithmeticError" then some ("ArithmeticError.__new__", "ArithmeticError.__init__", [.type "ArithmeticError", .type "Exception", .type "BaseException", .type "object"])
  else none
structure BaseOk (B n i : String) (bm : List Value) : Prop where
  fb : ExcBaseFacts B n i bm
  kf : KxsFacts B i
  s0 : StoreFacts B bm "object.__setattr__" "object"
theorem baseOf_ok {B n i : String} {bm : List Value} (h : baseOf B = some (n, i, bm)) : BaseOk B n i bm := by
  unfold baseOf at h
  split at h
  · rename_i e; subst e; cases h; exact ⟨PySem.F.excBase_ValueError, kxs_ValueError, PySem.F.store_ValueError⟩
  · split at h
    · rename_i e; subst e; cases h; exact ⟨PySem.F.excBase_RuntimeError, kxs_RuntimeError, PySem.F.store_RuntimeError⟩
    · split at h
      · rename_i e; subst e; cases h; exact ⟨PySem.F.excBase_OverflowError, kxs_OverflowError, PySem.F.store_OverflowError⟩
      · split at h
        · rename_i e; subst e; cases h; exact ⟨PySem.F.excBase_IndexError, kxs_IndexError, PySem.F.store_IndexError⟩
        · split at h
          · rename_i e; subst e; cases h; exact ⟨PySem.F.excBase_ArithmeticError, kxs_ArithmeticError, PySem.F.store_ArithmeticError⟩
          · cases h
/-- __init__: super().__init__(a text); self.f = what it got -/
def initB (K : Frag) (C : Addr) (fld file : Str) (fd : FuncData) : Bool :=
  match fd with
  | ⟨nm, qual, ⟨[], [⟨sf0, _, _⟩, ⟨pn0, _, _⟩], none, [], _, none, []⟩, .stmts [.Expr (.Call (.Attribute (.Call (.Name s _) [] [] _) i p2) [.Constant (.str _) _ _] [] p3) _, .Assign [.Attribute (.Name sf _) f _] (.Name pn _) _],
      scope, gl, [(cn, cc)], .none, _, _, _, _, .ref cda, _, bl⟩ =>
    (nm == ("__init__" : Str)) && (s == ("super" : Str)) && (i == ("__init__" : Str)) && (sf == sf0) && (pn == pn0) && (f == fld) && (gl == mainGlobals) && (cn == ("__class__" : Str)) && (bl == builtinsNs) && !(pn == sf) &&
    codeIn K (.ref cda) qual && (scope.names.all fun x => !decide (x.2 = .cell)) && !scope.isCoroutine && !scope.isGenerator && decide (scope.kind = .function) &&
    decide (scope.names.lookup ("super" : Str) = some .globalImplicit) && decide (scope.names.lookup ("__class__" : Str) = some .free) && decide (scope.names.lookup sf = some .local) && decide (scope.names.lookup pn = some .local) &&
    !(sf == ("__debug__" : Str)) && !(pn == ("__debug__" : Str)) && (p2.endLine == p3.line) &&
    (match K.lookup cda with
      | some ⟨_, _, .fields vs, _⟩ => (match (vs[2]? : Option Value) with
        | some (.str g _) => g == file
        | _ => false)
      | _ => false) &&
    (match K.lookup cc with
      | some ⟨_, _, .cell (some (.ref C')), _⟩ => C' == C
      | _ => false)
  | _ => false
/-- the class itself -/
def ecB (K : Frag) (C : Addr) (newId i : String) (bmB : List Value) : Bool := match K.lookup C with
  | some ⟨.type t, _, .cls cd, sl⟩ => (match cd.mro, sl.toList with
    | .ref C' :: bm, [_, _, _, _, some (.builtin n), _] => (t == "type") && C' == C && n == newId && !cd.hasDel && cd.hasDict && excTail bmB bm && decide (alongIn K "__init__" bm = some (some (.builtin i)))
    | _, _ => false)
  | _ => false
def errFB (K : Frag) (C : Addr) (fld : Str) (B newId i : String) (bmB : List Value) (file : Str) : Bool :=
  ecB K C newId i bmB && decide (subIn K (.ref C) (.type "BaseException") = some true) && decide (typeIn K (.ref C) = some (.type "type")) && keepIn K (.ref C) &&
  decide (mroIn K C (.ref C) = some true) && decide (subIn K (.ref C) (.type B) = some true) && decide (nsIn K cStatics "thirdparty.any" = some none) &&
  decide (findIn K (.ref C) "__setattr__" = some (some (.builtin "object.__setattr__"))) && xfB K C && decide (findIn K (.ref C) fld = some none) &&
  (match findIn K (.ref C) "__init__" with
    | some (some (.ref fI)) => decide (typeIn K (.ref fI) = some (.type "function")) && (match K.lookup fI with
      | some ⟨_, _, .func fd, _⟩ => initB K C fld file fd
      | _ => false)
    | _ => false)
theorem bind_two {fd : FuncData} {sf pn : Str} {a1 a3 : Option Expr} {a2 a4 : Pos} {kwd : List (Option Expr)} {u v : Value} (hp : fd.params = ⟨[], [⟨sf, a1, a2⟩, ⟨pn, a3, a4⟩], none, [], kwd, none, []⟩) (hd : fd.defaults = .none) (hne : (pn == sf) = false) :
    bindArgs fd ⟨[u, v], []⟩ = pure [(sf, u), (pn, v)] := by
  unfold bindArgs
  rw [hp, hd]
  simp [seqItems?, List.lookup, hne]
  rfl
theorem errC_of {prog : Program} {w : World} {K : Frag} {mg : Str → Option Value} {C : Addr} {fld : Str} {B newId i : String} {bmB : List Value} {file : Str} (BO : BaseOk B newId i bmB) (h : errFB K C fld B newId i bmB file = true)
    (hsup : mg "super" = none) (hfile : ((prog.main.file : Str) == file) = true) (htop : (prog.main.scope.names.lookup ("super" : Str)).isSome = false) : ErrC prog w K mg C fld newId bmB ∧ XfC K C ∧ findIn K (.ref C) fld = some none := by
  simp only [errFB, Bool.and_eq_true, decide_eq_true_eq] at h
  obtain ⟨⟨⟨⟨⟨⟨⟨⟨⟨⟨h1, h2⟩, h3⟩, h4⟩, h5⟩, h6⟩, h7⟩, h8⟩, h9⟩, h10⟩, h11⟩ := h
  refine ⟨?_, xfB_ok h9, h10⟩
  unfold ecB at h1
  split at h1
  · rename_i t dd cd sl ho
    split at h1
    · rename_i C' bm k0 k1 k2 k3 n k5 hm hs
      simp only [Bool.and_eq_true, beq_iff_eq, Bool.not_eq_true', decide_eq_true_eq] at h1
      obtain ⟨⟨⟨⟨⟨⟨rfl, rfl⟩, rfl⟩, hdel⟩, hdict⟩, ht⟩, hal⟩ := h1
      obtain ⟨nm, bs, mro, ns, qn, hd, sn, sub, ab, col, del⟩ := cd
      dsimp only at hm hdel hdict
      subst hm hdel hdict
      have hsl : sl = #[k0, k1, k2, k3, some (.builtin n), k5] := by
        obtain ⟨l⟩ := sl
        simp only at hs
        rw [hs]
      subst hsl
      have hC : K.lookup C' = some (excClassObj nm qn C' ns bs bm true sn sub ab col dd k0 k1 k2 k3 k5 n) := ho
      refine ⟨⟨nm, qn, ns, bs, bm, sn, sub, ab, col, dd, k0, k1, k2, k3, k5, hC, ht⟩, h2, h3, h4, ?_⟩
      split at h11
      · rename_i fI hf
        simp only [Bool.and_eq_true, decide_eq_true_eq] at h11
        obtain ⟨tf, h12⟩ := h11
        refine ⟨fI, hf, tf, ?_⟩
        split at h12
        · rename_i oc od fd osl hfd
          unfold initB at h12
          split at h12
          · rename_i nm qual sf0 a1 a2 pn0 a3 a4 kwd s p0 p1 i' p2 txt kc pc p3 p4 sf p5 f p6 pn p7 p8 scope gl cn cc kV doc pm an cda ct bl
            simp only [Bool.and_eq_true, beq_iff_eq, Bool.not_eq_true', decide_eq_true_eq] at h12
            obtain ⟨⟨⟨⟨⟨⟨⟨⟨⟨⟨⟨⟨⟨⟨⟨⟨⟨⟨⟨⟨⟨⟨⟨rfl, rfl⟩, rfl⟩, rfl⟩, rfl⟩, rfl⟩, rfl⟩, rfl⟩, rfl⟩, hne⟩, hcd⟩, hcell⟩, hco⟩, hgen⟩, hk⟩, hks⟩, hkc⟩, hka⟩, hkv⟩, sdb⟩, pdb⟩, hln⟩, hcode⟩, hcc⟩ := h12
            split at hcode
            · rename_i ccl cdd vs ccs hcv
              split at hcode
              · rename_i g' tk' hvs
                split at hcc
                · rename_i cl cld C2 csl hcc'
                  obtain rfl : C2 = C' := beq_iff_eq.mp hcc
                  intro A R h g d t os x t0 v X lim glob blt hroom hx xC xK hq
                  refine init_run (txt := txt) (sf := sf) (pn := pn) (params := ⟨[], [⟨sf, a1, a2⟩, ⟨pn, a3, a4⟩], none, [], kwd, none, []⟩) (scope := scope) (dV := .none) (kV := kV) (doc := doc) (pm := pm) (an := an) (cda := cda) (ct := ct) (cc := cc) (qual := qual) (binds := [(sf, .ref x), (pn, v)]) (ar := ⟨sf, a1, a2⟩) (B := B) (i := i) (bmB := bmB) (file := g') (K := K) (mg := mg)
                    BO.fb BO.kf BO.s0 X lim glob blt hsup hroom hfd hcd (.of_eq (bind_two rfl rfl hne)) ?_ ?_ ?_ ?_ hco hgen hk rfl rfl hks hkc hka hkv sdb pdb hcv hvs ?_ htop hcc' hC ht h5 h6 hal h7 h8 h10 hx xC (beq_iff_eq.mpr hln) xK hq
                  · have e : (sf == pn) = false := by
                      cases z : sf == pn with
                      | false => rfl
                      | true => rw [beq_iff_eq.mp z] at hne; simp at hne
                    simp [List.lookup, e]
                  · simp [List.lookup]
                  · intro y hy
                    rcases List.mem_cons.mp hy with rfl | hy
                    · exact hka
                    · rcases List.mem_cons.mp hy with rfl | hy
                      · exact hkv
                      · cases hy
                  · intro y hy
                    have := List.all_eq_true.mp hcell y hy
                    simpa using this
                  · rw [beq_iff_eq.mp hcode]; exact hfile
                · cases hcc
              · cases hcode
            · cases hcode
          · cases h12
        · cases h12
      · cases h11
    · cases h1
  · cases h1
end Zed
end
section
set_option Elab.async false
set_option linter.all false
set_option maxRecDepth 100000
namespace Zed
open PySem L2

/-! ### what a law's text has: names by number, defs, constants -/
structure Sg where
  nm : Nat → Str
  fn : Nat → Option (List Str × Fd)
  /-- a def of the module -/
  glo : Nat → Bool
  /-- a class's __init__ -/
  init : Nat → Option Nat
  cst : List (Str × PV)
  blts : List Str
  /-- the def wants to know that no repr is under way -/
  rp : Nat → Bool
  /-- own errors, made with a text -/
  exc : Nat → Bool
  /-- defs that call a lambda -/
  met : Nat → Bool
  /-- the def makes lambdas -/
  lam : Nat → Bool
  /-- known classes -/
  cls : Nat → Bool
  /-- here: no repr is under way; lambdas may be made -/
  gdH : Bool
  lamH : Bool
/-- in a lambda's body -/
def Sg.low (S : Sg) : Sg := { S with gdH := false, lamH := false }
abbrev Nms := List (Str × NameKind)
def isK (ns : Nms) (x : Str) (k : NameKind) : Bool := ns.lookup x == some k
def isVis (ns : Nms) (x : Str) : Bool := isK ns x .local || isK ns x .cell || isK ns x .free
def okNm (x : Str) : Bool := !(x == ("__debug__" : Str)) && !(x == ("__classdict__" : Str)) && !(x == ("__name__" : Str))
def tmName : TxM → Str
  | .join => "join" | .startswith => "startswith" | .removeprefix => "removeprefix"
def biName : Bi → Str
  | .len => "len" | .isinstance => "isinstance" | .all => "all" | .abs => "abs" | .int => "int" | .max => "max" | .min => "min" | .tuple => "tuple" | .list => "list" | .listm => "list" | .sorted => "sorted" | .set => "set" | .repr => "repr" | .reprc => "repr" | .str => "str"
def conIs : PV → Const → Bool
  | .non, .none => true
  | .bl a, .bool b => a == b
  | .int a, .int b => a == b
  | .str a, .str b => a == b
  | _, _ => false
def bopIs : Bop → Operator → Bool
  | .add, .Add | .sub, .Sub | .mul, .Mult | .fdiv, .FloorDiv | .mod, .Mod | .pow, .Pow => true
  | _, _ => false
def copIs : Cop → CmpOp → Bool
  | .lt, .Lt | .le, .LtE | .gt, .Gt | .ge, .GtE | .eq, .Eq | .ne, .NotEq | .isin, .In | .notin, .NotIn | .is, .Is | .isnot, .IsNot => true
  | _, _ => false
def noStar : Expr → Bool
  | .Starred .. => false
  | _ => true
def noSlice : Expr → Bool
  | .Slice .. => false
  | _ => true
def noSuper : Expr → Bool
  | .Call (.Name ..) [] [] _ => false
  | _ => true
def noComp : Expr → Bool
  | .ListComp .. => false
  | .SetComp .. => false
  | .DictComp .. => false
  | _ => true
def noSet : Expr → Bool
  | .Set .. => false
  | _ => true
def tyB : List String := ["int", "bool", "str", "tuple", "list", "dict"]
def miIs : Mi → Str → Bool
  | .append, x => x == ("append" : Str)
  | .pop, x => x == ("pop" : Str)
  | .extend, x => x == ("extend" : Str)
mutual
def chkG (N : List Str) (ns : Nms) : Tg → Expr → Bool
  | .nm i, .Name x _ => (N[i]? == some x) && (isK ns x .local || isK ns x .cell)
  | .tp ts, .Tuple es _ _ => chkGs N ns ts es
  | _, _ => false
def chkGs (N : List Str) (ns : Nms) : Tgs → List Expr → Bool
  | .nil, [] => true
  | .cons t ts, e :: es => noStar e && chkG N ns t e && chkGs N ns ts es
  | _, _ => false
end
mutual
def slotsT : Tg → List Nat
  | .nm i => [i]
  | .tp ts => slotsTs ts
def slotsTs : Tgs → List Nat
  | .nil => []
  | .cons t ts => slotsT t ++ slotsTs ts
end
/-- the block of a comprehension: its own names are at the slots own -/
def ownOf (N : List Str) (own : List Nat) : List (Str × Nat) := own.filterMap fun i => N[i]?.map fun x => (x, i)
def plainX : Exs → Bool
  | .nil => true
  | .cons _ es => plainX es
  | .star _ _ => false
mutual
def chkE (S : Sg) (N : List Str) (sc : Scope) : Ex → Expr → Bool
  | .loc i, e => match e with
    | .Name x _ => (N[i]? == some x) && isVis sc.names x && okNm x
    | _ => false
  | .con d, e => match e with
    | .Constant c _ _ => conIs d c
    | .Name x _ => isK sc.names x .globalImplicit && okNm x && (match S.cst.lookup x with
      | some e => PV.same d e
      | none => match d with
        | .ty n => tyB.contains n && (x == Str.ofString n) && S.blts.contains x
        | .gl k => (x == S.nm k) && S.cls k
        | _ => false)
    | _ => false
  | .bin op a b, e => match e with
    | .BinOp a' op' b' _ => bopIs op op' && chkE S N sc a a' && chkE S N sc b b'
    | _ => false
  | .neg a, e => match e with
    | .UnaryOp .USub a' _ => chkE S N sc a a'
    | _ => false
  | .not a, e => match e with
    | .UnaryOp .Not a' _ => chkE S N sc a a'
    | _ => false
  | .cmp op a b, e => match e with
    | .Compare a' [op'] [b'] _ => copIs op op' && !behindInMarks op' b' && chkE S N sc a a' && chkE S N sc b b'
    | _ => false
  | .chn op p a b c, e => match e with
    | .Compare a' [op', p'] [b', c'] _ => copIs op op' && copIs p p' && !lastMarks [op', p'] [b', c'] && chkE S N sc a a' && chkE S N sc b b' && chkE S N sc c c'
    | _ => false
  | .and a b, e => match e with
    | .BoolOp .And [a', b'] _ => chkE S N sc a a' && chkE S N sc b b'
    | .BoolOp .And (a' :: b' :: c' :: r) pos => chkE S N sc a a' && chkE S N sc b (.BoolOp .And (b' :: c' :: r) pos)
    | _ => false
  | .or a b, e => match e with
    | .BoolOp .Or [a', b'] _ => chkE S N sc a a' && chkE S N sc b b'
    | .BoolOp .Or (a' :: b' :: c' :: r) pos => chkE S N sc a a' && chkE S N sc b (.BoolOp .Or (b' :: c' :: r) pos)
    | _ => false
  | .ite c a b, e => match e with
    | .IfExp c' a' b' _ => chkE S N sc c c' && chkE S N sc a a' && chkE S N sc b b'
    | _ => false
  | .tup es, e => match e with
    | .Tuple es' _ _ => chkA S N sc es es'
    | _ => false
  | .lst _ es, e => match e with
    | .List es' _ => chkA S N sc es es'
    | _ => false
  | .call f es, e => match e with
    | .Call (.Name x _) (a' :: es') [] _ => isK sc.names x .globalImplicit && okNm x && (x == S.nm f) && S.glo f && (!S.rp f || S.gdH) && (S.fn f).isSome && plainX es && chkA S N sc es (a' :: es')
    | _ => false
  | .make c f es, e => match e with
    | .Call (.Name x _) (a' :: es') [] _ => isK sc.names x .globalImplicit && okNm x && (x == S.nm c) && (S.init c == some f) && !S.rp f && (S.fn f).isSome && plainX es && chkA S N sc es (a' :: es')
    | _ => false
  | .blt b es, e => match e with
    | .Call (.Name x _) (a' :: es') [] _ => isK sc.names x .globalImplicit && (x == biName b) && (decide (b ≠ .reprc) || S.gdH) && S.blts.contains x && plainX es && chkA S N sc es (a' :: es')
    | _ => false
  | .meth m o es, e => match e with
    | .Call (.Attribute o' x ap) (a' :: es') [] cp => miIs m x && noSuper o' && (ap.endLine == cp.line) && decide ((a' :: es').length < 30) && chkE S N sc o o' && plainX es && chkA S N sc es (a' :: es')
    | _ => false
  | .sub o i, e => match e with
    | .Subscript o' i' _ => noSlice i' && chkE S N sc o o' && chkE S N sc i i'
    | _ => false
  | .slc o lo hi, e => match e with
    | .Subscript o' (.Slice lo' hi' none _) _ => chkE S N sc o o' && chkOp S N sc lo lo' && chkOp S N sc hi hi'
    | _ => false
  | .attr o f, e => match e with
    | .Attribute o' x _ => (x == S.nm f) && noSuper o' && chkE S N sc o o'
    | _ => false
  | .lc _ elt tg it ifs own, e => match e with
    | .ListComp elt' [⟨tg', it', ifs', 0⟩] sc' _ =>
      chkI S N sc it tg' it' && blkC N sc sc' (ownOf N own) && ((ownOf N own).map (·.2) == own) && chkG N sc'.names tg tg' && (slotsT tg).all own.contains && noSet it' &&
      (match ifs' with
        | [] => match ifs with | .no => true | _ => false
        | [c'] => (match ifs with | .no => false | _ => true) && chkOp S N sc' ifs (some c')
        | _ => false) && chkE S N sc' elt elt'
    | _ => false
  | .dic0 _, e => match e with
    | .Dict [] [] _ => true
    | _ => false
  | .met m b, e => match e with
    | .Call (.Name x _) [.Lambda ⟨[], [], none, [], [], none, []⟩ b' sc' _] [] _ => isK sc.names x .globalImplicit && okNm x && (x == S.nm m) && S.met m && (!S.rp m || S.gdH) && S.lamH && LamX.lamSB sc sc' && chkE S.low N sc' b b'
    | _ => false
  | .pop o, e => match e with
    | .Call (.Attribute o' x ap) [] [] cp => (x == ("pop" : Str)) && noSuper o' && (ap.endLine == cp.line) && chkE S N sc o o'
    | _ => false
  | .rev _ o, e => match e with
    | .Subscript o' (.Slice none none (some (.UnaryOp .USub (.Constant (.int 1) _ _) _)) _) _ => chkE S N sc o o'
    | _ => false
  | .mcl m o es, e => match e with
    | .Call (.Attribute o' x ap) (a' :: es') [] cp => (x == S.nm m) && noSuper o' && (ap.endLine == cp.line) && decide ((a' :: es').length < 30) && chkE S N sc o o' && plainX es && chkA S N sc es (a' :: es')
    | _ => false
  | .mc0 m o, e => match e with
    | .Call (.Attribute o' x ap) [] [] cp => (x == S.nm m) && noSuper o' && (ap.endLine == cp.line) && chkE S N sc o o'
    | _ => false
  | .oeq ne a b, e => match e with
    | .Compare a' [op'] [b'] _ => copIs (if ne then .ne else .eq) op' && !behindInMarks op' b' && chkE S N sc a a' && chkE S N sc b b'
    | _ => false
  | .cmt c m es, e => match e with
    | .Call (.Attribute (.Name y q) x ap) (a' :: es') [] cp => isK sc.names y .globalImplicit && okNm y && (y == S.nm c) && (x == S.nm m) && (ap.endLine == cp.line) && decide ((a' :: es').length < 30) && plainX es && chkA S N sc es (a' :: es')
    | _ => false
  | .mkl i c f es, e => match e with
    | .Call (.Name x _) (a' :: es') [] _ => (N[i]? == some x) && isVis sc.names x && okNm x && (S.init c == some f) && !S.rp f && (S.fn f).isSome && plainX es && chkA S N sc es (a' :: es')
    | _ => false
  | .isi es, e => match e with
    | .Call (.Name x _) (a' :: es') [] _ => isK sc.names x .globalImplicit && (x == ("isinstance" : Str)) && S.blts.contains x && plainX es && chkA S N sc es (a' :: es')
    | _ => false
  | .prp f o, e => match e with
    | .Attribute o' x _ => (x == S.nm f) && noSuper o' && chkE S N sc o o'
    | _ => false
  | .dln m o, e => match e with
    | .Call (.Name x _) [a'] [] _ => isK sc.names x .globalImplicit && (x == ("len" : Str)) && (S.nm m == ("__len__" : Str)) && S.blts.contains x && noStar a' && chkE S N sc o a'
    | _ => false
  | .dst m o, e => match e with
    | .Call (.Name x _) [a'] [] _ => isK sc.names x .globalImplicit && (x == ("str" : Str)) && (S.nm m == ("__str__" : Str)) && S.blts.contains x && noStar a' && chkE S N sc o a'
    | _ => false
  | .dgt m o i, e => match e with
    | .Subscript o' i' _ => noSlice i' && (S.nm m == ("__getitem__" : Str)) && chkE S N sc o o' && chkE S N sc i i'
    | _ => false
  | .din m i o, e => match e with
    | .Compare a' [op'] [b'] _ => copIs .isin op' && !behindInMarks op' b' && (S.nm m == ("__contains__" : Str)) && chkE S N sc i a' && chkE S N sc o b'
    | _ => false
  | .sc elt tg it own, e => match e with
    | .SetComp elt' [⟨tg', it', [], 0⟩] sc' _ =>
      chkI S N sc it tg' it' && blkC N sc sc' (ownOf N own) && ((ownOf N own).map (·.2) == own) && chkG N sc'.names tg tg' && (slotsT tg).all own.contains && noSet it' && chkE S N sc' elt elt'
    | _ => false
  | .tm k o b, e => match e with
    | .Call (.Attribute o' x ap) [a'] [] cp => (x == tmName k) && noSuper o' && (ap.endLine == cp.line) && noStar a' && chkE S N sc o o' && chkE S N sc b a'
    | _ => false
  | .fst es, e => match e with
    | .JoinedStr (p1 :: p2 :: ps) _ => chkF S N sc es (p1 :: p2 :: ps)
    | _ => false
def chkA (S : Sg) (N : List Str) (sc : Scope) : Exs → List Expr → Bool
  | .nil, es => match es with
    | [] => true
    | _ => false
  | .cons e es, l => match l with
    | e' :: es' => noStar e' && chkE S N sc e e' && chkA S N sc es es'
    | _ => false
  | .star e es, l => match l with
    | .Starred e' _ :: es' => chkE S N sc e e' && chkA S N sc es es'
    | _ => false
/-- the parts of an f-string -/
def chkF (S : Sg) (N : List Str) (sc : Scope) : Exs → List Expr → Bool
  | .nil, es => match es with
    | [] => true
    | _ => false
  | .cons e es, l => match l with
    | .FormattedValue e' c none _ :: es' => decide (c = -1) && chkE S N sc e e' && chkF S N sc es es'
    | .Constant (.str y) k q :: es' => (match e with | .con (.str _) => true | _ => false) && chkE S N sc e (.Constant (.str y) k q) && chkF S N sc es es'
    | _ => false
  | .star _ _, _ => false
def chkOp (S : Sg) (N : List Str) (sc : Scope) : Op → Option Expr → Bool
  | .no, o => o.isNone
  | .yes e, o => match o with
    | some e' => chkE S N sc e e'
    | none => false
def chkI (S : Sg) (N : List Str) (sc : Scope) : Itr → Expr → Expr → Bool
  | .val e, _, e' => chkE S N sc e e'
  | .rng1 e, _, c => match c with
    | .Call (.Name x _) [a'] [] _ => isK sc.names x .globalImplicit && (x == ("range" : Str)) && S.blts.contains x && noStar a' && chkE S N sc e a'
    | _ => false
  | .rng2 a b, _, c => match c with
    | .Call (.Name x _) [a', b'] [] _ => isK sc.names x .globalImplicit && (x == ("range" : Str)) && S.blts.contains x && noStar a' && noStar b' && chkE S N sc a a' && chkE S N sc b b'
    | _ => false
  | .enm e, t, c => match t with
    | .Tuple _ _ _ => match c with
      | .Call (.Name x _) [a'] [] _ => isK sc.names x .globalImplicit && (x == ("enumerate" : Str)) && S.blts.contains x && noStar a' && chkE S N sc e a'
      | _ => false
    | _ => false
  | .zp a b, t, c => match t with
    | .Tuple _ _ _ => match c with
      | .Call (.Name x _) [a', b'] [] _ => isK sc.names x .globalImplicit && (x == ("zip" : Str)) && S.blts.contains x && noStar a' && noStar b' && chkE S N sc a a' && chkE S N sc b b'
      | _ => false
    | _ => false
end

/-! ### where the text stands -/
theorem lookup_mem0 {l : Nms} {x : Str} {d : NameKind} (h : l.lookup x = some d) : (x, d) ∈ l := by
  induction l with
  | nil => cases h
  | cons p r ih =>
    obtain ⟨y, e⟩ := p
    rw [List.lookup_cons] at h
    cases z : x == y with
    | true => rw [z] at h; cases h; rw [beq_iff_eq.mp z]; exact List.mem_cons_self
    | false => rw [z] at h; exact List.mem_cons_of_mem _ (ih h)
/-- an expression in a clause: o is the name under which the error stands; g: no repr is under way -/
def chkHx (nm : Nat → Str) (bl : List Str) (g : Bool) (ns : Nms) (o : Option Str) : Hx → Expr → Bool
  | .con d, e => match e with
    | .Constant c _ _ => conIs d c
    | _ => false
  | .fld f, e => match e with
    | .Attribute (.Name x _) a _ => (o == some x) && (a == nm f)
    | _ => false
  | .add p q, e => match e with
    | .BinOp l .Add r _ => chkHx nm bl g ns o p l && chkHx nm bl g ns o q r
    | _ => false
  | .rep p, e => match e with
    | .Call (.Name x _) [l] [] _ => (x == ("repr" : Str)) && isK ns x .globalImplicit && bl.contains x && g && noStar l && chkHx nm bl g ns o p l
    | _ => false
  | .num p, e => match e with
    | .Call (.Name x _) [l] [] _ => (x == ("str" : Str)) && isK ns x .globalImplicit && bl.contains x && noStar l && chkHx nm bl g ns o p l
    | _ => false
  | .tup p q, e => match e with
    | .Tuple [l, r] _ _ => noStar l && noStar r && chkHx nm bl g ns o p l && chkHx nm bl g ns o q r
    | _ => false
def chkH (nm : Nat → Str) (bl : List Str) (g : Bool) (N : List Str) (ns : Nms) : List (Nat × Hx) → List ExceptHandler → Bool
  | [], _ => true
  | (d, t) :: r, .ExceptHandler (some (.Name x _)) o [.Return (some e) _] _ :: hds => (x == nm d) && isK ns x .globalImplicit && okNm x && (match o with
      | none => true
      | some n => (N[1]? == some n) && isK ns n .local && okNm n) && chkHx nm bl g ns o t e && chkH nm bl g N ns r hds
  | _, _ => false
/-- a def that calls what it got, and tells how that ended -/
def metB (nm : Nat → Str) (bl : List Str) (g : Bool) (N : List Str) (ns : Nms) (a : Str) (hs : List (Nat × Hx)) (bk : Bk) (sts : List Stmt) : Bool := match bk with
  | .drop d => (match sts with
    | [.Try [.Expr (.Call (.Name x _) [] [] _) _] (hd :: hds) [] [] _, .Return (some (.Constant c _ _)) _] => (x == a) && okNm a && conIs d c && chkH nm bl g N ns hs (hd :: hds)
    | _ => false)
  | .ret => (match sts with
    | [.Try [.Return (some (.Call (.Name x _) [] [] _)) _] (hd :: hds) [] [] _] => (x == a) && okNm a && chkH nm bl g N ns hs (hd :: hds)
    | _ => false)
  | .pair t => (match sts with
    | [.Try [.Return (some (.Tuple [.Constant (.str t') _ _, .Call (.Name x _) [] [] _] _ _)) _] (hd :: hds) [] [] _] => (x == a) && okNm a && (t == t') && chkH nm bl g N ns hs (hd :: hds)
    | _ => false)
/-- a def's promise; g: no repr is under way -/
structure FnOkZ (g : Bool) (P : Program) (w : World) (K : PySem.W.Frag) (mg : Str → Option Value) (base : Heap) (CX : CXT) (k : Nat) (f : Addr) (fd : FuncData) (ps : List Str) (sp : Sp) : Prop where
  len : ∀ vs H Q E, sp vs H Q E → vs.length = ps.length
  run : ∀ (A : Around) (outer : List Env) (s : Shared) (H : Hp) (args : Args) (us : List Value) (vs : List V) (Q : VK) (E : XK), (g = true → A.guards = some []) → Room k A → Env0 P w K mg base A outer s H → BindsTo s fd args (ps.zip us) → Vals vs us → sp vs H Q E →
    codeAny (model P w) A (.call (.ref f) args) (CR CX outer P w H s Q E) s
theorem FnOkZ.fnOk {P : Program} {w : World} {K : PySem.W.Frag} {mg : Str → Option Value} {base : Heap} {CX : CXT} {k : Nat} {f : Addr} {fd : FuncData} {ps : List Str} {sp : Sp} {g : Bool} (F : FnOkZ g P w K mg base CX k f fd ps sp) (h : g = false) : FnOk P w K mg base CX k f fd ps sp :=
  ⟨F.len, fun A outer s H args us vs Q E => F.run A outer s H args us vs Q E (fun z => by rw [h] at z; cases z)⟩
def spF (G : Gc) (F : List PV → PHeap → R PV) : Sp := fun vs H Q E => ∃ φ h ds, RelH G φ h H ∧ RepVs G φ H ds vs ∧ Post G φ H (F ds h) Q E
structure Scp (ns : Nms) (X : Cx) : Prop where
  loc : ∀ x, isK ns x .local = true → X.env.scope.names.lookup x = some .local
  cel : ∀ x, isK ns x .cell = true → X.env.scope.names.lookup x = some .cell ∧ X.fn x = true
  vis : ∀ x, isVis ns x = true → Vis X.env.scope x
  gl : ∀ x, isK ns x .globalImplicit = true → Gl X x
  cf : ∀ x, ns.lookup x = some .cell ∨ ns.lookup x = some .free → X.env.scope.names.lookup x = some .cell ∨ X.env.scope.names.lookup x = some .free
structure Glob (S : Sg) (G : Gc) (C : Orc) (k : Nat) (X : Cx) : Prop where
  K : G.K = X.K
  mg : G.mg = X.mg
  nm : G.nm = S.nm
  P : G.P = X.prog
  w : G.w = X.w
  sl : G.isSl = C.ct.isSl
  slo : G.slot = C.ct.slot
  fdl : G.fld = C.ct.fld
  nd : X.N.Nodup
  calm : X.calm = true
  room : Room (k + 1) X.A
  gd : S.gdH = true → X.A.guards = some []
  kind : X.env.scope.kind = .function
  fns : ∀ f ps fd, S.fn f = some (ps, fd) → S.glo f = true → ∃ a fdt, X.mg (S.nm f) = some (.ref a) ∧ PySem.W.keepIn X.K (.ref a) = true ∧ Binds X.K fdt ps [] ∧ FnOkZ (S.rp f) X.prog X.w X.K X.mg X.base (L2.CX X.prog X.w) k a fdt ps (spF G (C.call f))
  mks : ∀ c f ps fd, S.fn f = some (ps, fd) → S.init c = some f → ∃ D a fdt, X.mg (S.nm c) = some (.ref D) ∧ Mk X.K D a ∧ Binds X.K fdt ps [] ∧ FnOkZ (S.rp f) X.prog X.w X.K X.mg X.base (L2.CX X.prog X.w) k a fdt ps (spF G (C.call f))
  scl : ∀ c D, C.ct.isSl c = true → X.mg (S.nm c) = some (.ref D) → SlX.SCls X.K D
  sls : ∀ c f i D, C.ct.slot c f = some i → X.mg (S.nm c) = some (.ref D) → ∃ p, SlX.Slot1 X.K D (S.nm f) p i
  pcl : ∀ c f D, C.ct.isSl c = false → C.ct.fld c f = true → X.mg (S.nm c) = some (.ref D) → Cls X.K D ∧ NoAttr X.K D (S.nm f)
  inj : ∀ c f g i, C.ct.slot c f = some i → C.ct.slot c g = some i → f = g
  inn : ∀ c f g, C.ct.fld c f = true → C.ct.fld c g = true → S.nm f = S.nm g → f = g
  cst : ∀ x d, S.cst.lookup x = some d → ∃ u v, X.mg x = some u ∧ RelV v u ∧ ∀ φ H, RepV G φ H d v
  blt : ∀ x, S.blts.contains x = true → X.mg x = none
  exc : ∀ c, S.exc c = true → ∃ D, X.mg (S.nm c) = some (.ref D) ∧ PySem.W.keepIn X.K (.ref D) = true ∧ PySem.W.excIn X.K D [.type "ValueError", .type "Exception", .type "BaseException", .type "object"] "ValueError.__new__" = true ∧
    PySem.W.subIn X.K (.ref D) (.type "BaseException") = some true ∧ PySem.W.typeIn X.K (.ref D) = some (.type "type")
  exm : ∀ c d b, C.ct.exm c d = some b → ∃ D E, X.mg (S.nm c) = some (.ref D) ∧ X.mg (S.nm d) = some (.ref E) ∧ PySem.W.exmOne X.K (.ref D) (.ref E) = some b
  met : ∀ m, S.met m = true → ∃ hs last g fdt st a Ng, C.ct.met m = some (hs, last) ∧ X.mg (S.nm m) = some (.ref g) ∧ FunD X.K (S.nm m) (S.nm m) (defArgs st) (defBody st) (defScope st) [] [] g fdt ∧ Binds X.K fdt [a] [] ∧ FnScope Ng [a] (defScope st) ∧
    metB S.nm S.blts (S.rp m) Ng (defScope st).names a hs last (defBody st) = true ∧ ∀ p ∈ hs, ∃ E, X.mg (S.nm p.1) = some (.ref E)
  raf : ∀ c f, C.ct.xfl c = some f → ∃ D B n i bm, X.mg (S.nm c) = some (.ref D) ∧ BaseOk B n i bm ∧ ErrC X.prog X.w X.K X.mg D (S.nm f) n bm ∧ XfC X.K D ∧ PySem.W.findIn X.K (.ref D) (S.nm f) = some none
  cls : ∀ c, S.cls c = true → ∃ D, X.mg (S.nm c) = some (.ref D)
  mts : ∀ c m f, C.ct.mth c m = some f → ∃ ps fd D a fdt, S.fn f = some (ps, fd) ∧ X.mg (S.nm c) = some (.ref D) ∧ Cls X.K D ∧ Meth X.K D (S.nm m) a ∧ (∀ g, C.ct.fld c g = true → S.nm g ≠ S.nm m) ∧ Binds X.K fdt ps [] ∧ FnOkZ false X.prog X.w X.K X.mg X.base (L2.CX X.prog X.w) k a fdt ps (spF G (C.call f))
  mfn : ∀ c m f D a, C.ct.mth c m = some f → X.mg (S.nm c) = some (.ref D) → Meth X.K D (S.nm m) a → PySem.W.fnIn X.K a = true
  prs : ∀ c f g, C.ct.prp c f = some g → ∃ ps fd D p a fdt, S.fn g = some (ps, fd) ∧ X.mg (S.nm c) = some (.ref D) ∧ Cls X.K D ∧ PropOf X.K D (S.nm f) p a ∧ Binds X.K fdt ps [] ∧ FnOkZ false X.prog X.w X.K X.mg X.base (L2.CX X.prog X.w) k a fdt ps (spF G (C.call g))
  sub : ∀ d c b, C.ct.sub d c = some b → ∃ D E, X.mg (S.nm d) = some (.ref D) ∧ X.mg (S.nm c) = some (.ref E) ∧ SlX.SIsi X.K D ∧ (C.ct.isSl d = false → Cls X.K D) ∧ PySem.W.kitOne X.K (.ref D) (.ref E) = some b
  eqs : ∀ c f, C.ct.eqm c = some f → ∃ ps fd D a fdt, S.fn f = some (ps, fd) ∧ X.mg (S.nm c) = some (.ref D) ∧ PySem.W.findIn X.K (.ref D) "__eq__" = some (some (.ref a)) ∧ PySem.W.isFn X.K (.ref a) = true ∧
    PySem.W.findIn X.K (.ref D) "__ne__" = some (some (.builtin "object.__ne__")) ∧ PySem.W.subIn X.K (.ref D) (.type "object") = some true ∧ (∀ t, t ∈ ["NoneType", "bool", "int", "str", "tuple", "list", "dict"] → PySem.W.notFirst X.K D (.type t) = true) ∧ Binds X.K fdt ps [] ∧ FnOkZ false X.prog X.w X.K X.mg X.base (L2.CX X.prog X.w) k a fdt ps (spF G (C.call f))
  cms : ∀ c m f, C.ct.cmt c m = some f → ∃ ps fd D mc p a fdt, S.fn f = some (ps, fd) ∧ X.mg (S.nm c) = some (.ref D) ∧ ClX.CRead X.K D mc ∧ ClX.CMet X.K D mc (S.nm m) p a ∧ Binds X.K fdt ps [] ∧ FnOkZ false X.prog X.w X.K X.mg X.base (L2.CX X.prog X.w) k a fdt ps (spF G (C.call f))
  isb : ∀ c t, (C.ct.sub c c).isSome = true → t ∈ ["NoneType", "bool", "int", "str", "tuple", "list", "dict"] → ∃ E, X.mg (S.nm c) = some (.ref E) ∧ PySem.W.kitOne X.K (.type t) (.ref E) = some false
  lam : S.lamH = true → Room (k + 3) X.A ∧ ∃ c P, X.env.code = .ref c ∧ LamX.TabB X.base X.mg c P ∧ (P, X.env.qual ++ "<lambda>") ∈ G.T ∧ ∀ p ∈ G.T, p.1 = P → p.2 = X.env.qual ++ "<lambda>"
section
variable {S : Sg} {G : Gc} {C : Orc} {k : Nat} {X : Cx}
/-- the context of a lambda's body -/
theorem Glob.lamC (g : Glob S G C k X) {A : Around} {outer : List Env} {s : Shared} {H : Hp} {E : XK} {sc : Scope} {f c' : Addr} (hk : sc.kind = .function) (hr : Room (k + 1) (A.deeper (LamX.lamEnv X sc s.heap.objs.size f c'))) : Glob S.low G C k (LamX.lamCx X A outer s H E sc f c') :=
  ⟨g.K, g.mg, g.nm, g.P, g.w, g.sl, g.slo, g.fdl, g.nd, rfl, hr, (fun z => nomatch z), hk, g.fns, g.mks, g.scl, g.sls, g.pcl, g.inj, g.inn, g.cst, g.blt, g.exc, g.exm, g.met, g.raf, g.cls, g.mts, g.mfn, g.prs, g.sub, g.eqs, g.cms, g.isb, fun z => nomatch z⟩
theorem Scp.lamC {A : Around} {outer : List Env} {s : Shared} {H : Hp} {E : XK} {sc : Scope} {f c' : Addr} (L : LamX.LamS X.env.scope sc) : Scp sc.names (LamX.lamCx X A outer s H E sc f c') where
  loc := fun x h => by
    have h : sc.names.lookup x = some .local := by simpa [isK] using h
    exact h
  cel := fun x h => by
    have h : sc.names.lookup x = some .cell := by simpa [isK] using h
    exact absurd rfl (L.own (x, .cell) (lookup_mem0 h)).2
  vis := fun x h => by
    simp only [isVis, isK, Bool.or_eq_true, beq_iff_eq] at h
    rcases h with (h | h) | h
    · exact .inl h
    · exact .inr (.inl h)
    · exact .inr (.inr h)
  gl := fun x h => by
    have z : sc.names.lookup x = some .globalImplicit := by simpa [isK] using h
    exact z
  cf := fun x h => h
theorem Glob.blk (g : Glob S G C k X) {s : Shared} {H : Hp} {sc : Scope} {cl : List (Str × Addr)} {A : Addr} {fp : List Addr} (hk : sc.kind = .function) : Glob S G C k (X.blk s H sc (compEnvC sc cl A X.env) fp) :=
  ⟨g.K, g.mg, g.nm, g.P, g.w, g.sl, g.slo, g.fdl, g.nd, g.calm, g.room, g.gd, hk, g.fns, g.mks, g.scl, g.sls, g.pcl, g.inj, g.inn, g.cst, g.blt, g.exc, g.exm, g.met, g.raf, g.cls, g.mts, g.mfn, g.prs, g.sub, g.eqs, g.cms, g.isb, g.lam⟩
theorem lookup_rel {env : Env} : ∀ {names : Nms} {x : Str} {kd : NameKind}, names.lookup x = some kd →
    (names.map fun (n, k) => if (k == NameKind.free && env.scope.kind == .function && env.kindOf n == some .cell) then (n, NameKind.cell) else (n, k)).lookup x = some kd ∨
    (kd = .free ∧ (names.map fun (n, k) => if (k == NameKind.free && env.scope.kind == .function && env.kindOf n == some .cell) then (n, NameKind.cell) else (n, k)).lookup x = some .cell)
  | [], _, _, h => by simp at h
  | (n, k) :: r, x, kd, h => by
    have ih := @lookup_rel env r x kd
    rw [List.map_cons, List.lookup_cons] at *
    by_cases e : x == n
    · rw [e] at h
      cases h
      by_cases c : (k == NameKind.free && env.scope.kind == .function && env.kindOf n == some .cell) = true
      · right
        simp only [c, if_true, e]
        simp only [Bool.and_eq_true, beq_iff_eq] at c
        exact ⟨c.1.1, trivial⟩
      · left
        simp only [c, Bool.false_eq_true, if_false, e]
    · have e' : (x == n) = false := by simpa using e
      rw [e'] at h
      have z : ∀ (q : Bool), (x == (if q = true then (n, NameKind.cell) else (n, k)).1) = false := fun q => by cases q <;> exact e'
      rw [z]
      exact ih h
theorem Scp.blk {s : Shared} {H : Hp} {sc : Scope} {cl : List (Str × Addr)} {A : Addr} {fp : List Addr} : Scp sc.names (X.blk s H sc (compEnvC sc cl A X.env) fp) where
  loc := fun x h => by
    have h : sc.names.lookup x = some .local := by simpa [isK] using h
    rcases lookup_rel (env := X.env) h with z | ⟨z, _⟩
    · exact z
    · cases z
  cel := fun x h => by
    have h : sc.names.lookup x = some .cell := by simpa [isK] using h
    refine ⟨?_, by show (sc.names.lookup x == some .cell) = true; rw [h]; rfl⟩
    rcases lookup_rel (env := X.env) h with z | ⟨z, _⟩
    · exact z
    · cases z
  gl := fun x h => by
    have h : sc.names.lookup x = some .globalImplicit := by simpa [isK] using h
    rcases lookup_rel (env := X.env) h with z | ⟨z, _⟩
    · exact z
    · cases z
  cf := fun x h => by
    rcases h with h | h
    · rcases lookup_rel (env := X.env) h with z | ⟨z, _⟩
      · exact .inl z
      · cases z
    · rcases lookup_rel (env := X.env) h with z | ⟨_, z⟩
      · exact .inr z
      · exact .inl z
  vis := fun x h => by
    simp only [isVis, isK, Bool.or_eq_true, beq_iff_eq] at h
    rcases h with (h | h) | h
    · rcases lookup_rel (env := X.env) h with z | ⟨z, _⟩
      · exact .inl z
      · cases z
    · rcases lookup_rel (env := X.env) h with z | ⟨z, _⟩
      · exact .inr (.inl z)
      · cases z
    · rcases lookup_rel (env := X.env) h with z | ⟨_, z⟩
      · exact .inr (.inr z)
      · exact .inr (.inl z)
end
end Zed
end
section
set_option Elab.async false
set_option linter.all false
set_option maxRecDepth 100000
namespace Zed
open PySem L2
section
variable {G : Gc} {W : WX} {X : Cx}
/-! ### syntax: small facts -/
theorem starEach_cons {e : Expr} {es : List Expr} {env : Env} (h : noStar e = true) : starEach (e :: es) env = (false, eval e env) :: starEach es env := by
  cases e <;> first | rfl | (cases h)
theorem isTrue_pl {e : Expr} {env : Env} (h1 : ∀ x p, e ≠ .UnaryOp .Not x p) (h2 : ∀ o v p, e ≠ .BoolOp o v p) (h3 : ∀ a b c p, e ≠ .IfExp a b c p) (h4 : ∀ a b c p, e ≠ .Compare a b c p) (whole : Sem Value) :
    PySem.isTrue e env whole = (do let v ← whole; standAt e.pos; holding [v] (truthy v)) := by
  cases e with
  | UnaryOp op x p => cases op <;> first | rfl | exact absurd rfl (h1 _ _)
  | BoolOp o v p => exact absurd rfl (h2 _ _ _)
  | IfExp a b c p => exact absurd rfl (h3 _ _ _ _)
  | Compare a b c p => exact absurd rfl (h4 _ _ _ _)
  | _ => rfl
theorem pw_of_pt {op : BoolOp} {vs : List Expr} {pos : Pos} {t : TT} (h : PT X (.BoolOp op vs pos) t) : PW X (.BoolOp op vs pos) t := ⟨fun whole pins s σ H Q I q => h.run pins s σ H Q I q⟩
theorem noSlice_plain {i : Expr} (h : noSlice i = true) : PlainIx i := by
  intro o j
  cases i <;> first | rfl | (cases h)
/-! ### from readings by functions to the layer's readings -/
theorem tVar_ev {C : Orc} {i : Nat} (σ : St) (H : Hp) (Q : VK) (t : tEv G W (evE C (.loc i)) σ H Q) : tVar i σ H Q := by
  obtain ⟨φ, l, h, rh, rl, p⟩ := t
  unfold evE at p
  split at p
  · rename_i d e
    obtain ⟨v, e1, e2⟩ := rl.2 i d e
    exact ⟨v, e1, p φ H v .refl rh e2⟩
  · exact p.elim
theorem tC_ev {C : Orc} {d : PV} {v : V} (r : ∀ φ H, RepV G φ H d v) (σ : St) (H : Hp) (Q : VK) (t : tEv G W (evE C (.con d)) σ H Q) : tC v σ H Q := by
  obtain ⟨φ, l, h, rh, rl, p⟩ := t
  unfold evE at p
  exact p φ H v .refl rh (r φ H)
theorem tNeg_ev {C : Orc} {a : Ex} (σ : St) (H : Hp) (Q : VK) (t : tEv G W (evE C (.neg a)) σ H Q) : tUn (rU fun i => V.int (-i)) (tEv G W (evE C a)) σ H Q := by
  obtain ⟨φ, l, h, rh, rl, p⟩ := t
  unfold evE at p
  refine ⟨φ, l, h, rh, rl, Post.mono (Post.bind p) fun v H1 ⟨φ1, h1, d1, x1, rh1, rv1, p1⟩ => ?_⟩
  cases rv1 <;> simp only at p1 <;> first | exact p1.elim | skip
  exact ⟨_, rfl, (Post.ext x1 p1) φ1 H1 _ .refl rh1 (.int _)⟩
theorem truthR_post {r : R PV} {φ : List Addr} {H : Hp} {Q : Bool → Hp → Prop} {E : XK} (p : PostT G φ H (truthR r) Q E) :
    Post G φ H r (fun v H1 => ∃ φ1 h1 d1 b, Ext φ H φ1 H1 ∧ RelH G φ1 h1 H1 ∧ RepV G φ1 H1 d1 v ∧ truthF h1 d1 = some b ∧ Q b H1) E := by
  refine Post.mono (Post.bindT p) fun v H1 ⟨φ1, h1, d1, x1, rh1, rv1, p1⟩ => ?_
  cases z : truthF h1 d1 with
  | none => simp only [z] at p1; exact p1.elim
  | some b => simp only [z] at p1; exact ⟨φ1, h1, d1, b, x1, rh1, rv1, z, p1 φ1 H1 x1 rh1⟩
/-- an expression as a test -/
theorem tTru_ev {f : Loc → PHeap → R PV} (σ : St) (H : Hp) (Q : Bool → Hp → Prop) (t : tEvT G W (fun l h => truthR (f l h)) σ H Q) : tEv G W f σ H fun x H' => ∃ k, TruV G.K x H' k ∧ Q k H' := by
  obtain ⟨φ, l, h, rh, rl, p⟩ := t
  exact ⟨φ, l, h, rh, rl, Post.mono (truthR_post p) fun v H1 ⟨φ1, h1, d1, b, x1, rh1, rv1, z, q⟩ => ⟨b, truth_Z rh1 rv1 z, q⟩⟩
theorem tTest_ev {f : Loc → PHeap → R PV} (hb : ∀ l h d h', f l h = .ok d h' → ∃ b, d = .bl b) (σ : St) (H : Hp) (Q : Bool → Hp → Prop) (t : tEvT G W (fun l h => truthR (f l h)) σ H Q) : tTest (tEv G W f) σ H Q := by
  obtain ⟨φ, l, h, rh, rl, p⟩ := t
  refine ⟨φ, l, h, rh, rl, ?_⟩
  have p : PostT G φ H (truthR (f l h)) Q (fun c d H' => W c d σ H') := p
  cases e : f l h with
  | ok d h' =>
    obtain ⟨b, rfl⟩ := hb _ _ _ _ e
    rw [e] at p
    intro φ' H' v x rh' rv
    cases rv
    exact ⟨b, rfl, p φ' H' x rh'⟩
  | exc c fs h' => rw [e] at p; exact p
  | stuck => rw [e] at p; exact p
theorem cmp_bl {fa fb : Loc → PHeap → R PV} {op : Cop} (l : Loc) (h : PHeap) (d : PV) (h' : PHeap) (e : ev2 fa fb (cmpF op) l h = .ok d h') : ∃ b, d = .bl b := by
  unfold ev2 at e
  cases e1 : fa l h with
  | ok x h1 =>
    rw [e1] at e
    simp only [R.bind_ok] at e
    cases e2 : fb l h1 with
    | ok y h2 =>
      rw [e2] at e
      simp only [R.bind_ok, cmpF] at e
      cases z : cmpB op h2 x y with
      | none => rw [z] at e; cases e
      | some b => rw [z] at e; cases e; exact ⟨b, rfl⟩
    | exc c fs h' => rw [e2] at e; cases e
    | stuck => rw [e2] at e; cases e
  | exc c fs h' => rw [e1] at e; cases e
  | stuck => rw [e1] at e; cases e
theorem tNot_ev {C : Orc} {a : Ex} (σ : St) (H : Hp) (Q : VK) (t : tEv G W (evE C (.not a)) σ H Q) : tNotT G.K (tEv G W (evE C a)) σ H Q := by
  obtain ⟨φ, l, h, rh, rl, p⟩ := t
  unfold evE at p
  have p2 : PostT G φ H (truthR (evE C a l h)) (fun b H1 => Q (.bl !b) H1) (fun c d H' => W c d σ H') := PostT.mono (PostT.bind p) fun b H1 ⟨φ1, h1, x1, rh1, p1⟩ => (Post.ext x1 p1) φ1 H1 _ .refl rh1 (.bl _)
  exact tTru_ev (f := evE C a) σ H (fun b H1 => Q (.bl !b) H1) ⟨φ, l, h, rh, rl, p2⟩
theorem tAnd_ev {C : Orc} {a b : Ex} (σ : St) (H : Hp) (Q : VK) (t : tEv G W (evE C (.and a b)) σ H Q) : tAndT G.K (tEv G W (evE C a)) (tEv G W (evE C b)) σ H Q := by
  obtain ⟨φ, l, h, rh, rl, p⟩ := t
  unfold evE at p
  refine ⟨φ, l, h, rh, rl, Post.mono (Post.bind p) fun v H1 ⟨φ1, h1, d1, x1, rh1, rv1, p1⟩ => ?_⟩
  split at p1
  · rename_i z
    exact ⟨true, truth_Z rh1 rv1 z, by rw [if_pos rfl]; exact ⟨φ1, l, h1, rh1, repL_ext rh x1 rl, Post.ext x1 p1⟩⟩
  · rename_i z
    refine ⟨false, truth_Z rh1 rv1 z, ?_⟩
    rw [if_neg Bool.false_ne_true]
    exact (Post.ext x1 p1) φ1 H1 _ .refl rh1 rv1
  · exact p1.elim
theorem tOr_ev {C : Orc} {a b : Ex} (σ : St) (H : Hp) (Q : VK) (t : tEv G W (evE C (.or a b)) σ H Q) : tOrT G.K (tEv G W (evE C a)) (tEv G W (evE C b)) σ H Q := by
  obtain ⟨φ, l, h, rh, rl, p⟩ := t
  unfold evE at p
  refine ⟨φ, l, h, rh, rl, Post.mono (Post.bind p) fun v H1 ⟨φ1, h1, d1, x1, rh1, rv1, p1⟩ => ?_⟩
  split at p1
  · rename_i z
    refine ⟨true, truth_Z rh1 rv1 z, ?_⟩
    rw [if_pos rfl]
    exact (Post.ext x1 p1) φ1 H1 _ .refl rh1 rv1
  · rename_i z
    refine ⟨false, truth_Z rh1 rv1 z, ?_⟩
    rw [if_neg Bool.false_ne_true]
    exact ⟨φ1, l, h1, rh1, repL_ext rh x1 rl, Post.ext x1 p1⟩
  · exact p1.elim
theorem tIte_ev {C : Orc} {c a b : Ex} (σ : St) (H : Hp) (Q : VK) (t : tEv G W (evE C (.ite c a b)) σ H Q) : tIf (tEvT G W (fun l h => truthR (evE C c l h))) (tEv G W (evE C a)) (tEv G W (evE C b)) σ H Q := by
  obtain ⟨φ, l, h, rh, rl, p⟩ := t
  unfold evE at p
  refine ⟨φ, l, h, rh, rl, PostT.mono (PostT.bind p) fun k H1 ⟨φ1, h1, x1, rh1, p1⟩ => ?_⟩
  cases k with
  | true => rw [if_pos rfl]; exact ⟨φ1, l, h1, rh1, repL_ext rh x1 rl, Post.ext x1 p1⟩
  | false => rw [if_neg Bool.false_ne_true]; exact ⟨φ1, l, h1, rh1, repL_ext rh x1 rl, Post.ext x1 p1⟩
theorem tChn_ev {C : Orc} {op op' : Cop} {a b c : Ex} (σ : St) (H : Hp) (Q : VK) (t : tEv G W (evE C (.chn op op' a b c)) σ H Q) :
    tChain (r2 G (cmpF op)) (r2 G (cmpF op')) (tEv G W (evE C a)) (tEv G W (evE C b)) (tEv G W (evE C c)) σ H Q := by
  obtain ⟨φ, l, h, rh, rl, p⟩ := t
  unfold evE at p
  refine ⟨φ, l, h, rh, rl, Post.mono (Post.bind p) fun v H1 ⟨φ1, h1, d1, x1, rh1, rv1, p1⟩ => ?_⟩
  refine ⟨φ1, l, h1, rh1, repL_ext rh x1 rl, Post.mono (Post.bind (Post.ext x1 p1)) fun w H2 ⟨φ2, h2, d2, x2, rh2, rv2, p2⟩ => ?_⟩
  have p3 := Post.bind (Post.ext x2 p2)
  obtain ⟨d3, h3, e3, q3⟩ := Post.lift p3
  refine ⟨φ2, h2, [d1, d2], d3, h3, rh2, .cons (repV_ext rh1 x2 rv1) (.cons rv2 .nil), e3, fun φ' H' z x rh' rz => ?_⟩
  obtain ⟨φ4, h4, d4, x4, rh4, rv4, p4⟩ := q3 φ' H' z x rh' rz
  clear q3
  split at p4
  · cases rv4
    refine ⟨true, rfl, ?_⟩
    rw [if_pos rfl]
    refine ⟨φ4, l, h4, rh4, repL_ext rh2 x4 (repL_ext rh1 x2 (repL_ext rh x1 rl)), Post.mono (Post.bind (Post.ext x4 p4)) fun y H5 ⟨φ5, h5, d5, x5, rh5, rv5, p5⟩ => ?_⟩
    obtain ⟨d6, h6, e6, q6⟩ := Post.lift (Post.ext x5 p5)
    exact ⟨φ5, h5, [d2, d5], d6, h6, rh5, .cons (repV_ext rh4 x5 (repV_ext rh2 x4 rv2)) (.cons rv5 .nil), e6, q6⟩
  · cases rv4
    refine ⟨false, rfl, ?_⟩
    rw [if_neg Bool.false_ne_true]
    exact (Post.ext x4 p4) φ4 H' _ .refl rh4 (.bl _)
  · exact p4.elim
theorem tTup_ev {C : Orc} {es : Exs} (σ : St) (H : Hp) (Q : VK) (t : tEv G W (evE C (.tup es)) σ H Q) : tTup (tEvA G W (evA C es)) σ H Q := by
  obtain ⟨φ, l, h, rh, rl, p⟩ := t
  unfold evE at p
  refine ⟨φ, l, h, rh, rl, PostA.mono (PostA.bind p) fun vs H1 ⟨φ1, h1, ds, x1, rh1, rv1, p1⟩ => ?_⟩
  split at p1
  · rename_i hz
    refine ⟨by rw [← rv1.length]; exact hz, ?_⟩
    exact new_tup rh1 rv1 (Post.ext x1 p1)
  · exact p1.elim
/-- .. and what is new is locked -/
def lkQ (Q : VK) : VK := fun v H' => ∃ d u, v = .ref d ∧ H' d = some u ∧ Mut (some u) ∧ ∀ od, Q v (upd H' d (.frz od u))
theorem lk_fl {Q : VK} {φ : List Addr} {h : PHeap} {H : Hp} {ds : List PV} {vs : List V} (r : RelH G φ h H) (rv : RepVs G φ H ds vs) (q : ∀ φ' H' v, Ext φ H φ' H' → RelH G φ' h H' → RepV G φ' H' (.fl ds) v → Q v H') :
    ∀ p, H p = none → lkQ Q (.ref p) (upd H p (.lst vs)) := fun p np => ⟨p, _, rfl, upd_same, trivial, new_fl r rv q p np⟩
theorem tLst_ev {C : Orc} {es : Exs} (σ : St) (H : Hp) (Q : VK) (t : tEv G W (evE C (.lst false es)) σ H Q) : tLst (tEvA G W (evA C es)) σ H Q := by
  obtain ⟨φ, l, h, rh, rl, p⟩ := t
  unfold evE at p
  refine ⟨φ, l, h, rh, rl, PostA.mono (PostA.bind p) fun vs H1 ⟨φ1, h1, ds, x1, rh1, rv1, p1⟩ => ?_⟩
  split at p1
  · rename_i hz
    refine ⟨by rw [← rv1.length]; exact hz, ?_⟩
    exact new_lst rh1 rv1 (Post.ext x1 p1)
  · exact p1.elim
theorem tLstF_ev {C : Orc} {es : Exs} (σ : St) (H : Hp) (Q : VK) (t : tEv G W (evE C (.lst true es)) σ H Q) : tLst (tEvA G W (evA C es)) σ H (lkQ Q) := by
  obtain ⟨φ, l, h, rh, rl, p⟩ := t
  unfold evE at p
  refine ⟨φ, l, h, rh, rl, PostA.mono (PostA.bind p) fun vs H1 ⟨φ1, h1, ds, x1, rh1, rv1, p1⟩ => ?_⟩
  split at p1
  · rename_i hz
    refine ⟨by rw [← rv1.length]; exact hz, ?_⟩
    exact lk_fl rh1 rv1 (Post.ext x1 p1)
  · exact p1.elim
theorem tCall_ev {C : Orc} {f : Nat} {es : Exs} (σ : St) (H : Hp) (Q : VK) (t : tEv G W (evE C (.call f es)) σ H Q) : tCallS (spF G (C.call f)) (WE W) (tEvA G W (evA C es)) σ H Q := by
  obtain ⟨φ, l, h, rh, rl, p⟩ := t
  unfold evE at p
  refine ⟨φ, l, h, rh, rl, PostA.mono (PostA.bind p) fun vs H1 ⟨φ1, h1, ds, x1, rh1, rv1, p1⟩ => ?_⟩
  exact ⟨φ1, h1, ds, rh1, rv1, Post.ext x1 p1⟩
theorem tBlt_ev {C : Orc} {b : Bi} {es : Exs} (σ : St) (H : Hp) (Q : VK) (t : tEv G W (evE C (.blt b es)) σ H Q) : tCB (rP G (bltF b)) (tEvA G W (evA C es)) σ H Q := tCB_ev (fa := evA C es) (F := bltF b) σ H Q t
def PostO (G : Gc) (φ : List Addr) (H : Hp) (r : R (Option Int)) (Q : Option Int → Hp → Prop) (E : XK) : Prop :=
  match r with
  | .ok d h' => ∀ φ' H', Ext φ H φ' H' → RelH G φ' h' H' → Q d H'
  | .exc c fs h' => ∀ φ' H' cls dd, Ext φ H φ' H' → RelH G φ' h' H' → RepX G φ' H' c fs cls dd → E cls dd H'
  | .stuck => False
def tEvO (G : Gc) (W : WX) (f : Loc → PHeap → R (Option Int)) : TO := fun σ H Q =>
  ∃ φ l h, RelH G φ h H ∧ RepL G φ H l σ ∧ PostO G φ H (f l h) Q (fun c d H' => W c d σ H')
theorem PostO.bind {φ : List Addr} {H : Hp} {r : R (Option Int)} {k : Option Int → PHeap → R PV} {Q : VK} {E : XK} (p : Post G φ H (r.bind k) Q E) :
    PostO G φ H r (fun b H1 => ∃ φ1 h1, Ext φ H φ1 H1 ∧ RelH G φ1 h1 H1 ∧ Post G φ H (k b h1) Q E) E := by
  cases r with
  | ok d h' => exact fun φ' H' x rh => ⟨φ', h', x, rh, p⟩
  | exc c fs h' => exact p
  | stuck => exact p
theorem PostO.mono {φ : List Addr} {H : Hp} {r : R (Option Int)} {Q Q' : Option Int → Hp → Prop} {E : XK} (p : PostO G φ H r Q E) (hq : ∀ v H', Q v H' → Q' v H') : PostO G φ H r Q' E := by
  cases r with
  | ok d h' => exact fun φ' H' x1 rh => hq _ _ (p φ' H' x1 rh)
  | exc c fs h' => exact p
  | stuck => exact p
theorem tNoPart_ev {C : Orc} (σ : St) (H : Hp) (Q : Option Int → Hp → Prop) (t : tEvO G W (evOp C .no) σ H Q) : tNoPart σ H Q := by
  obtain ⟨φ, l, h, rh, rl, p⟩ := t
  unfold evOp at p
  exact p φ H .refl rh
theorem tPart_ev {C : Orc} {e : Ex} (σ : St) (H : Hp) (Q : Option Int → Hp → Prop) (t : tEvO G W (evOp C (.yes e)) σ H Q) : tPart (tEv G W (evE C e)) σ H Q := by
  obtain ⟨φ, l, h, rh, rl, p⟩ := t
  unfold evOp at p
  refine ⟨φ, l, h, rh, rl, ?_⟩
  cases z : evE C e l h with
  | ok d h' =>
    rw [z] at p
    intro φ' H' v x rh' rv
    cases rv <;> simp only [optI] at p <;> first | exact p.elim | skip
    exact ⟨_, rfl, p φ' H' x rh'⟩
  | exc c fs h' => rw [z] at p; exact p
  | stuck => rw [z] at p; exact p
theorem tSlc_ev {C : Orc} {o : Ex} {lo hi : Op} (σ : St) (H : Hp) (Q : VK) (t : tEv G W (evE C (.slc o lo hi)) σ H Q) : tSl (rSlZ G) (tEv G W (evE C o)) (tEvO G W (evOp C lo)) (tEvO G W (evOp C hi)) σ H Q := by
  obtain ⟨φ, l, h, rh, rl, p⟩ := t
  unfold evE at p
  refine ⟨φ, l, h, rh, rl, Post.mono (Post.bind p) fun v H1 ⟨φ1, h1, d1, x1, rh1, rv1, p1⟩ => ?_⟩
  have rl1 := repL_ext rh x1 rl
  refine ⟨φ1, l, h1, rh1, rl1, PostO.mono (PostO.bind (Post.ext x1 p1)) fun a H2 ⟨φ2, h2, x2, rh2, p2⟩ => ?_⟩
  have rl2 := repL_ext rh1 x2 rl1
  refine ⟨φ2, l, h2, rh2, rl2, PostO.mono (PostO.bind (Post.ext x2 p2)) fun b H3 ⟨φ3, h3, x3, rh3, p3⟩ => ?_⟩
  obtain ⟨d4, h4, e4, q4⟩ := Post.lift (Post.ext x3 p3)
  exact ⟨φ3, h3, d1, d4, h4, rh3, repV_ext rh2 x3 (repV_ext rh1 x2 rv1), e4, q4⟩
end
end Zed
end
section
set_option Elab.async false
set_option linter.all false
set_option maxRecDepth 100000
namespace Zed
open PySem L2
section
variable {G : Gc} {W : WX} {X : Cx} {φ φ' : List Addr} {h h' : PHeap} {H H' : Hp} {l : Loc} {σ : St} {D : Addr}
/-! ### targets -/
def Upd (is : List Nat) (σ σ' : St) : Prop := σ'.length = σ.length ∧ ∀ i, i ∉ is → σ'[i]? = σ[i]?
theorem wipe_upd {is : List Nat} {σ σ' : St} (u : Upd is σ σ') : ∀ {vs : List Nat}, (∀ i, i ∈ is → i ∈ vs) → wipe σ' vs = wipe σ vs := by
  have get : ∀ (vs : List Nat) (τ : St) (i : Nat), (wipe τ vs)[i]? = if i ∈ vs then (if i < τ.length then some none else none) else τ[i]? := by
    intro vs τ
    induction vs with
    | nil => intro i; simp [wipe]
    | cons v vs ih =>
      intro i
      show ((wipe τ vs).set v none)[i]? = _
      by_cases e : v = i
      · subst e
        rw [if_pos List.mem_cons_self, List.getElem?_set_self', ih]
        by_cases hm : v ∈ vs
        · rw [if_pos hm]; split <;> rfl
        · rw [if_neg hm]
          by_cases hv : v < τ.length
          · rw [if_pos hv, List.getElem?_eq_getElem hv]; rfl
          · rw [if_neg hv, List.getElem?_eq_none (by omega)]; rfl
      · rw [List.getElem?_set_ne e, ih]
        by_cases hm : i ∈ vs
        · rw [if_pos hm, if_pos (List.mem_cons_of_mem _ hm)]
        · rw [if_neg hm, if_neg (by simp only [List.mem_cons, not_or]; exact ⟨fun q => e q.symm, hm⟩)]
  intro vs hs
  apply List.ext_getElem?
  intro i
  rw [get, get]
  by_cases hm : i ∈ vs
  · rw [if_pos hm, if_pos hm, u.1]
  · rw [if_neg hm, if_neg hm]
    exact u.2 i fun q => hm (hs i q)
def gEv (G : Gc) (t : Tg) : TG := fun v σ H Q => ∃ φ h l d l', RelH G φ h H ∧ RepL G φ H l σ ∧ RepV G φ H d v ∧ bindT t d l = some l' ∧ ∀ σ', RepL G φ H l' σ' → Upd (slotsT t) σ σ' → Q σ' H
def gEvs (G : Gc) (t : Tgs) : TGs := fun vs σ H Q => ∃ φ h l ds l', RelH G φ h H ∧ RepL G φ H l σ ∧ RepVs G φ H ds vs ∧ bindTs t ds l = some l' ∧ ∀ σ', RepL G φ H l' σ' → Upd (slotsTs t) σ σ' → Q σ' H
theorem assignEach_cons {e : Expr} {es : List Expr} {env : Env} (h : noStar e = true) : assignEach (e :: es) env = (false, assign e env) :: assignEach es env := by
  cases e <;> first | rfl | (cases h)
theorem assignEach_noStar {ns : Nms} {N : List Str} : ∀ {ts : Tgs} {es : List Expr} {env : Env}, chkGs N ns ts es = true → (assignEach es env).findIdx? (fun x => x.1) = none ∧ (assignEach es env).length = es.length
  | .nil, [], env, _ => ⟨rfl, rfl⟩
  | .nil, _ :: _, _, c => by simp [chkGs] at c
  | .cons _ _, [], _, c => by simp [chkGs] at c
  | .cons t ts, e :: es, env, c => by
    simp only [chkGs, Bool.and_eq_true] at c
    obtain ⟨i1, i2⟩ := assignEach_noStar (env := env) c.2
    rw [assignEach_cons c.1.1]
    refine ⟨?_, by simp [i2]⟩
    rw [List.findIdx?_cons]
    simp [i1]
theorem Upd.trans {is js : List Nat} {σ σ1 σ2 : St} (a : Upd is σ σ1) (b : Upd js σ1 σ2) : Upd (is ++ js) σ σ2 :=
  ⟨b.1.trans a.1, fun i hi => by
    rw [List.mem_append, not_or] at hi
    exact (b.2 i hi.2).trans (a.2 i hi.1)⟩
theorem lenT : ∀ {ts : Tgs} {ds : List PV} {l l' : Loc}, bindTs ts ds l = some l' → ∀ {N : List Str} {ns : Nms} {es : List Expr}, chkGs N ns ts es = true → ds.length = es.length
  | .nil, [], _, _, _, _, _, [], _ => rfl
  | .nil, [], _, _, _, _, _, _ :: _, c => by simp [chkGs] at c
  | .nil, _ :: _, _, _, e, _, _, _, _ => by simp [bindTs] at e
  | .cons _ _, [], _, _, e, _, _, _, _ => by simp [bindTs] at e
  | .cons _ _, _ :: _, _, _, _, _, _, [], c => by simp [chkGs] at c
  | .cons t ts, d :: ds, l, l', e, N, ns, x :: es, c => by
    simp only [bindTs] at e
    simp only [chkGs, Bool.and_eq_true] at c
    split at e
    · rename_i l1 h1
      have := lenT e c.2
      simp [this]
    · cases e
mutual
theorem soundG : ∀ (t : Tg) {X : Cx} {ns : Nms} {e : Expr}, G.K = X.K → X.N.Nodup → X.calm = true → Scp ns X → chkG X.N ns t e = true → PG X e (gEv G t)
  | .nm i, X, ns, e, hK, nd, hc, sp, c => by
    unfold chkG at c
    split at c
    · rename_i i' x pos hh
      cases hh
      simp only [Bool.and_eq_true, beq_iff_eq] at c
      have lc : L2.Loc X.env.scope x ∧ (X.fn x = true ∨ X.env.scope.names.lookup x = some .local) := by
        rcases Bool.or_eq_true _ _ ▸ c.2 with z | z
        · exact ⟨.inl (sp.loc x z), .inr (sp.loc x z)⟩
        · exact ⟨.inr (sp.cel x z).1, .inl (sp.cel x z).2⟩
      have g := pg_name (pos := pos) nd c.1 lc.1 lc.2
      refine ⟨fun pins s σ H v u Q I rv q => g.run pins s σ H v u Q I rv ?_⟩
      obtain ⟨φ, h, l, d, l', rh, rl, rd, eb, q⟩ := q
      simp only [bindT] at eb
      split at eb
      · cases eb
        refine q _ (rl.set rd) ⟨by simp, fun j hj => ?_⟩
        have : i ≠ j := fun z => hj (by simp [slotsT, z])
        exact List.getElem?_set_ne this
      · cases eb
    · rename_i hh; cases hh
    · cases c
  | .tp ts, X, ns, e, hK, nd, hc, sp, c => by
    unfold chkG at c
    split at c
    · rename_i hh; cases hh
    · rename_i ts' es kk pos hh
      cases hh
      obtain ⟨i1, i2⟩ := assignEach_noStar (env := X.env) c
      have g := pg_tup (pos := pos) (k := kk) (n := es.length) hc (soundGs ts hK nd hc sp c) i2 i1
      refine ⟨fun pins s σ H v u Q I rv q => g.run pins s σ H v u Q I rv ?_⟩
      obtain ⟨φ, h, l, d, l', rh, rl, rd, eb, q⟩ := q
      cases rd <;> simp only [bindT] at eb <;> first | (cases eb; done) | skip
      rename_i a vs ds s1 q1
      refine ⟨a, vs, rfl, hK ▸ s1, ?_, φ, h, l, ds, l', rh, rl, q1, eb, q⟩
      rw [← q1.length]
      exact lenT eb c
    · cases c
theorem soundGs : ∀ (t : Tgs) {X : Cx} {ns : Nms} {es : List Expr}, G.K = X.K → X.N.Nodup → X.calm = true → Scp ns X → chkGs X.N ns t es = true → PGs X es (gEvs G t)
  | .nil, X, ns, es, hK, nd, hc, sp, c => by
    cases es with
    | cons _ _ => simp [chkGs] at c
    | nil =>
      have g := pgs_nil (X := X)
      refine ⟨fun pins s σ H v u Q I rv q => g.run pins s σ H v u Q I rv ?_⟩
      obtain ⟨φ, h, l, ds, l', rh, rl, rd, eb, q⟩ := q
      cases ds with
      | cons _ _ => simp [bindTs] at eb
      | nil =>
        simp only [bindTs] at eb
        cases eb
        cases rd
        exact ⟨rfl, q σ rl ⟨rfl, fun _ _ => rfl⟩⟩
  | .cons t ts, X, ns, es, hK, nd, hc, sp, c => by
    cases es with
    | nil => simp [chkGs] at c
    | cons e es =>
      simp only [chkGs, Bool.and_eq_true] at c
      have g := pgs_cons (soundG t hK nd hc sp c.1.2) (soundGs ts hK nd hc sp c.2) (by rw [assignEach_cons c.1.1]; rfl)
      refine ⟨fun pins s σ H v u Q I rv q => g.run pins s σ H v u Q I rv ?_⟩
      obtain ⟨φ, h, l, ds, l', rh, rl, rd, eb, q⟩ := q
      cases ds with
      | nil => simp [bindTs] at eb
      | cons d ds =>
        cases rd with
        | cons r1 r2 =>
          simp only [bindTs] at eb
          split at eb
          · rename_i l1 e1
            refine ⟨_, _, rfl, φ, h, l, d, l1, rh, rl, r1, e1, fun σ1 rl1 u1 => ?_⟩
            exact ⟨φ, h, l1, ds, l', rh, rl1, r2, eb, fun σ2 rl2 u2 => q σ2 rl2 (u1.trans u2)⟩
          · cases eb
end
end
end Zed
end
section
set_option Elab.async false
set_option linter.all false
set_option maxRecDepth 100000
namespace Zed
open PySem L2
section
variable {G : Gc} {W : WX} {X : Cx} {φ φ' : List Addr} {h h' : PHeap} {H H' : Hp} {l : Loc} {σ : St} {D : Addr}
/-! ### what is walked -/
def ItOk (G : Gc) (φ0 : List Addr) (H0 : Hp) (src : Src) (J : It) : Prop :=
  ∀ φ h H, Ext φ0 H0 φ H → RelH G φ h H → ∀ i, (srcAt h i src = some none → J.stop i H) ∧ ∀ d, srcAt h i src = some (some d) → J.go i H ∧ ∀ x H', J.yld i H x H' → Ext φ H φ H' ∧ RelH G φ h H' ∧ RepV G φ H' d x
def PostI (G : Gc) (φ : List Addr) (H : Hp) (r : R Src) (Q : It → Hp → Prop) (E : XK) : Prop :=
  match r with
  | .ok src h' => ∀ φ' H' J, Ext φ H φ' H' → RelH G φ' h' H' → ItOk G φ' H' src J → Q J H'
  | .exc c fs h' => ∀ φ' H' cls dd, Ext φ H φ' H' → RelH G φ' h' H' → RepX G φ' H' c fs cls dd → E cls dd H'
  | .stuck => False
def iEv (G : Gc) (W : WX) (f : Loc → PHeap → R Src) : TI := fun σ H R =>
  ∃ φ l h, RelH G φ h H ∧ RepL G φ H l σ ∧ PostI G φ H (f l h) R (fun c d H' => W c d σ H')
theorem PostI.ext {φ1 : List Addr} {H1 : Hp} {r : R Src} {Q : It → Hp → Prop} {E : XK} (x : Ext φ H φ1 H1) (p : PostI G φ H r Q E) : PostI G φ1 H1 r Q E := by
  cases r with
  | ok d h' => exact fun φ' H' v x1 rh rv => p φ' H' v (x.trans x1) rh rv
  | exc c fs h' => exact fun φ' H' cls dd x1 rh rx => p φ' H' cls dd (x.trans x1) rh rx
  | stuck => exact p
theorem it_tup {a : Addr} {ds : List PV} {vs : List V} (rh : RelH G φ h H) (s : SqT G.K H a vs) (q : RepVs G φ H ds vs) : ItOk G φ H (.seq ds) (Itt G.K a) := by
  intro φ1 h1 H1 x rh1 i
  have s1 := sqT_ext rh x s
  have q1 := repVs_ext rh x q
  refine ⟨fun e => ?_, fun d e => ?_⟩
  · simp only [srcAt, Option.some.injEq] at e
    exact ⟨vs, s1, by rw [← q1.length]; exact List.getElem?_eq_none_iff.mp e⟩
  · simp only [srcAt, Option.some.injEq] at e
    obtain ⟨v, e1, r⟩ := q1.get e
    refine ⟨⟨vs, v, s1, e1⟩, fun y H' ⟨hh, f⟩ => ?_⟩
    subst hh
    have := f vs s1
    rw [e1] at this
    cases this
    exact ⟨.refl, rh1, r⟩
theorem it_fl {a : Addr} {ds : List PV} {vs : List V} (rh : RelH G φ h H) (s : FzL G.K H a vs) (q : RepVs G φ H ds vs) : ItOk G φ H (.seq ds) (Itl G.K a) := by
  intro φ1 h1 H1 x rh1 i
  have s1 := (fzL_ext rh x s).sq
  have q1 := repVs_ext rh x q
  refine ⟨fun e => ?_, fun d e => ?_⟩
  · simp only [srcAt, Option.some.injEq] at e
    exact ⟨vs, s1, by rw [← q1.length]; exact List.getElem?_eq_none_iff.mp e⟩
  · simp only [srcAt, Option.some.injEq] at e
    obtain ⟨v, e1, r⟩ := q1.get e
    refine ⟨⟨vs, v, s1, e1⟩, fun y H' ⟨hh, f⟩ => ?_⟩
    subst hh
    have := f vs s1
    rw [e1] at this
    cases this
    exact ⟨.refl, rh1, r⟩
theorem it_lst {a : Addr} {r : Nat} (hr : φ[r]? = some a) : ItOk G φ H (.lst r) (Itl G.K a) := by
  intro φ1 h1 H1 x rh1 i
  have hr1 := pre_get x.pre hr
  refine ⟨fun e => ?_, fun d e => ?_⟩
  · simp only [srcAt] at e
    split at e
    · rename_i ds hx
      obtain ⟨vs, e1, q⟩ := rh1.obj r _ a hx hr1
      simp only [Option.some.injEq] at e
      exact ⟨vs, SqL.of e1, by rw [← q.length]; exact List.getElem?_eq_none_iff.mp e⟩
    · cases e
  · simp only [srcAt] at e
    split at e
    · rename_i ds hx
      obtain ⟨vs, e1, q⟩ := rh1.obj r _ a hx hr1
      simp only [Option.some.injEq] at e
      obtain ⟨v, e2, r⟩ := q.get e
      refine ⟨⟨vs, v, SqL.of e1, e2⟩, fun y H' ⟨hh, f⟩ => ?_⟩
      subst hh
      have := f vs (SqL.of e1)
      rw [e2] at this
      cases this
      exact ⟨.refl, rh1, r⟩
    · cases e
theorem it_str {x : Str} : ItOk G φ H (.seq (x.cps.toList.map fun c => .str ⟨#[c]⟩)) (Its x) := by
  intro φ1 h1 H1 x1 rh1 i
  have g : ∀ i : Nat, (x.cps.toList.map fun c => PV.str ⟨#[c]⟩)[i]? = x.cps[i]?.map fun c => PV.str ⟨#[c]⟩ := fun i => by
    rw [List.getElem?_map, Array.getElem?_toList]
  refine ⟨fun e => ?_, fun d e => ?_⟩
  · simp only [srcAt, Option.some.injEq] at e
    rw [g] at e
    cases z : x.cps[i]? with
    | none => exact Array.getElem?_eq_none_iff.mp z
    | some c => rw [z] at e; cases e
  · simp only [srcAt, Option.some.injEq] at e
    rw [g] at e
    cases z : x.cps[i]? with
    | none => rw [z] at e; cases e
    | some c =>
      rw [z] at e
      cases e
      refine ⟨(Array.getElem?_eq_some_iff.mp z).1, fun y H' ⟨hh, c', e2, e3⟩ => ?_⟩
      subst hh
      rw [z] at e2
      cases e2
      rw [e3]
      exact ⟨.refl, rh1, .str _⟩
theorem it_rng {lo : Int} {n : Nat} : ItOk G φ H (.seq ((List.range n).map fun (i : Nat) => .int (lo + i))) (L2.Itr lo n) := by
  intro φ1 h1 H1 x1 rh1 i
  have g : ∀ i : Nat, ((List.range n).map fun (i : Nat) => PV.int (lo + i))[i]? = if i < n then some (PV.int (lo + i)) else none := fun i => by
    rw [List.getElem?_map]
    by_cases z : i < n
    · rw [if_pos z, List.getElem?_range z]; rfl
    · rw [if_neg z, List.getElem?_eq_none (by simp; omega)]; rfl
  refine ⟨fun e => ?_, fun d e => ?_⟩
  · simp only [srcAt, Option.some.injEq] at e
    rw [g] at e
    split at e
    · cases e
    · show n ≤ i; omega
  · simp only [srcAt, Option.some.injEq] at e
    rw [g] at e
    split at e
    · rename_i hz
      cases e
      refine ⟨hz, fun y H' ⟨hh, e3⟩ => ?_⟩
      subst hh
      rw [e3]
      exact ⟨.refl, rh1, .int _⟩
    · cases e
theorem postI_val {f : Loc → PHeap → R PV} {R' : It → Hp → Prop} {E : XK} (p : PostI G φ H ((f l h).bind fun d h1 => srcR (srcOf h1 d) h1) R' E) :
    Post G φ H (f l h) (fun v H1 => ∃ φ1 h1 d1 src, Ext φ H φ1 H1 ∧ RelH G φ1 h1 H1 ∧ RepV G φ1 H1 d1 v ∧ f l h = .ok d1 h1 ∧ srcOf h1 d1 = some src ∧ ∀ J, ItOk G φ1 H1 src J → R' J H1) E := by
  cases e : f l h with
  | ok d h' =>
    rw [e] at p
    simp only [R.bind_ok] at p
    intro φ' H' v x rh rv
    cases z : srcOf h' d with
    | none => rw [z] at p; exact p.elim
    | some src => rw [z] at p; exact ⟨φ', h', d, src, x, rh, rv, rfl, z, fun J hj => p φ' H' J x rh hj⟩
  | exc c fs h' => rw [e] at p; exact p
  | stuck => rw [e] at p; exact p
/-- a walked value: by what it is -/
theorem pi_valZ {tg e : Expr} {f : Loc → PHeap → R PV} (hK : G.K = X.K) (he : PE X e (tEv G W f)) : PI X tg e (iEv G W fun l h => (f l h).bind fun d h1 => srcR (srcOf h1 d) h1) := by
  refine ⟨fun pins s σ H R' I q => ?_⟩
  obtain ⟨φ, l, h, rh, rl, p⟩ := q
  have p2 := postI_val p
  -- by the value's kind
  cases ev : f l h with
  | stuck => rw [ev] at p2; exact p2.elim
  | exc c fs h' =>
    rw [ev] at p2
    refine (pi_tup he).run pins s σ H R' I ⟨φ, l, h, rh, rl, ?_⟩
    rw [ev]; exact p2
  | ok d h1 =>
    cases z : srcOf h1 d with
    | none =>
      have p : PostI G φ H ((f l h).bind fun d h1 => srcR (srcOf h1 d) h1) R' (fun c d H' => W c d σ H') := p
      rw [ev] at p
      simp only [R.bind_ok] at p
      rw [z] at p
      exact p.elim
    | some src =>
      cases d with
      | tup ds =>
        refine (pi_tup he).run pins s σ H R' I ⟨φ, l, h, rh, rl, ?_⟩
        refine Post.mono p2 fun v H1 ⟨φ1, h2, d1, src1, x, rh1, rv, e1, e2, k⟩ => ?_
        rw [ev] at e1; cases e1
        simp only [srcOf] at e2; cases e2
        cases rv with
        | tup s1 q1 => exact ⟨_, rfl, ⟨_, hK ▸ s1⟩, hK ▸ k _ (it_tup rh1 s1 q1)⟩
      | fz ob =>
        cases ob <;> first | (simp only [srcOf] at z; cases z; done) | skip
        refine (pi_list he).run pins s σ H R' I ⟨φ, l, h, rh, rl, ?_⟩
        refine Post.mono p2 fun v H1 ⟨φ1, h2, d1, src1, x, rh1, rv, e1, e2, k⟩ => ?_
        rw [ev] at e1; cases e1
        simp only [srcOf] at e2; cases e2
        cases rv with
        | fl s1 q1 => exact ⟨_, rfl, ⟨_, hK ▸ s1.sq⟩, hK ▸ k _ (it_fl rh1 s1 q1)⟩
      | str y =>
        refine (pi_str he).run pins s σ H R' I ⟨φ, l, h, rh, rl, ?_⟩
        refine Post.mono p2 fun v H1 ⟨φ1, h2, d1, src1, x, rh1, rv, e1, e2, k⟩ => ?_
        rw [ev] at e1; cases e1
        simp only [srcOf] at e2; cases e2
        cases rv
        exact ⟨_, rfl, k _ it_str⟩
      | ref r =>
        refine (pi_list he).run pins s σ H R' I ⟨φ, l, h, rh, rl, ?_⟩
        refine Post.mono p2 fun v H1 ⟨φ1, h2, d1, src1, x, rh1, rv, e1, e2, k⟩ => ?_
        rw [ev] at e1; cases e1
        simp only [srcOf] at e2
        split at e2
        · rename_i ds hx
          cases e2
          cases rv with
          | ref hr =>
            obtain ⟨vs, e3, q3⟩ := rh1.obj r _ _ hx hr
            exact ⟨_, rfl, ⟨vs, SqL.of e3⟩, hK ▸ k _ (it_lst hr)⟩
        · cases e2
      | _ => simp only [srcOf] at z; cases z
theorem iRng1_ev {C : Orc} {e : Ex} (σ : St) (H : Hp) (R' : It → Hp → Prop) (t : iEv G W (evI C (.rng1 e)) σ H R') : iRng1 (tEvA G W (evCons (evE C e) evNil)) σ H R' := by
  obtain ⟨φ, l, h, rh, rl, p⟩ := t
  unfold evI at p
  refine ⟨φ, l, h, rh, rl, ?_⟩
  unfold evCons evNil
  cases z : evE C e l h with
  | ok d h1 =>
    rw [z] at p
    simp only [R.bind_ok] at p ⊢
    intro φ' H' vs x rh' rv
    obtain ⟨v, rfl, r⟩ := repVs_one rv
    split at p
    · rename_i j
      cases r
      unfold rngOf srcR at p
      split at p
      · rename_i s1 hs
        split at hs
        · rename_i hz
          cases hs
          refine ⟨j, rfl, hz.2.2.1, hz.2.2.2, p φ' H' _ x rh' ?_⟩
          have := it_rng (G := G) (φ := φ') (H := H') (lo := 0) (n := j.toNat)
          simpa using this
        · cases hs
      · exact p.elim
    · exact p.elim
  | exc c fs h' => rw [z] at p; exact p
  | stuck => rw [z] at p; exact p
theorem iRng2_ev {C : Orc} {a b : Ex} (σ : St) (H : Hp) (R' : It → Hp → Prop) (t : iEv G W (evI C (.rng2 a b)) σ H R') : iRng2 (tEvA G W (evCons (evE C a) (evCons (evE C b) evNil))) σ H R' := by
  obtain ⟨φ, l, h, rh, rl, p⟩ := t
  unfold evI at p
  refine ⟨φ, l, h, rh, rl, ?_⟩
  unfold evCons evNil
  cases z : evE C a l h with
  | ok d h1 =>
    rw [z] at p
    simp only [R.bind_ok] at p ⊢
    cases z2 : evE C b l h1 with
    | ok e h2 =>
      rw [z2] at p
      simp only [R.bind_ok] at p ⊢
      intro φ' H' vs x rh' rv
      obtain ⟨v, w, rfl, r, r'⟩ := repVs_two rv
      split at p
      · rename_i i j
        cases r; cases r'
        unfold rngOf srcR at p
        split at p
        · rename_i s1 hs
          split at hs
          · rename_i hz
            cases hs
            exact ⟨i, j, rfl, hz, p φ' H' _ x rh' it_rng⟩
          · cases hs
        · exact p.elim
      · exact p.elim
    | exc c fs h' => rw [z2] at p; exact p
    | stuck => rw [z2] at p; exact p
  | exc c fs h' => rw [z] at p; exact p
  | stuck => rw [z] at p; exact p
/-! ### comprehensions -/
mutual
theorem repV_pre (pr : φ <+: φ') (hn : ∀ b, b ∈ φ' → b ∉ φ → ∃ xs, H b = some (.lst xs)) : ∀ {d : PV} {v : V}, RepV G φ H d v → RepV G φ' H d v
  | _, _, .non => .non
  | _, _, .bl b => .bl b
  | _, _, .int i => .int i
  | _, _, .str s => .str s
  | _, _, .ty n => .ty n
  | _, _, .tup s q => .tup s (repVs_pre pr hn q)
  | _, _, .fl s q => .fl s (repVs_pre pr hn q)
  | _, _, .fdK (ob := _) z e q => .fdK z e (repKs_pre pr hn q)
  | _, _, .fdN (ob := _) z ne e m nd q => .fdN z ne e m nd (repEs_pre pr hn q)
  | _, _, .fset (ob := _) z e p l => .fset z e p l
  | _, _, .fiP vs u n c s e l k q w => .fiP vs u (fun hm => by obtain ⟨xs, z⟩ := hn _ hm n; rw [e] at z; cases z) c s e l k (fun f d hf => repV_pre pr hn (q f d hf)) w
  | _, _, .fiS vs u n c s e l k q => .fiS vs u (fun hm => by
      obtain ⟨xs, z⟩ := hn _ hm n
      rcases e with ⟨e, _⟩ | ⟨e, _⟩ <;> (rw [e] at z; cases z)) c s e l k (fun f d hf => repV_pre pr hn (q f d hf))
  | _, _, .scr e => .scr e
  | _, _, .ref e => .ref (pre_get pr e)
  | _, _, .gl e => .gl e
theorem repVs_pre (pr : φ <+: φ') (hn : ∀ b, b ∈ φ' → b ∉ φ → ∃ xs, H b = some (.lst xs)) : ∀ {ds : List PV} {vs : List V}, RepVs G φ H ds vs → RepVs G φ' H ds vs
  | _, _, .nil => .nil
  | _, _, .cons a b => .cons (repV_pre pr hn a) (repVs_pre pr hn b)
theorem repKs_pre (pr : φ <+: φ') (hn : ∀ b, b ∈ φ' → b ∉ φ → ∃ xs, H b = some (.lst xs)) : ∀ {l : List (PV × PV)} {m : List (Key × V)}, RepKs G φ H l m → RepKs G φ' H l m
  | _, _, .nil => .nil
  | _, _, .cons a b c => .cons a (repV_pre pr hn b) (repKs_pre pr hn c)
theorem repEs_pre (pr : φ <+: φ') (hn : ∀ b, b ∈ φ' → b ∉ φ → ∃ xs, H b = some (.lst xs)) : ∀ {l : List (PV × PV)} {m : List (NestedKey × Addr × Value)}, RepEs G φ H l m → RepEs G φ' H l m
  | _, _, .nil => .nil
  | _, _, .cons a b c d e f => .cons a b (repV_pre pr hn c) d (repV_pre pr hn e) (repEs_pre pr hn f)
end
theorem repO_pre (pr : φ <+: φ') (hn : ∀ b, b ∈ φ' → b ∉ φ → ∃ xs, H b = some (.lst xs)) {a : Addr} {o : PObj} (ro : RepO G φ H a o) : RepO G φ' H a o := repO_imp (repV_pre pr hn) (repVs_pre pr hn) (fun _ _ q => q) (fun _ _ q => .inl q) rfl ro
/-! ### a set of texts is no other tracked thing -/
theorem some_heap (a : Addr) (o : Obj) (hf : o.isFreed = false) : ∃ h : Heap, h.get? a = some o := by
  refine ⟨⟨Array.replicate (a + 1) o, {}⟩, ?_⟩
  unfold Heap.get?
  have e : (Array.replicate (a + 1) o)[a]? = some o := by simp
  simp only [e]
  split
  · rename_i z; cases z; cases hf
  · rfl
theorem ne_tx {w : World} {a : Addr} {ks : List Str} {P : Heap → Prop} {o : Obj} (hf : o.isFreed = false) (hp : ∀ h : Heap, h.get? a = some o → P h) (hc : o.cls ≠ .type "set") (e : HO.ext P = TxO w a ks) : False := by
  unfold TxO at e
  have e1 := HO.ext.inj e
  obtain ⟨h, hh⟩ := some_heap a o hf
  have q : TxS w h a ks := by rw [← congrFun e1 h]; exact hp h hh
  obtain ⟨o', _, _, _, ho, hx, _⟩ := q
  rw [hh] at ho; cases ho
  exact hc hx.1
theorem code_ne {w : World} {c : Addr} {q : Str} {ks : List Str} (e : LamX.CodeO c q = TxO w c ks) : False := by
  unfold LamX.CodeO at e
  exact ne_tx (o := { cls := .type "code", data := .fields #[.none, .str q 0] }) rfl (fun h hh => ⟨_, _, 0, hh, rfl, rfl⟩) (show Value.type "code" ≠ .type "set" by decide) e
theorem some_val (v : V) : ∃ u, RelV v u := by
  cases v <;> first | exact ⟨_, rfl⟩ | exact ⟨_, 0, rfl⟩
noncomputable def pickV (v : V) : Value := (some_val v).choose
theorem slo_ne {w : World} {a C dx : Addr} {vs : List (Option V)} {ks : List Str} (e : SlX.SlO a C dx vs = TxO w a ks) : False := by
  unfold SlX.SlO at e
  refine ne_tx (o := { PySem.W.instObj C dx with slots := (vs.map (Option.map pickV)).toArray }) rfl (fun h hh => ⟨_, hh, fun i v hi => ⟨pickV v, ?_, (some_val v).choose_spec⟩⟩) (fun z => by cases z) e
  simp [hi]
/-- all but lists and sets of texts stay -/
def Stay (H H' : Hp) : Prop := ∀ a o, H a = some o → (∀ xs, o ≠ .lst xs) → (∀ ps, o ≠ .tbl ps) → (∀ w ks, o ≠ TxO w a ks) → H' a = some o
theorem Slt.stay {a : Addr} (k : Stay H H') {C dx : Addr} {ws : List (Option V)} (s : SlX.Slt H a C dx ws) : SlX.Slt H' a C dx ws := by
  rcases s with ⟨h1, h2⟩ | ⟨h1, h2⟩
  · exact .inl ⟨k _ _ h1 (fun _ z => nomatch z) (fun _ z => nomatch z) (fun _ _ z => nomatch z), h2⟩
  · exact .inr ⟨k _ _ h1 (fun _ z => nomatch z) (fun _ z => nomatch z) (fun _ _ z => slo_ne z), k _ _ h2 (fun _ z => nomatch z) (fun _ z => nomatch z) (fun _ _ z => nomatch z)⟩
theorem SlW.stay {a : Addr} (k : Stay H H') {dx : Addr} (s : SlW H a dx) : SlW H' a dx := ⟨s.1, s.2.imp (fun q => k _ _ q (fun _ z => nomatch z) (fun _ z => nomatch z) (fun _ _ z => nomatch z)) (fun q => k _ _ q (fun _ z => nomatch z) (fun _ z => nomatch z) (fun _ _ z => nomatch z))⟩
mutual
theorem repV_stay (k : Stay H H') : ∀ {d : PV} {v : V}, RepV G φ H d v → RepV G φ H' d v
  | _, _, .non => .non
  | _, _, .bl b => .bl b
  | _, _, .int i => .int i
  | _, _, .str s => .str s
  | _, _, .ty n => .ty n
  | _, _, .tup s q => .tup (match s with | .inl (.inl s) => .inl (.inl (k _ _ s (fun _ z => nomatch z) (fun _ z => nomatch z) (fun _ _ z => nomatch z))) | .inl (.inr ⟨o, s⟩) => .inl (.inr ⟨o, k _ _ s (fun _ z => nomatch z) (fun _ z => nomatch z) (fun _ _ z => nomatch z)⟩) | .inr s => .inr s) (repVs_stay k q)
  | _, _, .fl s q => .fl (let ⟨o, s⟩ := s; ⟨o, k _ _ s (fun _ z => nomatch z) (fun _ z => nomatch z) (fun _ _ z => nomatch z)⟩) (repVs_stay k q)
  | _, _, .fdK (ob := _) z e q => .fdK z (k _ _ e (fun _ z => nomatch z) (fun _ z => nomatch z) (fun _ _ z => nomatch z)) (repKs_stay k q)
  | _, _, .fdN (ob := _) z ne e m nd q => .fdN z ne (k _ _ e (fun _ z => nomatch z) (fun _ z => nomatch z) (fun _ _ z => nomatch z)) m nd (repEs_stay k q)
  | _, _, .fset (ob := _) z e p l => .fset z (k _ _ e (fun _ z => nomatch z) (fun _ z => nomatch z) (fun _ _ z => nomatch z)) p l
  | _, _, .fiP vs u n c s e l k' q w => .fiP vs u n c s (k _ _ e (fun _ z => nomatch z) (fun _ z => nomatch z) (fun _ _ z => nomatch z)) l k' (fun f d hf => repV_stay k (q f d hf)) w
  | _, _, .fiS vs u n c s e l k' q => .fiS vs u n c s (Slt.stay k e) (SlW.stay k l) k' (fun f d hf => repV_stay k (q f d hf))
  | _, _, .scr e => .scr (e.imp (fun ⟨o, s⟩ => ⟨o, k _ _ s (fun _ z => nomatch z) (fun _ z => nomatch z) (fun _ _ z => nomatch z)⟩) id)
  | _, _, .ref e => .ref e
  | _, _, .gl e => .gl e
theorem repVs_stay (k : Stay H H') : ∀ {ds : List PV} {vs : List V}, RepVs G φ H ds vs → RepVs G φ H' ds vs
  | _, _, .nil => .nil
  | _, _, .cons a b => .cons (repV_stay k a) (repVs_stay k b)
theorem repKs_stay (k : Stay H H') : ∀ {l : List (PV × PV)} {m : List (Key × V)}, RepKs G φ H l m → RepKs G φ H' l m
  | _, _, .nil => .nil
  | _, _, .cons a b c => .cons a (repV_stay k b) (repKs_stay k c)
theorem repEs_stay (k : Stay H H') : ∀ {l : List (PV × PV)} {m : List (NestedKey × Addr × Value)}, RepEs G φ H l m → RepEs G φ H' l m
  | _, _, .nil => .nil
  | _, _, .cons a b c d e f => .cons a b (repV_stay k c) d (repV_stay k e) (repEs_stay k f)
end
theorem repO_stay (k : Stay H H') {a : Addr} {o : PObj} (e : H' a = H a) (ro : RepO G φ H a o) : RepO G φ H' a o := repO_imp (repV_stay k) (repVs_stay k) (fun b fs q => k _ _ q (fun _ z => nomatch z) (fun _ z => nomatch z) (fun _ _ z => nomatch z)) (fun b x q => .inl (k _ _ q (fun _ z => nomatch z) (fun _ z => nomatch z) (fun _ _ z => nomatch z))) e ro
theorem stay_tx {a : Addr} {w : World} {ks : List Str} {u : HO} (e : H a = some (TxO w a ks)) : Stay H (upd H a u) := fun b o q _ _ n => by
  rw [upd_ne fun z => n w ks (by rw [z] at q ⊢; rw [e] at q; cases q; rfl)]; exact q
theorem stay_lst {a : Addr} {xs : List V} {u : HO} (e : H a = some (.lst xs)) : Stay H (upd H a u) := fun b o q n _ _ => by rw [upd_ne (ne_of q e (n xs))]; exact q
/-- a tracked list outside changes -/
theorem RelH.out (r : RelH G φ h H) {a : Addr} {xs : List V} {u : HO} (e : H a = some (.lst xs)) (na : a ∉ φ) : RelH G φ h (upd H a u) where
  tab := r.tabs (fun b hb nb => absurd hb nb) fun b o q _ _ nl => by rw [upd_ne fun z => nl xs (by rw [z, e] at q; cases q; rfl)]; exact q
  len := r.len
  nd := r.nd
  obj := fun j o b e1 e2 => repO_stay (stay_lst e) (upd_ne fun z => na (by rw [← z]; exact List.mem_of_getElem? e2)) (r.obj j o b e1 e2)
theorem RelH.outT (r : RelH G φ h H) {a : Addr} {w : World} {ks : List Str} {u : HO} (e : H a = some (TxO w a ks)) (na : a ∉ φ) : RelH G φ h (upd H a u) where
  tab := fun p hp => by
    obtain ⟨ps, e1, k, f⟩ := r.tab p hp
    refine ⟨ps, ?_, k, fun pos cv hc => ?_⟩
    · rw [upd_ne fun z => by rw [z, e] at e1; cases e1]; exact e1
    · obtain ⟨c, q1, q2, q3⟩ := f pos cv hc
      refine ⟨c, q1, q2, ?_⟩
      rw [upd_ne fun z => by rw [z, e] at q3; exact code_ne (Option.some.inj q3).symm]; exact q3
  len := r.len
  nd := r.nd
  obj := fun j o b e1 e2 => repO_stay (stay_tx e) (upd_ne fun z => na (by rw [← z]; exact List.mem_of_getElem? e2)) (r.obj j o b e1 e2)
/-- a tracked thing comes into the heap -/
theorem RelH.adopt (r : RelH G φ h H) {o : PObj} {zs : List V} (eZ : H D = some (.lst zs)) (hD : D ∉ φ) (ro : RepO G (φ ++ [D]) H D o) : RelH G (φ ++ [D]) (h ++ [o]) H where
  tab := fun p hp => by
    obtain ⟨ps, e, k, f⟩ := r.tab p hp
    refine ⟨ps, e, k, fun pos cv hc => ?_⟩
    obtain ⟨c, e1, n, e2⟩ := f pos cv hc
    refine ⟨c, e1, fun hm => ?_, e2⟩
    rcases List.mem_append.mp hm with z | z
    · exact n z
    · rw [List.mem_singleton.mp z, eZ] at e2; cases e2
  len := by simp [r.len]
  nd := by
    refine List.nodup_append.mpr ⟨r.nd, by simp, fun b hb c hc => ?_⟩
    rw [List.mem_singleton.mp hc]
    intro e
    rw [e] at hb
    exact hD hb
  obj := fun j o' b e1 e2 => by
    have hl := r.len
    by_cases hj : j < h.length
    · rw [List.getElem?_append_left hj] at e1
      rw [List.getElem?_append_left (by omega)] at e2
      exact repO_pre (List.prefix_append _ _) (fun c hc nc => ⟨zs, by rcases List.mem_append.mp hc with z | z; exact absurd z nc; rw [List.mem_singleton.mp z]; exact eZ⟩) (r.obj j o' b e1 e2)
    · rw [List.getElem?_append_right (by omega)] at e1 e2
      have z1 : j - h.length = 0 := by
        have := (List.getElem?_eq_some_iff.mp e1).1
        simp at this; omega
      have z2 : j - φ.length = 0 := by omega
      rw [z1] at e1; rw [z2] at e2
      simp at e1 e2
      subst e1; subst e2
      exact ro
theorem wipeP_len (l : Loc) : ∀ vs, (wipeP l vs).length = l.length
  | [] => rfl
  | v :: vs => by unfold wipeP; rw [List.length_set, wipeP_len l vs]
theorem repL_wipe (rl : RepL G φ H l σ) : ∀ vs, RepL G φ H (wipeP l vs) (wipe σ vs)
  | [] => rl
  | v :: vs => by
    have ih := repL_wipe rl vs
    unfold wipeP wipe
    refine ⟨by simpa using ih.1, fun i d e => ?_⟩
    by_cases z : v = i
    · subst z
      by_cases hl : v < (wipeP l vs).length
      · rw [List.getElem?_set_self hl] at e; cases e
      · rw [List.getElem?_eq_none (by simpa using hl)] at e; cases e
    · rw [List.getElem?_set_ne z] at e ⊢
      exact ih.2 i d e
abbrev W0 : WX := fun _ _ _ _ => False
/-- a list's end: in the heap, or locked -/
def zQ (z : Bool) (Q : VK) : VK := match z with
  | true => lkQ Q
  | false => Q
/-- one for; the ifs' test tt, the element el: functions -/
theorem tLc_ev {z : Bool} {tg : Tg} {fi : Loc → PHeap → R Src} {tt : Loc → PHeap → R Bool} {el : Loc → PHeap → R PV} {own : List Nat} (hs : ∀ i, i ∈ slotsT tg → i ∈ own) (σ : St) (H : Hp) (Q Q' : VK) (hQ : ∀ v H', zQ z Q v H' → Q' v H')
    (t : tEv G W (fun l h => (fi l h).bind fun src h1 => (lcLoop tg src tt el (wipeP l own) (srcLen h1 src + 1) 0 [] h1).bind fun ds h2 => liftP (some (mkL z ds h2))) σ H Q) :
    tLc (iEv G W fi) (gEv G tg) (tEvT G W0 tt) (tEv G W0 el) own σ H Q' := by
  obtain ⟨φ, l, h, rh, rl, p⟩ := t
  refine ⟨φ, l, h, rh, rl, ?_⟩
  have p : Post G φ H ((fi l h).bind fun src h1 => (lcLoop tg src tt el (wipeP l own) (srcLen h1 src + 1) 0 [] h1).bind fun ds h2 => liftP (some (mkL z ds h2))) Q (fun c d H' => W c d σ H') := p
  cases e0 : fi l h with
  | exc c fs h' => rw [e0] at p; exact p
  | stuck => rw [e0] at p; exact p
  | ok src h1 =>
    rw [e0] at p
    simp only [R.bind_ok] at p
    intro φ1 H1 J x1 rh1 hj D hD
    -- the loop ends well
    cases e1 : lcLoop tg src tt el (wipeP l own) (srcLen h1 src + 1) 0 [] h1 with
    | stuck => rw [e1] at p; exact p.elim
    | exc c fs h' =>
      exfalso
      have no : ∀ n i acc h, lcLoop tg src tt el (wipeP l own) n i acc h ≠ .exc c fs h' := by
        intro n
        induction n with
        | zero => intro i acc h q; simp [lcLoop] at q
        | succ n ih =>
          intro i acc h q
          unfold lcLoop at q
          split at q
          · cases q
          · cases q
          · split at q
            · cases q
            · split at q
              · exact ih _ _ _ q
              · split at q
                · split at q
                  · exact ih _ _ _ q
                  · cases q
                · cases q
              · cases q
      exact no _ _ _ _ e1
    | ok ds h2 =>
      rw [e1] at p
      simp only [R.bind_ok, liftP] at p
      refine ⟨fun i m H' => ∃ φ' h' accP accV, Ext φ1 H1 φ' H' ∧ RelH G φ' h' H' ∧ D ∉ φ' ∧ H' D = some (.lst accV) ∧ RepVs G φ' H' accP accV ∧ lcLoop tg src tt el (wipeP l own) m i accP h' = .ok ds h2,
        ⟨srcLen h1 src + 1, φ1, h1, [], [], ext_tup hD, rh1.tup hD, rh1.free hD, upd_same, .nil, e1⟩, ?_⟩
      rintro i m H2 ⟨φ2, h', accP, accV, x2, rh2, nD, eD, racc, ev⟩
      cases m with
      | zero => simp [lcLoop] at ev
      | succ m =>
        unfold lcLoop at ev
        have J2 := hj φ2 h' H2 x2 rh2 i
        cases es : srcAt h' i src with
        | none => rw [es] at ev; cases ev
        | some so =>
          rw [es] at ev
          cases so with
          | none =>
            simp only [R.ok.injEq] at ev
            obtain ⟨rfl, rfl⟩ := ev
            refine .inl ⟨J2.1 es, hQ _ _ ?_⟩
            cases z with
            | false =>
              have hn : ∀ c, c ∈ φ2 ++ [D] → c ∉ φ2 → ∃ xs, H2 c = some (.lst xs) := fun c hc nc => ⟨accV, by rcases List.mem_append.mp hc with z | z; exact absurd z nc; rw [List.mem_singleton.mp z]; exact eD⟩
              have ad := rh2.adopt (o := .lst accP) eD nD ⟨accV, eD, repVs_pre (List.prefix_append _ _) hn racc⟩
              refine p (φ2 ++ [D]) H2 (.ref D) (x1.trans ⟨x2.pre.trans (List.prefix_append _ _), fun a ha na o eo nt => ?_, x2.keep, x2.own⟩) ad (.ref ?_)
              · rcases List.mem_append.mp ha with z | z
                · exact x2.new a z na o eo nt
                · rw [List.mem_singleton.mp z, hD] at eo; cases eo
              · rw [← rh2.len, List.getElem?_append_right (Nat.le_refl _)]; simp
            | true =>
              refine ⟨D, _, rfl, eD, trivial, fun od => ?_⟩
              refine p φ2 _ (.ref D) (x1.trans ⟨x2.pre, x2.new, fun a o ea na no => ?_, fun a o ea na => ?_⟩) (rh2.out eD nD) (.fl ⟨od, upd_same⟩ (repVs_stay (stay_lst eD) racc))
              · rw [upd_ne (ne_of_none ea hD)]; exact x2.keep a o ea na no
              · rw [upd_ne (ne_of_none ea hD)]; exact x2.own a o ea na
          | some d =>
            refine .inr ⟨(J2.2 d es).1, _, fun H' hn => ⟨m, Nat.lt_succ_self _, hn⟩, fun x H3 hy => ?_⟩
            obtain ⟨x3, rh3, rx⟩ := (J2.2 d es).2 x H3 hy
            have eD3 : H3 D = some (.lst accV) := x3.keep D _ eD nD trivial
            simp only at ev
            cases eb : bindT tg d (wipeP l own) with
            | none => rw [eb] at ev; cases ev
            | some l1 =>
              rw [eb] at ev
              simp only at ev
              have rlw : RepL G φ2 H3 (wipeP l own) (wipe σ own) := repL_ext rh2 x3 (repL_ext rh1 x2 (repL_ext rh x1 (repL_wipe rl own)))
              refine ⟨φ2, h', wipeP l own, d, l1, rh3, rlw, rx, eb, fun σ2 rl2 u2 => ⟨?_, ?_⟩⟩
              · have := wipe_upd u2 hs
                rw [this]
                exact wipe_upd (is := own) ⟨by rw [wipe_length], fun i hi => by
                  have get : ∀ (vs : List Nat), i ∉ vs → (wipe σ vs)[i]? = σ[i]? := by
                    intro vs
                    induction vs with
                    | nil => intro _; rfl
                    | cons v vs ih =>
                      intro hv
                      rw [List.mem_cons, not_or] at hv
                      show ((wipe σ vs).set v none)[i]? = _
                      rw [List.getElem?_set_ne (fun q => hv.1 q.symm)]
                      exact ih hv.2
                  exact get own hi⟩ (fun i hi => hi)
              · refine ⟨φ2, l1, h', rh3, rl2, ?_⟩
                cases et : tt l1 h' with
                | stuck => rw [et] at ev; cases ev
                | exc c fs h'' => rw [et] at ev; cases ev
                | ok b h3 =>
                  rw [et] at ev
                  intro φ4 H4 x4 rh4
                  have nD4 : D ∉ φ4 := fun hm => by
                    exact x4.new D hm nD _ eD3 fun _ z => nomatch z
                  have eD4 : H4 D = some (.lst accV) := x4.keep D _ eD3 nD trivial
                  have racc4 : RepVs G φ4 H4 accP accV := repVs_ext rh3 x4 (repVs_ext rh2 x3 racc)
                  have x14 : Ext φ1 H1 φ4 H4 := x2.trans (x3.trans x4)
                  cases b with
                  | false =>
                    rw [if_neg Bool.false_ne_true]
                    exact ⟨φ4, h3, accP, accV, x14, rh4, nD4, eD4, racc4, ev⟩
                  | true =>
                    rw [if_pos rfl]
                    refine ⟨φ4, l1, h3, rh4, repL_ext rh3 x4 rl2, ?_⟩
                    simp only at ev
                    cases ee : el l1 h3 with
                    | stuck => rw [ee] at ev; cases ev
                    | exc c fs h'' => rw [ee] at ev; cases ev
                    | ok y h4 =>
                      rw [ee] at ev
                      simp only at ev
                      intro φ5 H5 v x5 rh5 rv5
                      have nD5 : D ∉ φ5 := fun hm => by
                        exact x5.new D hm nD4 _ eD4 fun _ z => nomatch z
                      have eD5 : H5 D = some (.lst accV) := x5.keep D _ eD4 nD4 trivial
                      have racc5 := repVs_ext rh4 x5 racc4
                      split at ev
                      · rename_i hz
                        refine ⟨accV, eD5, by rw [← racc5.length]; exact hz, ?_⟩
                        -- the list under construction grows
                        have x15 : Ext φ1 H1 φ5 H5 := x14.trans x5
                        refine ⟨φ5, h4, accP ++ [y], accV ++ [v], ⟨x15.pre, x15.new, fun a o ea na no => ?_, fun a o ea na => ?_⟩, rh5.out eD5 nD5, nD5, upd_same, repVs_stay (stay_lst eD5) (racc5.append (.cons rv5 .nil)), ev⟩
                        · rw [upd_ne (ne_of_none ea hD)]
                          exact x15.keep a o ea na no
                        · rw [upd_ne (ne_of_none ea hD)]
                          exact x15.own a o ea na
                      · cases ev
end
end Zed
end
section
set_option Elab.async false
set_option linter.all false
set_option maxRecDepth 100000
/-! ZedW: enumerate of a tuple. -/
namespace L2
open PySem PySem.Spec PyProof.Rows
set_option maxHeartbeats 1000000 in
theorem newEnumB {v : Value} {o : Obj} {H : Heap → Prop} (B : Begins v o H) :
    Meets (Builtin.«enumerate.__new__» ⟨[.type "enumerate", v], []⟩) (fun _ R s => H s.heap ∧
      R (.ok (.ret (.ref (s.heap.push o).objs.size))) { s with heap := (s.heap.push o).push { cls := .type "enumerate", data := .fields #[.none, .bool false, .ref s.heap.objs.size, rawInt 0, .none, .none] } }) :=
  .of_wp fun prog w A R s h => by
    obtain ⟨hp, g, d, tk, os⟩ := s; obtain ⟨h1, h⟩ := h
    have hsub := sub_enumerate
    have q1 : ∀ {A' : Around} {E : Value → Shared → Prop} {Q : Value → Shared → Prop}, Q (.ref hp.objs.size) ⟨hp.push o, g, d, tk, os⟩ → wpAny (model prog w) A' (pyIter v) Q E ⟨hp, g, d, tk, os⟩ :=
      fun q => B.iter prog w _ _ ⟨hp, g, d, tk, os⟩ _ h1 q
    wp_walk using q1
    refine wpAny_stack_any fun st => wpAny_pure ?_
    split
    · rename_i c _ _ _ _ _
      cases (c == Value.type "enumerate")
      · wp_walk using q1
        exact ⟨_, rfl, h⟩
      · wp_walk using q1
        exact ⟨_, rfl, h⟩
    · wp_walk using q1
      exact ⟨_, rfl, h⟩
theorem call_enumB {prog : Program} {w : World} {A : Around} {E : Value → Shared → Prop} {s : Shared} {v : Value} {o : Obj} {H : Heap → Prop} {Q : Value → Shared → Prop} (B : Begins v o H) (h1 : H s.heap)
    (h : ∀ h', IsEnum h' (s.heap.objs.size + 1) s.heap.objs.size 0 .none → h'.get? s.heap.objs.size = some o → h'.objs.size = s.heap.objs.size + 2 →
      (∀ b o, s.heap.get? b = some o → h'.get? b = some o) → Q (.ref (s.heap.objs.size + 1)) { s with heap := h' }) :
    wpAny (model prog w) A (call (.type "enumerate") [v]) Q E s := by
  refine callType_new F.called_enumerate (by decide) (F.typeCall_enumerate_1 _) (F.newCall_enumerate_1 _) (fun obj => F.args_object_init_2 obj _) F.entry_enumerate_new
    (newEnumB B) ⟨h1, ?_⟩
  have hz : (s.heap.push o).objs.size = s.heap.objs.size + 1 := Heap.size_push ..
  show _ ∧ _
  rw [hz]
  have he : IsEnum ((s.heap.push o).push { cls := .type "enumerate", data := .fields #[.none, .bool false, .ref s.heap.objs.size, rawInt 0, .none, .none] }) (s.heap.objs.size + 1) s.heap.objs.size 0 .none := by
    have := Heap.get?_push_size (s.heap.push o) (o := { cls := .type "enumerate", data := .fields #[.none, .bool false, .ref s.heap.objs.size, rawInt 0, .none, .none] }) rfl
    rw [hz] at this; exact this
  refine ⟨⟨_, he, rfl⟩, h _ he (Heap.get?_push_of_some _ (Heap.get?_push_size _ B.free)) (by rw [Heap.size_push, hz]) fun b o x => Heap.get?_push_of_some _ (Heap.get?_push_of_some _ x)⟩
theorem enumT_end {prog : Program} {w : World} {A : Around} {E : Value → Shared → Prop} {s : Shared} {e it l : Addr} {i : Nat} {items : Array Value} {old : Value} {Q : Option Value → Shared → Prop} (hh : A.handled = none)
    (he : IsEnum s.heap e it i old) (hit : s.heap.IsTupleIter it l i) (hl : s.heap.IsTuple l items) (hx : items[i]? = none)
    (hQ : ∀ h', Heap.ExtBut it s.heap h' → Q none { s with heap := h' }) : wpAny (model prog w) A (pyNext (.ref e)) Q E s := by
  have hT : s.TypeIs (.ref e) "enumerate" := ⟨_, he, rfl⟩
  unfold pyNext
  refine wpAny_bind (wpAny_attempt (wpAny_callSpecial?_slot (name := Str.ofString "__next__") hT F.slot_enumerate_next
    (wpAny_call_entry F.slot_enumerate_next hT F.entry_enumerate_next ?_ (F.args_enumerate_next_1 _))))
  show wpAny _ _ (field (.ref e) 2 >>= _) _ _ _
  refine wpAny_bind (wpAny_field he rfl (x := .ref it) rfl ?_)
  refine wpAny_bind (wpAny_nextOf_tuple_end hh hit hl hx fun h' x he' hx' => ?_)
  obtain ⟨o, ho, hc⟩ := hx'
  refine wpAny_bind (wpAny_isInstance (T := "StopIteration") (b := true) ⟨o, ho, hc⟩ isSubtype_stop ?_)
  exact wpAny_pure (hQ _ he')
/-- the tuple at a, each item in a new pair -/
def IteT (K : PySem.W.Frag) (a : Addr) : It :=
  ⟨fun i H => ∃ (xs : List V) (x : V), SqT K H a xs ∧ xs[i]? = some x, fun i H v H' => ∃ T x, v = .ref T ∧ H T = none ∧ H' = upd H T (.tup [.int (i : Nat), x]) ∧ ∀ xs, SqT K H a xs → xs[i]? = some x, fun i H => ∃ xs : List V, SqT K H a xs ∧ xs.length ≤ i⟩
theorem turn_enumT {P : Program} {w : World} {K : PySem.W.Frag} {elts : List Expr} {kk : Nat} {tpos : Pos} (a e it : Addr) :
    Turn P w K (.Tuple elts kk tpos) (IteT K a) [e, it] e (fun i h => (∃ old, IsEnum h e it ((i : Nat) : Int) old) ∧ h.IsTupleIter it a i ∧ e ≠ it ∧ a ≠ e ∧ a ≠ it) where
  mem := by simp
  obj := fun i h st b hb => by
    obtain ⟨⟨old, he⟩, ⟨o, ho, hc, hd⟩, _⟩ := st
    have e' : b = e ∨ b = it := by simpa using hb
    rcases e' with z | z
    · rw [z]; exact ⟨_, he, fun v q => nomatch q⟩
    · rw [z]; exact ⟨o, ho, fun v q => by rw [hd] at q; cases q⟩
  keep := fun i h h' st k => let ⟨⟨old, he⟩, hi, hne, ha, hb⟩ := st; ⟨⟨old, k e (by simp) _ he⟩, hi.at fun o q => k it (by simp) o q, hne, ha, hb⟩
  item := by
    intro X hP hw hK hc i pins s σ H E I hf st hg
    subst hP hw hK
    obtain ⟨⟨old, he⟩, hit, hne, hae, hai⟩ := st
    obtain ⟨xs, x, hq, hx⟩ := hg
    obtain ⟨its, rv, p, hz⟩ := I.tuple hq
    obtain ⟨u, hu, ru⟩ := rv.get hx
    have hel : e < s.heap.objs.size := Heap.lt_size he
    have hil : it < s.heap.objs.size := by obtain ⟨_, q, _⟩ := hit; exact Heap.lt_size q
    have pT : s.heap.IsTuple a its.toArray := p
    have hlt : i < its.toArray.size := by
      rw [List.size_toArray]
      exact (List.getElem?_eq_some_iff.mp hu).1
    refine wpAny_pyNext_enum_itemD (Draws.tuple (A := X.A.in1) (I.ok.hd hc) it a hai its.toArray) he ⟨hit, pT⟩ hlt hne (by simp; exact ⟨hne, Ne.symm hae⟩) fun x' h' tk hx' ho hst' hT hsz hk => ?_
    obtain rfl : x' = u := by
      have : its.toArray[i]? = some u := by simpa using hu
      rw [this] at hx'; exact (Option.some.inj hx').symm
    refine ⟨_, rfl, wpAny_letOwnedTupleGo_enum (s := { s with heap := h', toks := tk + 1 }) ho fun h'' he' sb => ?_⟩
    have hT2 : h''.get? s.heap.objs.size = some { cls := .type "tuple", data := .seq #[.int i tk, x'] } := (sb.2 _ (Nat.ne_of_gt hel)).trans hT
    have new : ObjOk X.prog X.w (upd H s.heap.objs.size (.tup [.int (i : Nat), x])) h'' s.heap.objs.size (.tup [.int (i : Nat), x]) :=
      ⟨by show 2 ≤ sizeLine; decide, [.int i tk, x'], .cons ⟨_, rfl⟩ (.cons ru .nil), ⟨_, hT2, rfl, _, rfl⟩⟩
    have I1 : Inv X pins σ (upd H s.heap.objs.size (.tup [.int (i : Nat), x])) { s with heap := h'', toks := tk + 1 } :=
      I.turnedNew (ch := [e, it]) (fun b ob hb q => (sb.2 b (fun z => hb (by simp [z]))).trans (hk b ob (fun z => hb (by simp [z])) (fun z => hb (by simp [z])) q)) hf (Nat.le_refl _) new
    refine ⟨.ref s.heap.objs.size, _, I1, rfl, ⟨_, x, rfl, I.hok.fresh (Nat.le_refl _), rfl, fun ys hy => by rw [I.tuple_inj hy hq]; exact hx⟩, ⟨⟨x', ?_⟩, hst'.1.at fun o q => (sb.2 it (Ne.symm hne)).trans q, hne, hae, hai⟩, fun b hb => ?_⟩
    · have e1 : ((i + 1 : Nat) : Int) = (i : Int) + 1 := by omega
      rw [e1]; exact he'
    · have hb' : b < s.heap.objs.size := by
        have e' : b = e ∨ b = it := by simpa using hb
        rcases e' with z | z
        · rw [z]; exact hel
        · rw [z]; exact hil
      rw [upd_ne (Nat.ne_of_lt hb')]
      exact (hf b hb).1
  done := by
    intro X hP hw hK hc i pins s σ H E I hf st hg
    subst hP hw hK
    obtain ⟨⟨old, he⟩, hit, hne, hae, hai⟩ := st
    obtain ⟨xs, hq, hx⟩ := hg
    obtain ⟨its, rv, p, hz⟩ := I.tuple hq
    obtain ⟨f0, f1, f2, f3, f4, f5⟩ := hf it (by simp)
    have hl := rv.length
    exact enumT_end (I.ok.hd hc) he hit p (by simp; omega) fun h' eb => ⟨rfl, I.turned (t' := s.toks) (fun b o hb q => eb b o hb q) f0 f1 f3 f4 f5⟩
  self := fun A i s Q E st h => let ⟨⟨_, he⟩, _⟩ := st; wpAny_pyIter_enum he h
/-- what enumerate is handed: a list or a tuple -/
def iEnumA (K : PySem.W.Frag) (ta : TA) : TI := fun σ H R => ta σ H fun vs H1 => ∃ a xs, vs = [.ref a] ∧ ((SqL K H1 a xs ∧ R (Ite K a) H1) ∨ (SqT K H1 a xs ∧ R (IteT K a) H1))
theorem pi_enumA {X : Cx} {e : Expr} {ta : TA} {p pos tpos : Pos} {elts : List Expr} {kk : Nat} (hg : Gl X "enumerate") (hm : X.mg "enumerate" = none) (ha : PA X [e] ta) (hs : starEach [e] X.env = [(false, eval e X.env)] := by rfl) :
    PI X (.Tuple elts kk tpos) (.Call (.Name "enumerate" p) [e] [] pos) (iEnumA X.K ta) := by
  refine ⟨fun pins s σ H R I h => ?_⟩
  refine Call_ (ld_blt I hg hm boot_enumerate (PyProof.Rows.callWith_type1 (thn (ha.run pos pins s σ H _ I h) fun us s1 ⟨vs, H1, I1, r1, q1⟩ => ?_) hs rfl))
  obtain ⟨a, xs, ex, q1⟩ := q1
  subst ex
  cases r1 with
  | cons r rr =>
    cases rr
    cases r
    rcases q1 with ⟨hq, q⟩ | ⟨hq, q⟩
    · obtain ⟨its, rv, p', hz⟩ := I1.list hq
      refine call_enumerate_list p'.isList fun h' he hit hsz hk => wpAny_pyIter_enum he ?_
      have I2 : Inv X pins σ H1 { s1 with heap := h' } := I1.kept (t' := s1.toks) hk
      refine ⟨s1.heap.objs.size + 1, [s1.heap.objs.size + 1, s1.heap.objs.size], _, _, H1, rfl, I2, turn_enum a (s1.heap.objs.size + 1) s1.heap.objs.size, ⟨⟨.none, he⟩, hit, Nat.succ_ne_self _⟩, fun b hb => ?_, q⟩
      have hb' : s1.heap.objs.size ≤ b := by
        have e' : b = s1.heap.objs.size + 1 ∨ b = s1.heap.objs.size := by simpa using hb
        rcases e' with z | z
        · rw [z]; exact Nat.le_add_right _ _
        · rw [z]; exact Nat.le_refl _
      exact I1.fpOk hb' (I1.hok.fresh hb')
    · obtain ⟨its, rv, p', hz⟩ := I1.tuple hq
      have pT : s1.heap.IsTuple a its.toArray := p'
      have hla : a < s1.heap.objs.size := by obtain ⟨_, q, _⟩ := pT; exact Heap.lt_size q
      refine call_enumB (begins_tuple a its.toArray) pT fun h' he hit hsz hk => wpAny_pyIter_enum he ?_
      have I2 : Inv X pins σ H1 { s1 with heap := h' } := I1.kept (t' := s1.toks) hk
      refine ⟨s1.heap.objs.size + 1, [s1.heap.objs.size + 1, s1.heap.objs.size], _, _, H1, rfl, I2, turn_enumT a (s1.heap.objs.size + 1) s1.heap.objs.size, ⟨⟨.none, he⟩, ⟨_, hit, rfl, rfl⟩, Nat.succ_ne_self _, Nat.ne_of_lt (Nat.lt_succ_of_lt hla), Nat.ne_of_lt hla⟩, fun b hb => ?_, q⟩
      have hb' : s1.heap.objs.size ≤ b := by
        have e' : b = s1.heap.objs.size + 1 ∨ b = s1.heap.objs.size := by simpa using hb
        rcases e' with z | z
        · rw [z]; exact Nat.le_add_right _ _
        · rw [z]; exact Nat.le_refl _
      exact I1.fpOk hb' (I1.hok.fresh hb')
end L2
end
section
set_option Elab.async false
set_option linter.all false
set_option maxRecDepth 100000
/-! ZedV: enumerate and zip are walked. -/
namespace Zed
open PySem L2 RZ
section
variable {G : Gc} {W : WX} {X : Cx} {φ φ' : List Addr} {h h' : PHeap} {H H' : Hp} {l : Loc} {σ : L2.St} {D : Addr}
theorem it_pair {T : Addr} {a b : PV} {x y : V} (rh : RelH G φ h H) (r1 : RepV G φ H a x) (r2 : RepV G φ H b y) (hT : H T = none) :
    Ext φ H φ (upd H T (.tup [x, y])) ∧ RelH G φ h (upd H T (.tup [x, y])) ∧ RepV G φ (upd H T (.tup [x, y])) (.tup [a, b]) (.ref T) := by
  have e := ext_tup (φ := φ) (u := HO.tup [x, y]) hT
  exact ⟨e, rh.tup hT, .tup (SqT.of upd_same) (.cons (repV_ext rh e r1) (.cons (repV_ext rh e r2) .nil))⟩
theorem enm_get {ds : List PV} {i : Nat} : (ds.mapIdx fun i x => PV.tup [.int i, x])[i]? = ds[i]?.map fun x => PV.tup [.int i, x] := by
  rw [List.getElem?_mapIdx]
theorem it_enmL {a : Addr} {ds : List PV} {vs : List V} (rh : RelH G φ h H) (s : FzL G.K H a vs) (q : RepVs G φ H ds vs) : ItOk G φ H (.seq (ds.mapIdx fun i x => .tup [.int i, x])) (Ite G.K a) := by
  intro φ1 h1 H1 x rh1 i
  have s1 := (fzL_ext rh x s).sq
  have q1 := repVs_ext rh x q
  refine ⟨fun e => ?_, fun d e => ?_⟩
  · simp only [srcAt, Option.some.injEq, enm_get, Option.map_eq_none_iff] at e
    exact ⟨vs, s1, by rw [← q1.length]; exact List.getElem?_eq_none_iff.mp e⟩
  · simp only [srcAt, Option.some.injEq, enm_get] at e
    obtain ⟨d0, e0, rfl⟩ := omap e
    obtain ⟨v, e1, r⟩ := q1.get e0
    refine ⟨⟨vs, v, s1, e1⟩, fun y H' ⟨T, v', ey, hT, hh, f⟩ => ?_⟩
    subst ey; subst hh
    have := f vs s1
    rw [e1] at this
    cases this
    exact it_pair rh1 (.int _) r hT
theorem it_enmT {a : Addr} {ds : List PV} {vs : List V} (rh : RelH G φ h H) (s : SqT G.K H a vs) (q : RepVs G φ H ds vs) : ItOk G φ H (.seq (ds.mapIdx fun i x => .tup [.int i, x])) (IteT G.K a) := by
  intro φ1 h1 H1 x rh1 i
  have s1 := sqT_ext rh x s
  have q1 := repVs_ext rh x q
  refine ⟨fun e => ?_, fun d e => ?_⟩
  · simp only [srcAt, Option.some.injEq, enm_get, Option.map_eq_none_iff] at e
    exact ⟨vs, s1, by rw [← q1.length]; exact List.getElem?_eq_none_iff.mp e⟩
  · simp only [srcAt, Option.some.injEq, enm_get] at e
    obtain ⟨d0, e0, rfl⟩ := omap e
    obtain ⟨v, e1, r⟩ := q1.get e0
    refine ⟨⟨vs, v, s1, e1⟩, fun y H' ⟨T, v', ey, hT, hh, f⟩ => ?_⟩
    subst ey; subst hh
    have := f vs s1
    rw [e1] at this
    cases this
    exact it_pair rh1 (.int _) r hT
theorem zip_get {xs ys : List PV} {i : Nat} : (List.zipWith (fun x y => PV.tup [x, y]) xs ys)[i]? = match xs[i]?, ys[i]? with | some x, some y => some (PV.tup [x, y]) | _, _ => none := by
  rw [List.getElem?_zipWith]
  cases xs[i]? <;> cases ys[i]? <;> rfl
theorem it_zipL {a b : Addr} {ds es : List PV} {vs ws : List V} (rh : RelH G φ h H) (s : FzL G.K H a vs) (q : RepVs G φ H ds vs) (s' : FzL G.K H b ws) (q' : RepVs G φ H es ws) : ItOk G φ H (.seq (List.zipWith (fun x y => .tup [x, y]) ds es)) (Itz G.K a b) := by
  intro φ1 h1 H1 x rh1 i
  have s1 := (fzL_ext rh x s).sq
  have q1 := repVs_ext rh x q
  have s2 := (fzL_ext rh x s').sq
  have q2 := repVs_ext rh x q'
  refine ⟨fun e => ?_, fun d e => ?_⟩
  · simp only [srcAt, Option.some.injEq] at e
    have := List.getElem?_eq_none_iff.mp e
    rw [List.length_zipWith] at this
    refine ⟨vs, ws, s1, s2, ?_⟩
    rw [← q1.length, ← q2.length]; omega
  · simp only [srcAt, Option.some.injEq, zip_get] at e
    split at e
    · rename_i d0 d1 e0 e1
      cases e
      obtain ⟨v, f0, r⟩ := q1.get e0
      obtain ⟨w, f1, r'⟩ := q2.get e1
      refine ⟨⟨vs, ws, v, w, s1, s2, f0, f1⟩, fun y H' ⟨T, v', w', ey, hT, hh, g0, g1⟩ => ?_⟩
      subst ey; subst hh
      have z0 := g0 vs s1
      have z1 := g1 ws s2
      rw [f0] at z0
      rw [f1] at z1
      cases z0; cases z1
      exact it_pair rh1 r r' hT
    · cases e
theorem it_zipT {a b : Addr} {ds es : List PV} {vs ws : List V} (rh : RelH G φ h H) (s : SqT G.K H a vs) (q : RepVs G φ H ds vs) (s' : SqT G.K H b ws) (q' : RepVs G φ H es ws) : ItOk G φ H (.seq (List.zipWith (fun x y => .tup [x, y]) ds es)) (ItzT G.K a b) := by
  intro φ1 h1 H1 x rh1 i
  have s1 := sqT_ext rh x s
  have q1 := repVs_ext rh x q
  have s2 := sqT_ext rh x s'
  have q2 := repVs_ext rh x q'
  refine ⟨fun e => ?_, fun d e => ?_⟩
  · simp only [srcAt, Option.some.injEq] at e
    have := List.getElem?_eq_none_iff.mp e
    rw [List.length_zipWith] at this
    refine ⟨vs, ws, s1, s2, ?_⟩
    rw [← q1.length, ← q2.length]; omega
  · simp only [srcAt, Option.some.injEq, zip_get] at e
    split at e
    · rename_i d0 d1 e0 e1
      cases e
      obtain ⟨v, f0, r⟩ := q1.get e0
      obtain ⟨w, f1, r'⟩ := q2.get e1
      refine ⟨⟨vs, ws, v, w, s1, s2, f0, f1⟩, fun y H' ⟨T, v', w', ey, hT, hh, g0, g1⟩ => ?_⟩
      subst ey; subst hh
      have z0 := g0 vs s1
      have z1 := g1 ws s2
      rw [f0] at z0
      rw [f1] at z1
      cases z0; cases z1
      exact it_pair rh1 r r' hT
    · cases e
theorem iEnm_ev {C : Orc} {e : Ex} (σ : L2.St) (H : Hp) (R' : It → Hp → Prop) (t : iEv G W (evI C (.enm e)) σ H R') : iEnumA G.K (tEvA G W (evCons (evE C e) evNil)) σ H R' := by
  obtain ⟨φ, l, h, rh, rl, p⟩ := t
  unfold evI at p
  refine ⟨φ, l, h, rh, rl, ?_⟩
  unfold evCons evNil
  cases z : evE C e l h with
  | ok d h1 =>
    rw [z] at p
    simp only [R.bind_ok] at p ⊢
    intro φ' H' vs x rh' rv
    obtain ⟨v, rfl, r⟩ := repVs_one rv
    unfold enmP fzS srcR at p
    cases r with
    | tup s q => exact ⟨_, _, rfl, .inr ⟨s, p φ' H' _ x rh' (it_enmT rh' s q)⟩⟩
    | fl s q => exact ⟨_, _, rfl, .inl ⟨s.sq, p φ' H' _ x rh' (it_enmL rh' s q)⟩⟩
    | _ => exact p.elim
  | exc c fs h' => rw [z] at p; exact p
  | stuck => rw [z] at p; exact p
theorem iZip_ev {C : Orc} {a b : Ex} (σ : L2.St) (H : Hp) (R' : It → Hp → Prop) (t : iEv G W (evI C (.zp a b)) σ H R') : iZipA G.K (tEvA G W (evCons (evE C a) (evCons (evE C b) evNil))) σ H R' := by
  obtain ⟨φ, l, h, rh, rl, p⟩ := t
  unfold evI at p
  refine ⟨φ, l, h, rh, rl, ?_⟩
  unfold evCons evNil
  cases z : evE C a l h with
  | ok d h1 =>
    rw [z] at p
    simp only [R.bind_ok] at p ⊢
    cases z2 : evE C b l h1 with
    | ok e h2 =>
      rw [z2] at p
      simp only [R.bind_ok] at p ⊢
      intro φ' H' vs x rh' rv
      obtain ⟨v, w, rfl, r, r'⟩ := repVs_two rv
      unfold zipP fzS srcR at p
      cases r with
      | tup s q =>
        cases r' with
        | tup s' q' => exact ⟨_, _, _, _, rfl, .inr ⟨s, s', p φ' H' _ x rh' (it_zipT rh' s q s' q')⟩⟩
        | _ => exact p.elim
      | fl s q =>
        cases r' with
        | fl s' q' => exact ⟨_, _, _, _, rfl, .inl ⟨s.sq, s'.sq, p φ' H' _ x rh' (it_zipL rh' s q s' q')⟩⟩
        | _ => exact p.elim
      | _ => exact p.elim
    | exc c fs h' => rw [z2] at p; exact p
    | stuck => rw [z2] at p; exact p
  | exc c fs h' => rw [z] at p; exact p
  | stuck => rw [z] at p; exact p
end
end Zed
end
section
set_option Elab.async false
set_option linter.all false
set_option maxRecDepth 100000
set_option maxHeartbeats 1000000
namespace Zed
open PySem L2
/-! ### lambdas: tables of code objects turn, all else stays -/
def heapOf (c : Addr) (o : Obj) : Heap := { objs := Array.replicate (c + 1) o }
theorem heapOf_get {c : Addr} {o : Obj} (h : o.data ≠ .freed) : (heapOf c o).get? c = some o := by
  have e : (heapOf c o).objs[c]? = some o := by simp [heapOf]
  unfold Heap.get?
  rw [e]
  split
  · rename_i q; cases q; exact absurd rfl h
  · rfl
def codeOb (q : Str) : Obj := ⟨.none, none, .fields #[.none, .str q default], #[]⟩
theorem codeO_at (c : Addr) (q : Str) : ∃ (oc : Obj) (vs : Array Value) (t : Tok), (heapOf c (codeOb q)).get? c = some oc ∧ oc.data = .fields vs ∧ vs[1]? = some (.str q t) :=
  ⟨codeOb q, _, default, heapOf_get (fun z => nomatch z), rfl, rfl⟩
theorem ext_inj {f g : Heap → Prop} (h : HO.ext f = HO.ext g) : f = g := by cases h; rfl
section
variable {G : Gc} {φ : List Addr} {h : PHeap} {H H' : Hp} {c : Addr} {q : Str} {o : PObj}
theorem code_not (r : RepO G φ H c o) (e : H c = some (LamX.CodeO c q)) : False := by
  have no : ∀ {f : Heap → Prop}, H c = some (.ext f) → (f (heapOf c (codeOb q)) → False) → False := fun {f} e1 n => by
    rw [e] at e1
    have z := ext_inj (Option.some.inj e1)
    apply n
    rw [← z]
    exact codeO_at c q
  have gt : (heapOf c (codeOb q)).get? c = some (codeOb q) := heapOf_get (fun z => nomatch z)
  cases o with
  | lst ds => obtain ⟨vs, e1, _⟩ := r; rw [e] at e1; cases e1
  | dic kvs =>
    obtain ⟨_, ⟨ks, e1, _⟩ | ⟨xs, _, e1, _⟩⟩ := r
    · rw [e] at e1; cases e1
    · refine no e1 fun ⟨ob, es, ep, z1, _, z3, _⟩ => ?_
      rw [gt] at z1; cases z1; cases z3
  | set ds =>
    obtain ⟨xs, ks, _, e1, _⟩ := r
    refine no e1 fun z => ?_
    have ⟨ob, es, ep, x, z1, z2⟩ := z
    rw [gt] at z1; cases z1; simp_all [codeOb]
  | ins cc fs =>
    obtain ⟨_, C, dx, _, ⟨_, ws, e1, _⟩ | ⟨_, vs, hs, _⟩⟩ := r
    · rw [e] at e1; cases e1
    · rcases hs with ⟨e1, _⟩ | ⟨e1, _⟩
      · rw [e] at e1; cases e1
      · refine no e1 fun ⟨sl, z1, _⟩ => ?_
        rw [gt] at z1; cases z1
theorem RelH.lam (r : RelH G φ h H) (x : LamX.ExtN H H') (t : LamX.Tabs G.T H') : RelH G φ h H' ∧ Ext φ H φ H' := by
  have st : Stay H H' := fun a o e _ nt _ => x a o e nt
  have ob : ∀ (i : Nat) (o : PObj) (a : Addr), h[i]? = some o → φ[i]? = some a → RepO G φ H' a o := fun i o a h1 h2 => by
    have ro := r.obj i o a h1 h2
    obtain ⟨u, eu, _, _, _, _, nt⟩ := ro.some
    exact repO_stay st ((x a u eu nt).trans eu.symm) ro
  refine ⟨⟨fun p hp => ?_, r.len, r.nd, ob⟩, List.prefix_refl _, fun a ha na => absurd ha na, fun a o e n s => x a o e s.nt, fun a y e n => .inl (x a _ e fun _ z => nomatch z)⟩
  obtain ⟨ps, e1, e2, e3⟩ := t p hp
  refine ⟨ps, e1, e2, fun pos cv hc => ?_⟩
  obtain ⟨cc, e4, e5⟩ := e3 pos cv hc
  refine ⟨cc, e4, fun hm => ?_, e5⟩
  obtain ⟨i, hi, e6⟩ := List.mem_iff_getElem.mp hm
  have hi' : i < h.length := by rw [← r.len]; exact hi
  exact code_not (ob i h[i] cc (List.getElem?_eq_getElem hi') (by rw [List.getElem?_eq_getElem hi, e6])) e5
theorem RelH.tabs' (r : RelH G φ h H) : LamX.Tabs G.T H := fun p hp => by
  obtain ⟨ps, e1, e2, e3⟩ := r.tab p hp
  refine ⟨ps, e1, e2, fun pos cv hc => ?_⟩
  obtain ⟨cc, e4, _, e5⟩ := e3 pos cv hc
  exact ⟨cc, e4, e5⟩
end
end Zed
end
section
set_option Elab.async false
set_option linter.all false
set_option maxRecDepth 100000
set_option maxHeartbeats 1000000
namespace Zed
open PySem L2
section
variable {S : Sg} {G : Gc} {C : Orc} {k : Nat}
theorem bop_ok {X : Cx} (g : Glob S G C k X) {op : Bop} {o : Operator} (h : bopIs op o = true) : OpR X (binaryOp o) (r2 G (bopF op)) := by
  cases op <;> cases o <;> first | (cases h; done) | skip
  · exact op_addZ g.K
  · exact op_subZ
  · exact op_mulZ g.K
  · exact op_fdivZ
  · exact op_modZ
  · exact op_powZ
theorem cop_ok {X : Cx} (g : Glob S G C k X) {op : Cop} {o : CmpOp} (h : copIs op o = true) : OpR X (compareOp o) (r2 G (cmpF op)) := by
  have hu := g.room.units
  cases op <;> cases o <;> first | (cases h; done) | skip
  · exact op_ltZ
  · exact op_leZ
  · exact op_gtZ
  · exact op_geZ
  · exact op_eqZ g.K hu
  · exact op_neZ g.K hu
  · exact op_inZ g.K
  · exact op_notinZ g.K
  · exact op_isZ
  · exact op_isnotZ
theorem bi_boot (b : Bi) : (∃ id, bootBuiltins (biName b) = some (.builtin id) ∧ biV b = .builtin id) ∨ ∃ T, bootBuiltins (biName b) = some (.type T) ∧ biV b = .type T := by
  cases b
  all_goals first
    | exact .inl ⟨_, by decide +kernel, rfl⟩
    | exact .inr ⟨_, by decide +kernel, rfl⟩
theorem bi_nm (b : Bi) : biName b ≠ "__name__" ∧ (biName b == ("__debug__" : Str)) = false := by
  cases b <;> exact ⟨by decide +kernel, by decide +kernel⟩
theorem ty_boot : ∀ n, tyB.contains n = true → bootBuiltins (Str.ofString n) = some (.type n) ∧ Str.ofString n ≠ "__name__" ∧ (Str.ofString n == ("__debug__" : Str)) = false := by
  intro n h
  simp only [tyB, List.contains_cons, List.contains_nil, Bool.or_false, Bool.or_eq_true, beq_iff_eq] at h
  rcases h with rfl | rfl | rfl | rfl | rfl | rfl <;> exact ⟨by decide +kernel, by decide +kernel, by decide +kernel⟩
theorem okNm_dbg {x : Str} (h : okNm x = true) : (x == ("__debug__" : Str)) = false ∧ (x == ("__classdict__" : Str)) = false ∧ x ≠ "__name__" := by
  unfold okNm at h
  simp only [Bool.and_eq_true, Bool.not_eq_true'] at h
  exact ⟨h.1.1, h.1.2, fun e => by rw [e] at h; simp at h⟩
theorem noStars {N : List Str} {sc : Scope} : ∀ {es : Exs} {l : List Expr} {env : Env} {pos : Pos}, plainX es = true → chkA S N sc es l = true → (backTo pos (starEach l env)).any (·.1) = false ∧ (backTo pos (starEach l env)).all (fun x => !x.1) = true
  | .nil, [], _, _, _, _ => ⟨rfl, rfl⟩
  | .nil, _ :: _, _, _, _, c => by simp [chkA] at c
  | .cons _ _, [], _, _, _, c => by simp [chkA] at c
  | .star _ _, _, _, _, p, c => by simp [plainX] at p
  | .cons e es, x :: l, env, pos, p, c => by
    simp only [chkA, Bool.and_eq_true] at c
    obtain ⟨i1, i2⟩ := noStars (env := env) (pos := pos) (by simpa [plainX] using p) c.2
    rw [starEach_cons c.1.1]
    unfold backTo at *
    rw [List.map_cons, List.any_cons, List.all_cons, i1, i2]
    exact ⟨rfl, rfl⟩
theorem noSuper_base {o : Expr} {m : Str} {env : Env} (h : noSuper o = true) : attributeBase o m env (eval o env) = eval o env := by
  unfold attributeBase
  split
  · cases h
  · rfl
theorem foldedSet {e : Expr} {env : Env} (h : noSet e = true) : ∀ x, foldedSetIterable e env x = pure x := by
  intro x
  cases e <;> first | rfl | (cases h)
theorem mt_app {X : Cx} : MtR X "list.append" (fun x vs H Q => rP G appP (x :: vs) H Q) := by
  intro pins s σ H x xs v us Q I rx rxs ⟨φ, h, ds, z, h', rh, rv, e, q⟩
  unfold appP at e
  split at e
  · split at e
    · rename_i hx
      split at e
      · rename_i hz
        obtain ⟨rfl, rfl⟩ := some2 e
        obtain ⟨w1, w2, ew, r1, r2⟩ := repVs_two rv
        cases ew
        cases r1 with
        | ref hr =>
          obtain ⟨vs, e1, q1⟩ := rh.obj _ _ _ hx hr
          refine mt_append pins s σ H _ _ v us Q I rx rxs ⟨_, _, _, rfl, rfl, e1, by rw [← q1.length]; exact hz, ?_⟩
          have x := ext_put (H := H) (u := HO.lst (vs ++ [w2])) hr
          exact q φ _ _ x (rh.put hr ⟨_, upd_same, repVs_ext rh x (q1.append (.cons r2 .nil))⟩) .non
      · cases e
    · cases e
  · cases e
open PyProof.Rows in
/-- xs.extend(ys), ys read -/
theorem mt_ext {X : Cx} : MtR X "list.extend" (fun x vs H Q => rP G extP (x :: vs) H Q) := by
  intro pins s σ H x xs v us Q I rx rxs ⟨φ, h, ds, z, h', rh, rv, e, q⟩
  unfold extP at e
  split at e
  · split at e
    · rename_i hx hy
      split at e
      · rename_i hz
        obtain ⟨rfl, rfl⟩ := some2 e
        obtain ⟨w1, w2, ew, r1, r2⟩ := repVs_two rv
        cases ew
        cases r1 with
        | @ref _ la hr =>
          obtain ⟨b, ws, rfl, rdB, q2⟩ := rep_lstR rh r2 hy
          obtain ⟨vs, hA, q1⟩ := rh.obj _ _ _ hx hr
          have t1 := q1.length
          have t2 := q2.length
          cases rx
          cases rxs with
          | cons ry rt =>
            cases rt
            cases ry
            obtain ⟨is, n, v1, e1⟩ := rd_list I (Or.inl hA)
            obtain ⟨js, m, v2, e2⟩ := rd_list I rdB
            have z1 := v1.length
            have z2 := v2.length
            have fits : is.toArray.size + js.toArray.size ≤ sizeLine := by simp only [List.size_toArray]; omega
            have notLong : ¬ (!is.toArray.isEmpty && Builtin.List.listTooLong (is.toArray.size + js.toArray.size)) = true := fun z => by rw [Bool.and_eq_true, notLongL fits] at z; cases z.2
            have work := AutoSeq1.list_extend_list_list_0 la is.toArray n b js.toArray m notLong (by simp only [List.size_toArray] at *; omega) (by omega)
            refine call_meets F.slot_list_extend ⟨_, e1, rfl⟩ F.entry_list_extend (F.args_list_extend_2 _ _) work ⟨e1, e2, .non, _, I.lset (its' := is ++ js) hA e1 (by simp) (v1.append v2) (by simp; omega), rfl, ?_⟩
            have x := ext_put (H := H) (u := HO.lst (vs ++ ws)) hr
            exact q φ _ _ x (rh.put hr ⟨_, upd_same, repVs_ext rh x (q1.append q2)⟩) .non
      · cases e
    · cases e
  · cases e
theorem rcv_ty {φ : List Addr} {h : PHeap} {H : Hp} {d : PV} {v : V} {m : Mi} {K : PySem.W.Frag} (rh : RelH G φ h H) (rv : RepV G φ H d v) (e : rcvOk m d h = true) : tyV K "list" v H := by
  unfold rcvOk at e
  split at e
  · split at e
    · rename_i hx
      cases rv with
      | ref hr =>
        obtain ⟨vs, e1, _⟩ := rh.obj _ _ _ hx hr
        exact .inl ⟨rfl, _, SqL.of e1⟩
    · cases e
  · cases e
theorem tMeth_ev {W : WX} {K : PySem.W.Frag} {m : Mi} {o : Ex} {es : Exs} (σ : St) (H : Hp) (Q : VK) (t : tEv G W (evE C (.meth m o es)) σ H Q) :
    tBM K "list" (fun x vs H Q => rP G (methF m) (x :: vs) H Q) (tEv G W (evE C o)) (tEvA G W (evA C es)) σ H Q := by
  obtain ⟨φ, l, h, rh, rl, p⟩ := t
  unfold evE at p
  refine ⟨φ, l, h, rh, rl, Post.mono (Post.bind p) fun v H1 ⟨φ1, h1, d1, x1, rh1, rv1, p1⟩ => ?_⟩
  split at p1
  · rename_i hr
    refine ⟨rcv_ty rh1 rv1 hr, φ1, l, h1, rh1, repL_ext rh x1 rl, PostA.mono (PostA.bind (Post.ext x1 p1)) fun vs H2 ⟨φ2, h2, ds, x2, rh2, rv2, p2⟩ => ?_⟩
    obtain ⟨d3, h3, e3, q3⟩ := Post.lift (Post.ext x2 p2)
    exact ⟨φ2, h2, d1 :: ds, d3, h3, rh2, .cons (repV_ext rh1 x2 rv1) rv2, e3, q3⟩
  · exact p1.elim
/-- a test, from an expression's truth -/
theorem pt_of {X : Cx} {W : WX} {e : Expr} {f : Loc → PHeap → R PV} (hK : G.K = X.K) (h : PE X e (tEv G W f)) (h1 : ∀ x p, e ≠ .UnaryOp .Not x p) (h2 : ∀ o v p, e ≠ .BoolOp o v p) (h3 : ∀ a b c p, e ≠ .IfExp a b c p) (h4 : ∀ a b c p, e ≠ .Compare a b c p) :
    PT X e (tEvT G W fun l h => truthR (f l h)) := by
  refine pt_imp (pt_truth h (isTrue_pl h1 h2 h3 h4)) fun σ H Q q => ?_
  have z := tTru_ev (f := f) σ H Q q
  rw [hK] at z
  exact z
theorem truthR_bl {r : R Bool} : truthR (r.bind fun b h1 => .ok (.bl !b) h1) = r.bind fun b h1 => .ok (!b) h1 := by
  cases r <;> rfl
theorem truthR_and {a b : Ex} {l : Loc} {h : PHeap} : truthR (evE C (.and a b) l h) = (truthR (evE C a l h)).bind fun k h1 => match k with | true => truthR (evE C b l h1) | false => .ok false h1 := by
  conv => lhs; unfold evE
  cases evE C a l h with
  | ok x h1 =>
    unfold truthR
    simp only [R.bind_ok]
    cases z : truthF h1 x with
    | none => rfl
    | some b =>
      cases b
      · simp only [R.bind_ok, z]
      · rfl
  | exc => rfl
  | stuck => rfl
theorem truthR_or {a b : Ex} {l : Loc} {h : PHeap} : truthR (evE C (.or a b) l h) = (truthR (evE C a l h)).bind fun k h1 => match k with | true => .ok true h1 | false => truthR (evE C b l h1) := by
  conv => lhs; unfold evE
  cases evE C a l h with
  | ok x h1 =>
    unfold truthR
    simp only [R.bind_ok]
    cases z : truthF h1 x with
    | none => rfl
    | some b =>
      cases b
      · rfl
      · simp only [R.bind_ok, z]
  | exc => rfl
  | stuck => rfl
theorem ttNot_ev {W : WX} {a : Ex} (σ : St) (H : Hp) (Q : Bool → Hp → Prop) (t : tEvT G W (fun l h => truthR (evE C (.not a) l h)) σ H Q) : tNot (tEvT G W fun l h => truthR (evE C a l h)) σ H Q := by
  obtain ⟨φ, l, h, rh, rl, p⟩ := t
  have p : PostT G φ H (truthR (evE C (.not a) l h)) Q (fun c d H' => W c d σ H') := p
  unfold evE at p
  rw [truthR_bl] at p
  exact ⟨φ, l, h, rh, rl, PostT.mono (PostT.bindT p) fun b H1 ⟨φ1, h1, x1, rh1, p1⟩ => (PostT.ext x1 p1) φ1 H1 .refl rh1⟩
theorem ttAnd_ev {W : WX} {a b : Ex} (σ : St) (H : Hp) (Q : Bool → Hp → Prop) (t : tEvT G W (fun l h => truthR (evE C (.and a b) l h)) σ H Q) :
    tAnd (tEvT G W fun l h => truthR (evE C a l h)) (tEvT G W fun l h => truthR (evE C b l h)) σ H Q := by
  obtain ⟨φ, l, h, rh, rl, p⟩ := t
  have p : PostT G φ H (truthR (evE C (.and a b) l h)) Q (fun c d H' => W c d σ H') := p
  rw [truthR_and] at p
  refine ⟨φ, l, h, rh, rl, PostT.mono (PostT.bindT p) fun k H1 ⟨φ1, h1, x1, rh1, p1⟩ => ?_⟩
  cases k with
  | true => rw [if_pos rfl]; exact ⟨φ1, l, h1, rh1, repL_ext rh x1 rl, PostT.ext x1 p1⟩
  | false => rw [if_neg Bool.false_ne_true]; exact (PostT.ext x1 p1) φ1 H1 .refl rh1
theorem ttOr_ev {W : WX} {a b : Ex} (σ : St) (H : Hp) (Q : Bool → Hp → Prop) (t : tEvT G W (fun l h => truthR (evE C (.or a b) l h)) σ H Q) :
    tOr (tEvT G W fun l h => truthR (evE C a l h)) (tEvT G W fun l h => truthR (evE C b l h)) σ H Q := by
  obtain ⟨φ, l, h, rh, rl, p⟩ := t
  have p : PostT G φ H (truthR (evE C (.or a b) l h)) Q (fun c d H' => W c d σ H') := p
  rw [truthR_or] at p
  refine ⟨φ, l, h, rh, rl, PostT.mono (PostT.bindT p) fun k H1 ⟨φ1, h1, x1, rh1, p1⟩ => ?_⟩
  cases k with
  | true => rw [if_pos rfl]; exact (PostT.ext x1 p1) φ1 H1 .refl rh1
  | false => rw [if_neg Bool.false_ne_true]; exact ⟨φ1, l, h1, rh1, repL_ext rh x1 rl, PostT.ext x1 p1⟩
theorem chn_bl {op op' : Cop} {a b c : Ex} (l : Loc) (h : PHeap) (d : PV) (h' : PHeap) (e : evE C (.chn op op' a b c) l h = .ok d h') : ∃ b, d = .bl b := by
  unfold evE at e
  cases e1 : evE C a l h with
  | ok x h1 =>
    rw [e1] at e
    simp only [R.bind_ok] at e
    cases e2 : evE C b l h1 with
    | ok y h2 =>
      rw [e2] at e
      simp only [R.bind_ok] at e
      simp only [cmpF] at e
      cases z : cmpB op h2 x y with
      | none => rw [z] at e; cases e
      | some k =>
        rw [z] at e
        simp only [Option.map_some, liftP, R.bind_ok] at e
        cases k with
        | false => simp only [R.ok.injEq] at e; exact ⟨false, e.1.symm⟩
        | true =>
          simp only at e
          cases e3 : evE C c l h2 with
          | ok w h3 =>
            rw [e3] at e
            simp only [R.bind_ok] at e
            cases z2 : cmpB op' h3 y w with
            | none => rw [z2] at e; cases e
            | some k2 => rw [z2] at e; cases e; exact ⟨k2, rfl⟩
          | exc c fs h' => rw [e3] at e; cases e
          | stuck => rw [e3] at e; cases e
    | exc c fs h' => rw [e2] at e; cases e
    | stuck => rw [e2] at e; cases e
  | exc c fs h' => rw [e1] at e; cases e
  | stuck => rw [e1] at e; cases e
/-! ### instances -/
theorem lookup_setFl {fs : List (Nat × PV)} {f g : Nat} {v : PV} : (setFl fs f v).lookup g = if g = f then some v else fs.lookup g := by
  induction fs with
  | nil =>
    simp only [setFl, List.lookup_cons, List.lookup_nil]
    by_cases e : g = f
    · simp [e]
    · have : (g == f) = false := by simpa using e
      rw [this]; simp [e]
  | cons p r ih =>
    obtain ⟨k, w⟩ := p
    simp only [setFl]
    by_cases e : k = f
    · rw [if_pos e, List.lookup_cons, List.lookup_cons]
      by_cases e2 : g = f
      · subst e; subst e2; simp
      · have : (g == k) = false := by rw [e]; simpa using e2
        rw [this, if_neg e2]
    · rw [if_neg e, List.lookup_cons, List.lookup_cons]
      by_cases e3 : g = k
      · subst e3; simp [e]
      · have : (g == k) = false := by simpa using e3
        rw [this]; exact ih
theorem len_setFl {fs : List (Nat × PV)} {f : Nat} {v : PV} (h : fs.lookup f = none) : (setFl fs f v).length = fs.length + 1 := by
  induction fs with
  | nil => rfl
  | cons p r ih =>
    obtain ⟨k, w⟩ := p
    rw [List.lookup_cons] at h
    by_cases e : f = k
    · subst e; simp at h
    · have z : (f == k) = false := by simpa using e
      rw [z] at h
      simp only [setFl]
      rw [if_neg (Ne.symm e)]
      simp [ih h]
theorem len_setFl' {fs : List (Nat × PV)} {f : Nat} {v : PV} : fs.length ≤ (setFl fs f v).length := by
  induction fs with
  | nil => simp
  | cons p r ih =>
    obtain ⟨k, w⟩ := p
    simp only [setFl]
    split
    · simp
    · simp only [List.length_cons]; omega
theorem len_putF {f : Str} {v : V} : ∀ {fs : List (Str × V)}, (L2.putF f v fs).length ≤ fs.length + 1 ∧ ((fs.lookup f).isSome = true → (L2.putF f v fs).length = fs.length)
  | [] => ⟨by simp [L2.putF], fun h => by simp at h⟩
  | (k, w) :: r => by
    have ih := len_putF (f := f) (v := v) (fs := r)
    by_cases e : k = f
    · have z : L2.putF f v ((k, w) :: r) = (k, v) :: r := by
        show (if k = f then (k, v) :: r else (k, w) :: L2.putF f v r) = _
        rw [if_pos e]
      rw [z]; simp
    · have z : L2.putF f v ((k, w) :: r) = (k, w) :: L2.putF f v r := by
        show (if k = f then (k, v) :: r else (k, w) :: L2.putF f v r) = _
        rw [if_neg e]
      rw [z]
      refine ⟨by simp only [List.length_cons]; omega, fun h => ?_⟩
      have z2 : (f == k) = false := by simpa using fun q => e q.symm
      rw [List.lookup_cons, z2] at h
      simp only [List.length_cons]
      rw [ih.2 h]
/-- what an instance has: by a reading -/
theorem rep_ins {φ : List Addr} {h : PHeap} {H : Hp} {x : PV} {v : V} {c : Nat} {fs : List (Nat × PV)} (rh : RelH G φ h H) (rv : RepV G φ H x v) (e : objOf h x = some (.ins c fs)) : ∃ a D dx, v = .ref a ∧ G.mg (G.nm c) = some (.ref D) ∧
    ((G.isSl c = false ∧ ∃ ws, H a = some (.ins D dx ws) ∧ ∀ f d, fs.lookup f = some d → G.fld c f = true ∧ ∃ w, ws.lookup (G.nm f) = some w ∧ RepV G φ H d w) ∨
     (G.isSl c = true ∧ ∃ vs, SlX.Slt H a D dx vs ∧ ∀ f d, fs.lookup f = some d → ∃ i w, G.slot c f = some i ∧ vs[i]? = some (some w) ∧ RepV G φ H d w)) := by
  cases rv with
  | fiP vs u n m s e1 l k q w =>
    simp only [objOf] at e
    cases e
    exact ⟨_, _, _, rfl, m, .inl ⟨s, _, e1, fun f d hf => ⟨(k f d hf).1, _, (k f d hf).2, q f d hf⟩⟩⟩
  | fiS vs u n m s e1 l k q =>
    simp only [objOf] at e
    cases e
    exact ⟨_, _, _, rfl, m, .inr ⟨s, _, e1, fun f d hf => let ⟨i, k1, k2⟩ := k f d hf; ⟨i, _, k1, k2, q f d hf⟩⟩⟩
  | ref hi =>
    obtain ⟨_, D, dx, hD, ⟨z, ws, a0, al, qf, q2⟩ | ⟨z, vs, hs, _, qf⟩⟩ := rh.obj _ _ _ e hi
    · exact ⟨_, D, dx, rfl, hD, .inl ⟨z, ws, a0, qf⟩⟩
    · exact ⟨_, D, dx, rfl, hD, .inr ⟨z, vs, hs, qf⟩⟩
  | _ => simp only [objOf] at e; cases e
/-- reading an attribute -/
theorem attr_post {φ : List Addr} {H : Hp} {W : WX} {f : Loc → PHeap → R PV} {l : Loc} {h : PHeap} {ct : Ct} {n : Nat} {Q : VK} {E : XK} (p : Post G φ H (ev1 f (attrF ct n) l h) Q E) :
    Post G φ H (f l h) (fun v H1 => ∃ φ1 h1 x c fs d, Ext φ H φ1 H1 ∧ RelH G φ1 h1 H1 ∧ RepV G φ1 H1 x v ∧ f l h = .ok x h1 ∧ objOf h1 x = some (.ins c fs) ∧ ownF ct c n = true ∧ fs.lookup n = some d ∧ ∀ w, RepV G φ1 H1 d w → Q w H1) E := by
  unfold ev1 at p
  cases e : f l h with
  | ok x h1 =>
    rw [e] at p
    simp only [R.bind_ok] at p
    obtain ⟨d, h2, e2, q⟩ := Post.lift p
    intro φ1 H1 v x1 rh1 rv
    simp only [attrF] at e2
    split at e2
    · rename_i c fs hx
      split at e2
      · rename_i ow
        obtain ⟨d', e3, e4⟩ := omap e2
        cases e4
        exact ⟨φ1, _, x, c, fs, d, x1, rh1, rv, rfl, hx, ow, e3, fun w rw => q φ1 H1 w x1 rh1 rw⟩
      · cases e2
    · cases e2
  | exc c fs h' => rw [e] at p; exact p
  | stuck => rw [e] at p; exact p
theorem pe_attrZ {X : Cx} {W : WX} {e : Expr} {n : Nat} {f : Loc → PHeap → R PV} {pos : Pos} (g : Glob S G C k X) (he : PE X e (tEv G W f)) (hb : attributeBase e (S.nm n) X.env (eval e X.env) = eval e X.env) :
    PE X (.Attribute e (S.nm n) pos) (tEv G W (ev1 f (attrF C.ct n))) := by
  refine ⟨fun pins s σ H Q I q => ?_⟩
  obtain ⟨φ, l, h, rh, rl, p⟩ := q
  have p2 := attr_post (W := W) p
  cases ev : f l h with
  | stuck => rw [ev] at p2; exact p2.elim
  | exc c fs h' =>
    rw [ev] at p2
    refine (pe_fld he hb).run pins s σ H Q I ⟨φ, l, h, rh, rl, ?_⟩
    rw [ev]; exact p2
  | ok x h1 =>
    by_cases sl : ∃ c fs, objOf h1 x = some (.ins c fs) ∧ C.ct.isSl c = true
    · obtain ⟨c, fs, hx, sl⟩ := sl
      refine (SlX.pe_sl he hb).run pins s σ H Q I ⟨φ, l, h, rh, rl, ?_⟩
      refine Post.mono p2 fun v H1 ⟨φ1, h2, x2, c2, fs2, d, x1, rh1, rv, e1, e2, ow, e3, q⟩ => ?_
      rw [ev] at e1
      cases e1
      rw [hx] at e2
      cases e2
      obtain ⟨a, D, dx, rfl, hD, ⟨z, _⟩ | ⟨z, vs, hs, qf⟩⟩ := rep_ins rh1 rv hx
      · rw [g.sl, sl] at z; cases z
      · obtain ⟨j, w, a1, a2, a3⟩ := qf n d e3
        rw [g.slo] at a1
        rw [g.mg, g.nm] at hD
        obtain ⟨pp, s1⟩ := g.sls c n j D a1 hD
        exact ⟨_, D, dx, pp, vs, j, w, rfl, hs, g.scl c D sl hD, s1, a2, q w a3⟩
    · refine (pe_fld he hb).run pins s σ H Q I ⟨φ, l, h, rh, rl, ?_⟩
      refine Post.mono p2 fun v H1 ⟨φ1, h2, x2, c2, fs2, d, x1, rh1, rv, e1, e2, ow, e3, q⟩ => ?_
      rw [ev] at e1
      cases e1
      have nsl : C.ct.isSl c2 = false := by
        cases zz : C.ct.isSl c2 with
        | false => rfl
        | true => exact absurd ⟨c2, fs2, e2, zz⟩ sl
      obtain ⟨a, D, dx, rfl, hD, ⟨z, ws, a0, qf⟩ | ⟨z, _⟩⟩ := rep_ins rh1 rv e2
      · obtain ⟨b0, w, b1, b2⟩ := qf n d e3
        rw [g.mg, g.nm] at hD
        rw [g.fdl] at b0
        obtain ⟨c1, c3⟩ := g.pcl c2 n D nsl b0 hD
        rw [g.nm] at b1
        exact ⟨_, D, dx, ws, w, rfl, a0, c1, c3, b1, q w b2⟩
      · rw [g.sl, nsl] at z; cases z
end
end Zed
end
section
set_option Elab.async false
set_option linter.all false
set_option maxRecDepth 100000
set_option maxHeartbeats 1000000
/-! ZedN: pop, [::-1], own methods, isinstance of own classes. -/
namespace Zed
open PySem L2
section
variable {G : Gc} {S : Sg} {C : Orc} {k : Nat}
theorem mt_popZ {X : Cx} : MtR X "list.pop" (fun x vs H Q => vs = [] ∧ rP G popP [x] H Q) := by
  intro pins s σ H x xs v us Q I rx rxs ⟨e0, φ, h, ds, z, h', rh, rv, e, q⟩
  subst e0
  unfold popP at e
  split at e
  · split at e
    · rename_i ys hx
      split at e
      · rename_i y hy
        obtain ⟨rfl, rfl⟩ := some2 e
        obtain ⟨w, ew, r1⟩ := repVs_one rv
        cases ew
        cases r1 with
        | ref hr =>
          obtain ⟨vs, e1, q1⟩ := rh.obj _ _ _ hx hr
          have l1 := q1.length
          obtain ⟨u, hu, ru⟩ := q1.get hy
          have x := ext_put (H := H) (u := HO.lst vs.dropLast) hr
          refine mt_pop pins s σ H _ _ v us Q I rx rxs ⟨_, _, u, rfl, rfl, e1, by rw [← l1]; exact hu, ?_⟩
          refine q φ _ _ x (rh.put hr ⟨_, upd_same, repVs_ext rh x ?_⟩) (repV_ext rh x ru)
          rw [List.dropLast_eq_take, List.dropLast_eq_take, l1]
          exact q1.take _
      · cases e
    · cases e
  · cases e
theorem RepVs.erase {φ : List Addr} {H : Hp} : ∀ {ds : List PV} {vs : List V} (n : Nat), RepVs G φ H ds vs → RepVs G φ H (ds.eraseIdx n) (vs.eraseIdx n)
  | _, _, _, .nil => .nil
  | _, _, 0, .cons _ q => q
  | _, _, n + 1, .cons r q => .cons r (RepVs.erase n q)
theorem RepVs.rev {φ : List Addr} {H : Hp} : ∀ {ds : List PV} {vs : List V}, RepVs G φ H ds vs → RepVs G φ H ds.reverse vs.reverse
  | _, _, .nil => .nil
  | _, _, .cons r q => by
    rw [List.reverse_cons, List.reverse_cons]
    exact (RepVs.rev q).append (.cons r .nil)
theorem mt_popiZ {X : Cx} : MtR X "list.pop" (fun x vs H Q => rP G popiP (x :: vs) H Q) := by
  intro pins s σ H x xs v us Q I rx rxs ⟨φ, h, ds, z, h', rh, rv, e, q⟩
  unfold popiP at e
  split at e
  · split at e
    · rename_i i j _ ys hx
      split at e
      · rename_i hj
        split at e
        · rename_i y hy
          obtain ⟨rfl, rfl⟩ := some2 e
          obtain ⟨w1, w2, ew, r1, r2⟩ := repVs_two rv
          cases ew
          cases r2
          cases r1 with
          | ref hr =>
            obtain ⟨vs, e1, q1⟩ := rh.obj _ _ _ hx hr
            have l1 := q1.length
            obtain ⟨u, hu, ru⟩ := q1.get hy
            have x := ext_put (H := H) (u := HO.lst (vs.eraseIdx j.toNat)) hr
            have hlt : j.toNat < vs.length := (List.getElem?_eq_some_iff.mp hu).1
            have hs : seqIndex? j vs.length = some j.toNat := by
              unfold seqIndex?
              have e0 : (if j < 0 then j + (vs.length : Int) else j) = j := if_neg (by omega)
              simp only [e0]
              exact if_pos (by simp only [Bool.and_eq_true, decide_eq_true_eq]; omega)
            refine mt_popAt pins s σ H _ _ v us Q I rx rxs ⟨_, _, _, _, u, rfl, rfl, e1, by omega, by omega, hs, hu, ?_⟩
            exact q φ _ _ x (rh.put hr ⟨_, upd_same, repVs_ext rh x (q1.erase _)⟩) (repV_ext rh x ru)
        · cases e
      · cases e
    · cases e
  · cases e
theorem tPop_ev {W : WX} {K : PySem.W.Frag} {o : Ex} (σ : St) (H : Hp) (Q : VK) (t : tEv G W (evE C (.pop o)) σ H Q) :
    tBM0 K "list" (fun x vs H Q => vs = [] ∧ rP G popP [x] H Q) (tEv G W (evE C o)) σ H Q := by
  obtain ⟨φ, l, h, rh, rl, p⟩ := t
  unfold evE ev1 at p
  refine ⟨φ, l, h, rh, rl, Post.mono (Post.bind p) fun v H1 ⟨φ1, h1, d1, x1, rh1, rv1, p1⟩ => ?_⟩
  obtain ⟨d3, h3, e3, q3⟩ := Post.lift (Post.ext x1 p1)
  refine ⟨?_, rfl, φ1, h1, [d1], d3, h3, rh1, .cons rv1 .nil, e3, q3⟩
  unfold popP at e3
  split at e3
  · rename_i i he
    cases he
    split at e3
    · rename_i hx
      cases rv1 with
      | ref hr =>
        obtain ⟨vs, e1, _⟩ := rh1.obj _ _ _ hx hr
        exact .inl ⟨rfl, _, SqL.of e1⟩
    · cases e3
  · cases e3
theorem tRev_ev {W : WX} {z : Bool} {o : Ex} (σ : St) (H : Hp) (Q : VK) (t : tEv G W (evE C (.rev z o)) σ H Q) : tRevL G.K (tEv G W (evE C o)) σ H (zQ z Q) := by
  obtain ⟨φ, l, h, rh, rl, p⟩ := t
  unfold evE ev1 at p
  refine ⟨φ, l, h, rh, rl, Post.mono (Post.bind p) fun v H1 ⟨φ1, h1, d1, x1, rh1, rv1, p1⟩ => ?_⟩
  unfold revP at p1
  simp only at p1
  cases e : lstOf h1 d1 with
  | none => rw [e] at p1; exact p1.elim
  | some xs =>
    rw [e] at p1
    obtain ⟨a, vs, rfl, sq, rv⟩ := rep_lst rh1 rv1 e
    refine ⟨a, vs, rfl, sq, ?_⟩
    cases z with
    | false => exact new_lst rh1 rv.rev (Post.ext x1 p1)
    | true => exact lk_fl rh1 rv.rev (Post.ext x1 p1)
/-! ### isinstance of own classes -/
theorem tyName_in {h : PHeap} {v : PV} {t : String} (e : tyName h v = some t) : t ∈ ["NoneType", "bool", "int", "str", "tuple", "list", "dict"] := by
  unfold tyName at e
  split at e <;> first | (cases e; decide) | skip
  split at e
  · cases e; decide
  · split at e
    · cases e; decide
    · cases e
  · cases e
theorem call_isiZ {X : Cx} (g : Glob S G C k X) : CallR X (.builtin "isinstance") (rP G (isiP C.ct)) := by
  refine callr_of fun pins s σ H xs us Q φ h ds z h' I rx rh rv e q => ?_
  unfold isiP at e
  split at e
  · rename_i v c
    obtain ⟨w1, w2, ew, r1, r2⟩ := repVs_two rv
    subst ew
    have hc2 : ∃ E, w2 = V.ref E ∧ G.mg (G.nm c) = some (.ref E) := by cases r2 with | gl m => exact ⟨_, rfl, m⟩
    obtain ⟨E, rfl, mE⟩ := hc2
    rw [g.mg, g.nm] at mE
    split at e
    · rename_i d fs ho
      obtain ⟨b, e1, e2⟩ := omap e
      obtain ⟨rfl, rfl⟩ := Prod.mk.inj e2
      obtain ⟨D, E', m1, m2, si, cl, kk⟩ := g.sub d c b e1
      rw [mE] at m2; cases m2
      obtain ⟨a, D', dx, rfl, mD, w⟩ := rep_ins rh r1 ho
      rw [g.mg, g.nm, m1] at mD; cases mD
      have qq : Q (.bl b) H := q φ H _ .refl rh (.bl b)
      rcases w with ⟨sl, ws, ha, _⟩ | ⟨sl, vs, hs, _⟩
      · rw [g.sl] at sl
        exact call_isi pins s σ H _ us Q I rx ⟨_, _, _, _, b, rfl, .own E, .base (.ins ha (cl sl) si.ca si.cn si.ct si.cm), kk, qq⟩
      · rw [g.sl] at sl
        refine SlX.call_isiSl (.ref E) pins s σ H _ us Q I rx ⟨a, D, dx, vs, _, b, rfl, rfl, fun w hw => hw, hs, g.scl d D sl m1, si, kk, qq⟩
    · split at e
      · rename_i t ht
        split at e
        · rename_i hs
          obtain ⟨rfl, rfl⟩ := some2 e
          obtain ⟨E', m2, kk⟩ := g.isb c t hs (tyName_in ht)
          rw [mE] at m2; cases m2
          have ty := ty_Z rh r1 ht
          rw [g.K] at ty
          exact call_isi pins s σ H _ us Q I rx ⟨_, _, _, _, false, rfl, .own E, ty, kk, q φ H _ .refl rh (.bl false)⟩
        · cases e
      · cases e
  · cases e
theorem tIsi_ev {W : WX} {es : Exs} (σ : St) (H : Hp) (Q : VK) (t : tEv G W (evE C (.isi es)) σ H Q) : tCB (rP G (isiP C.ct)) (tEvA G W (evA C es)) σ H Q := by
  have e : evE C (.isi es) = fun l h => (evA C es l h).bind fun ds h1 => liftP (isiP C.ct ds h1) := by funext l h; simp only [evE]
  rw [e] at t
  exact tCB_ev (fa := evA C es) (F := isiP C.ct) σ H Q t
/-! ### own methods -/
theorem rep_insM {φ : List Addr} {h : PHeap} {H : Hp} {x : PV} {v : V} {c : Nat} {fs : List (Nat × PV)} (rh : RelH G φ h H) (rv : RepV G φ H x v) (e : objOf h x = some (.ins c fs)) (sl : G.isSl c = false) :
    ∃ a D dx ws, v = .ref a ∧ G.mg (G.nm c) = some (.ref D) ∧ H a = some (.ins D dx ws) ∧ ∀ x v, ws.lookup x = some v → ∃ f, G.nm f = x ∧ G.fld c f = true := by
  cases rv with
  | fiP vs u n m s e1 l k q w =>
    simp only [objOf] at e
    cases e
    refine ⟨_, _, _, _, rfl, m, e1, fun x v hx => ?_⟩
    obtain ⟨f, hf, hs⟩ := w x v hx
    obtain ⟨d, hd⟩ := Option.isSome_iff_exists.mp hs
    exact ⟨f, hf, (k f d hd).1⟩
  | fiS vs u n m s e1 l k q =>
    simp only [objOf] at e
    cases e
    rw [s] at sl; cases sl
  | ref hi =>
    obtain ⟨_, D, dx, hD, ⟨z, ws, a0, al, qf, q2⟩ | ⟨z, vs, hs, _, qf⟩⟩ := rh.obj _ _ _ e hi
    · refine ⟨_, D, dx, ws, rfl, hD, a0, fun x v hx => ?_⟩
      obtain ⟨f, hf, hs⟩ := q2 x v hx
      obtain ⟨d, hd⟩ := Option.isSome_iff_exists.mp hs
      exact ⟨f, hf, (qf f d hd).1⟩
    · rw [z] at sl; cases sl
  | _ => simp only [objOf] at e; cases e
/-- a method, its class told by the receiver -/
def tMthZ (X : Cx) (m : Str) (sp : Nat → Sp) (n : Nat) (E : L2.St → XK) (ta : TE) (t : TA) : TE := fun σ H Q => ta σ H fun x H1 => ∃ (a D dx : Addr) (fs : List (Str × V)) (f : Nat) (g : Addr) (ps : List Str) (fd : FuncData), x = .ref a ∧ H1 a = some (.ins D dx fs) ∧ fs.lookup m = none ∧
  Cls X.K D ∧ Meth X.K D m g ∧ Binds X.K fd ps [] ∧ FnOkZ false X.prog X.w X.K X.mg X.base (L2.CX X.prog X.w) n g fd ps (sp f) ∧ t σ H1 fun vs H2 => sp f (x :: vs) H2 Q (E σ)
theorem mth_core {X : Cx} {W : WX} {m : Nat} {o : Ex} {φ : List Addr} {h : PHeap} {H : Hp} {x : PV} {v : V} {f : Nat} (g : Glob S G C k X) (rh : RelH G φ h H) (rv : RepV G φ H x v) (e : mthF C.ct h x m = some f) :
    ∃ (a D dx : Addr) (fs : List (Str × V)) (ga : Addr) (ps : List Str) (fd : FuncData), v = .ref a ∧ H a = some (.ins D dx fs) ∧ fs.lookup (S.nm m) = none ∧
  Cls X.K D ∧ Meth X.K D (S.nm m) ga ∧ Binds X.K fd ps [] ∧ FnOkZ false X.prog X.w X.K X.mg X.base (L2.CX X.prog X.w) k ga fd ps (spF G (C.call f)) := by
  unfold mthF at e
  split at e
  · rename_i c fs ho
    split at e
    · rename_i sl
      obtain ⟨ps, fd, D, a, fdt, m0, m1, m2, m3, m4, m5, m6⟩ := g.mts c m f e
      obtain ⟨a', D', dx, ws, rfl, mD, ha, w⟩ := rep_insM rh rv ho (by rw [g.sl]; exact sl)
      rw [g.mg, g.nm, m1] at mD; cases mD
      refine ⟨a', D, dx, ws, a, ps, fdt, rfl, ha, ?_, m2, m3, m5, m6⟩
      cases hl : ws.lookup (S.nm m) with
      | none => rfl
      | some u =>
        obtain ⟨f', e1, e2⟩ := w _ _ hl
        rw [g.nm] at e1
        rw [g.fdl] at e2
        exact absurd e1 (m4 f' e2)
    · cases e
  · cases e
open PySem.Spec PyProof.Rows in
theorem callM {M : Model} {A : Around} {E Q : Value → Shared → Prop} {s : Shared} {env : Env} {o : Expr} {name : Str} {apos pos : Pos} {args : List Expr}
    (hbase : attributeBase o name env (eval o env) = eval o env)
    (hfew : ((backTo pos (starEach args env)).all (fun x => !x.1) && (backToKw pos (keywordEach [] env)).all (fun x => x.1.isSome)
      && decide (args.length + ([] : List Keyword).length + (if ([] : List Keyword).isEmpty then 0 else 1) < 30)) = true)
    (hline : (apos.endLine == pos.line) = true)
    (h : wpAny M A (eval o env) (fun ov s1 => ∀ pl, wpAny M A (getMethod ov name pl) (fun fx s2 => wpAny M A (callWith pos fx.1 fx.2 (backTo pos (starEach args env)) (backToKw pos (keywordEach [] env))) Q E s2) E s1) E s) :
    wpAny M A (eval (.Call (.Attribute o name apos) args [] pos) env) Q E s := by
  rw [arm_eval_Call, hbase]
  refine wpAny_bind (wpAny_mono h (fun ov s1 h1 => ?_) fun _ _ e => e)
  refine wpAny_bind (wpAny_standAt ?_)
  have hform : methodCallForm (args.length + ([] : List Keyword).length) (backTo pos (starEach args env)) (backToKw pos (keywordEach [] env)) = true := hfew
  have hpos : methodCallPos true o env apos pos = pure pos := by unfold methodCallPos; simp [hline]
  unfold methodCall
  rw [hform]
  refine wpAny_bind (wpAny_holding ?_)
  unfold calleeOf
  rw [if_pos rfl]
  exact wpAny_mono (h1 _) (fun fx s2 h2 => wpAny_bind (wpAny_of_eq hpos h2)) fun _ _ e => e
open PySem.Spec PyProof.Rows in
theorem pe_mthZ {X : Cx} {m : Str} {sp : Nat → Sp} {n : Nat} {E : L2.St → XK} {o e : Expr} {es : List Expr} {apos pos : Pos} {ta : TE} {t : TA} (he : PE X o ta) (hr : Room n X.A) (hx : ∀ σ, PassesAt (L2.CX X.prog X.w) X σ (E σ)) (ha : PA X (e :: es) t)
    (hbase : attributeBase o m X.env (eval o X.env) = eval o X.env)
    (hfew : ((backTo pos (starEach (e :: es) X.env)).all (fun x => !x.1) && (backToKw pos (keywordEach [] X.env)).all (fun x => x.1.isSome)
      && decide ((e :: es).length + ([] : List Keyword).length + (if ([] : List Keyword).isEmpty then 0 else 1) < 30)) = true)
    (hline : (apos.endLine == pos.line) = true) (hst : starEach (e :: es) X.env = (false, eval e X.env) :: starEach es X.env) (hpl : (backTo pos (starEach es X.env)).any (·.1) = false) :
    PE X (.Call (.Attribute o m apos) (e :: es) [] pos) (tMthZ X m sp n E ta t) := by
  refine ⟨fun pins s σ H Q I h => ?_⟩
  refine callM hbase hfew hline (thn (he.run pins s σ H _ I h) fun u s1 ⟨x, H1, I1, rx, a, D, dx, fs, f, g, ps, fd, ex, ea, l, c, hm, hb, F, q⟩ => fun pl => ?_)
  subst ex
  obtain rfl : u = Value.ref a := rx
  refine getmeth_ok I1 ea c hm l ?_
  refine PySem.W.callWith_K (first := [.ref a]) (h₀ := X.base) I.ok.mod.kin hm.kp (thn (ha.run pos pins s1 σ H1 _ I1 q) fun us s2 ⟨vs, H2, I2, r, q2⟩ => ⟨I2.kIn, ?_⟩) hst hpl
  exact run_fnSD (us := .ref a :: us) (vs := .ref a :: vs) (dvs := []) (F.fnOk rfl) hr hb .nil (hx σ) I2 (.cons rfl r) (by rw [List.append_nil]; exact q2)
open PySem.Spec PyProof.Rows in
theorem pe_mth0Z {X : Cx} {m : Str} {sp : Nat → Sp} {n : Nat} {E : L2.St → XK} {o : Expr} {apos pos : Pos} {ta : TE} (he : PE X o ta) (hr : Room n X.A) (hx : ∀ σ, PassesAt (L2.CX X.prog X.w) X σ (E σ))
    (hbase : attributeBase o m X.env (eval o X.env) = eval o X.env) (hline : (apos.endLine == pos.line) = true) :
    PE X (.Call (.Attribute o m apos) [] [] pos) (tMthZ X m sp n E ta tNil) := by
  refine ⟨fun pins s σ H Q I h => ?_⟩
  refine callM hbase rfl hline (thn (he.run pins s σ H _ I h) fun u s1 ⟨x, H1, I1, rx, a, D, dx, fs, f, g, ps, fd, ex, ea, l, c, hm, hb, F, q⟩ => fun pl => ?_)
  subst ex
  obtain rfl : u = Value.ref a := rx
  refine getmeth_ok I1 ea c hm l ?_
  refine PySem.W.callWith_K0 (first := [.ref a]) I1.kIn hm.kp ?_
  exact run_fnSD (us := [.ref a]) (vs := [.ref a]) (dvs := []) (F.fnOk rfl) hr hb .nil (hx σ) I1 (.cons rfl .nil) (by rw [List.append_nil]; exact q)
theorem tMcl_ev {X : Cx} {W : WX} {m : Nat} {o : Ex} {es : Exs} (g : Glob S G C k X) (σ : L2.St) (H : Hp) (Q : VK) (t : tEv G W (evE C (.mcl m o es)) σ H Q) :
    tMthZ X (S.nm m) (fun f => spF G (C.call f)) k (WE W) (tEv G W (evE C o)) (tEvA G W (evA C es)) σ H Q := by
  obtain ⟨φ, l, h, rh, rl, p⟩ := t
  unfold evE at p
  refine ⟨φ, l, h, rh, rl, Post.mono (Post.bind p) fun v H1 ⟨φ1, h1, d1, x1, rh1, rv1, p1⟩ => ?_⟩
  split at p1
  · rename_i f hf
    obtain ⟨a, D, dx, fs, ga, ps, fd, rfl, e1, e2, e3, e4, e5, e6⟩ := mth_core (W := W) (o := o) g rh1 rv1 hf
    refine ⟨a, D, dx, fs, f, ga, ps, fd, rfl, e1, e2, e3, e4, e5, e6, φ1, l, h1, rh1, repL_ext rh x1 rl, PostA.mono (PostA.bind (Post.ext x1 p1)) fun vs H2 ⟨φ2, h2, ds, x2, rh2, rv2, p2⟩ => ?_⟩
    exact ⟨φ2, h2, d1 :: ds, rh2, .cons (repV_ext rh1 x2 rv1) rv2, Post.ext x2 p2⟩
  · exact p1.elim
theorem tMc0_ev {X : Cx} {W : WX} {m : Nat} {o : Ex} (g : Glob S G C k X) (σ : L2.St) (H : Hp) (Q : VK) (t : tEv G W (evE C (.mc0 m o)) σ H Q) :
    tMthZ X (S.nm m) (fun f => spF G (C.call f)) k (WE W) (tEv G W (evE C o)) tNil σ H Q := by
  obtain ⟨φ, l, h, rh, rl, p⟩ := t
  unfold evE at p
  refine ⟨φ, l, h, rh, rl, Post.mono (Post.bind p) fun v H1 ⟨φ1, h1, d1, x1, rh1, rv1, p1⟩ => ?_⟩
  split at p1
  · rename_i f hf
    obtain ⟨a, D, dx, fs, ga, ps, fd, rfl, e1, e2, e3, e4, e5, e6⟩ := mth_core (W := W) (o := o) g rh1 rv1 hf
    refine ⟨a, D, dx, fs, f, ga, ps, fd, rfl, e1, e2, e3, e4, e5, e6, ?_⟩
    exact ⟨φ1, h1, [d1], rh1, .cons rv1 .nil, Post.ext x1 p1⟩
  · exact p1.elim
end
end Zed
end
section
set_option Elab.async false
set_option linter.all false
set_option maxRecDepth 100000
set_option maxHeartbeats 1000000
/-! ZedO: == and != of instances by an own __eq__. -/
namespace L2
open PySem PySem.Spec PyProof.Rows PySem.W
section
variable {prog : Program} {w : World} {A : Around} {E : Value → Shared → Prop} {s : Shared} {K : Frag} {x C f : Addr} {ox : Obj} {od : Option Obj} {b tb : Value}
theorem ifBound_ne {M : Model} {args : List Value} {Q : Option Value → Shared → Prop} (X : K.In s.heap) (I : InstAt s.heap x ox C od) (hs : findIn K (.ref C) "__ne__" = some (some (.builtin "object.__ne__")))
    (h : wpAny M A (call (.builtin "object.__ne__") (.ref x :: args)) (fun v => Q (some v)) E s) : wpAny M A (callSpecialIfBound? (.ref x) "__ne__" args) Q E s := by
  simp only [callSpecialIfBound?, bindSpecialIfBound?]
  refine wpAny_holding (wpAny_bind (wpAny_bind (wpAny_bind (I.type.here ((looks_findIn X hs).here ?_)))))
  simp only [PySem.F.cmp_object.ne.bind]
  refine wpAny_bind (wpAny_askSetting (wpAny_ite ?_))
  have fin : wpAny M A (call (.builtin "object.__ne__") ([.ref x] ++ args) >>= fun v => pure (some v)) Q E s :=
    wpAny_bind (wpAny_mono h (fun v s' h' => wpAny_pure h') fun _ _ h' => h')
  split
  · exact wpAny_bind (wpAny_pure (wpAny_pure fin))
  · exact wpAny_tryCatch (wpAny_bind (wpAny_pure (wpAny_pure fin)))
theorem check_ne {M : Model} {y : Value} {Q : Unit → Shared → Prop} (X : K.In s.heap) (I : InstAt s.heap x ox C od) (ho : subIn K (.ref C) (.type "object") = some true) (hq : Q () s) :
    wpAny M A (checkBuiltinCall "object.__ne__" ⟨[.ref x, y], []⟩) Q E s := by
  have ha := PySem.F.cmpArgs_ne (.ref x) y
  simp only [checkBuiltinCall, PySem.F.cmpKind_ne, PySem.F.cmpSplit_ne]
  refine wpAny_bind ?_
  unfold isInstance
  refine wpAny_bind (I.type.here ((looks_subIn X ho).here ?_))
  cases hsig : Manifest.signature? "object.__ne__" with
  | none => exact wpAny_pure hq
  | some sig =>
    simp only [argsOk, hsig] at ha
    have h2 : Bind.checkArgs "object.__ne__" sig ⟨[.ref x, y], []⟩ = pure () := ha
    show wpAny M A (Bind.checkArgs "object.__ne__" sig ⟨[.ref x, y], []⟩) Q E _
    rw [h2]; exact wpAny_pure hq
theorem neEntry {y : Value} {Q : Fin → Shared → Prop} (X : K.In s.heap) (I : InstAt s.heap x ox C od) (hu : A.units < cLine) (he : findIn K (.ref C) "__eq__" = some (some (.ref f))) (hf : isFn K (.ref f) = true)
    (hcall : wpAny (model prog w) A (call (.ref f) [.ref x, y]) (fun v s' => ∃ b, v = .bool b ∧ Q (.done (.ret (.bool (!b)))) s') E s) :
    wpAny (model prog w) A (Builtin.«object.__ne__» ⟨[.ref x, y], []⟩) Q E s := by
  unfold Builtin.«object.__ne__»
  repeat (first
    | with_reducible refine wpAny_cRoomFor hu ?_
    | (refine wpAny_bind (m := callSpecialIfBound? (.ref x) (Str.ofString "__eq__") [y])
        (ifBound_K X I he hf (wpAny_mono hcall (fun r s' hr => by
          obtain ⟨b, rfl, hq⟩ := hr
          repeat (first | exact hq | exact wpAny_pure hq | exact wpAny_truthy_bool hq | (refine wpAny_bind (m := truthy (.bool _)) (wpAny_truthy_bool ?_)) | wp_step)) fun _ _ e => e)))
    | wp_step)
theorem ne_K {y : Value} {Q : Value → Shared → Prop} (hu : A.units + 1 < cLine) (X : K.In s.heap) (I : InstAt s.heap x ox C od) (J : Looks (model prog w) s.heap (typeOf y) tb) (hnf : notFirst K C tb = true)
    (hn : findIn K (.ref C) "__ne__" = some (some (.builtin "object.__ne__"))) (ho : subIn K (.ref C) (.type "object") = some true) (he : findIn K (.ref C) "__eq__" = some (some (.ref f))) (hf : isFn K (.ref f) = true)
    (h : wpAny (model prog w) A.in1 (call (.ref f) [.ref x, y]) (fun v s' => ∃ b, v = .bool b ∧ Q (.bool (!b)) s') E s) : wpAny (model prog w) A (richCompare .NotEq (.ref x) y) Q E s := by
  have one : wpAny (model prog w) A (tryCompare (.ref x) "__ne__" y) (fun r s' => ∃ v, r = some v ∧ Q v s') E s := by
    simp only [tryCompare]
    refine wpAny_bind (ifBound_ne X I hn (wpAny_call (codeAny_call_builtin PySem.F.cmp_object.ne.plain PySem.F.cmpEntry_ne (check_ne X I ho (neEntry (A := A.in1) X I (by simp only [Around.in1]; omega) he hf (wpAny_mono h (fun v s' hv => ?_) fun _ _ e => e))))))
    obtain ⟨b, rfl, hq⟩ := hv
    first | exact ⟨b, rfl, wpAny_pure ⟨_, rfl, hq⟩⟩ | exact ⟨b, rfl, wpAny_pure (wpAny_pure ⟨_, rfl, hq⟩)⟩ | exact ⟨b, rfl, ⟨_, rfl, hq⟩⟩
  unfold richCompare
  simp only [oneThing_ref]
  refine wpAny_holding (wpAny_bind (wpAny_cRoomFor (Nat.lt_of_succ_lt hu) ?_))
  rw [cmpInfo_NotEq]
  dsimp only
  refine wpAny_bind (I.type.here (wpAny_bind (J.here ?_)))
  split
  · rename_i q
    have z : subIn K tb (.ref C) = some false := by
      unfold notFirst at hnf
      rw [Bool.or_eq_true] at hnf
      rcases hnf with z | z
      · rw [beq_iff_eq.mp z] at q; simp at q
      · exact beq_iff_eq.mp z
    refine wpAny_bind ((looks_subIn X z).here ?_)
    simp only [Bool.false_eq_true, if_false]
    refine wpAny_bind (wpAny_mono one (fun r s' z => ?_) fun _ _ e => e)
    obtain ⟨v, rfl, hq⟩ := z
    exact wpAny_pure hq
  · refine wpAny_bind (wpAny_pure ?_)
    simp only [Bool.false_eq_true, if_false]
    refine wpAny_bind (wpAny_mono one (fun r s' z => ?_) fun _ _ e => e)
    obtain ⟨v, rfl, hq⟩ := z
    exact wpAny_pure hq
end
end L2
namespace Zed
open PySem L2
section
variable {G : Gc} {S : Sg} {C : Orc} {k : Nat}
theorem pass_no' {X : Cx} : Passes (L2.CX X.prog X.w) X (fun _ _ _ => False) := fun pins σ H s e s' I hc => by
  obtain ⟨_, _, _, _, _, _, _, _, _, _, _, _, hc⟩ := hc
  exact hc.elim
/-- the callee runs at A, which lies below the running body -/
theorem run_fnA {X : Cx} {pins : List (Addr × Obj)} {σ : L2.St} {H : Hp} {s : Shared} {f : Addr} {fd : FuncData} {ps : List Str} {sp : Sp} {A : Around} {Q : VK} {us : List Value} {vs : List V} (F : FnOkZ false X.prog X.w X.K X.mg X.base (L2.CX X.prog X.w) k f fd ps sp) (hr : Room k A)
    (e0 : Env0 X.prog X.w X.K X.mg X.base A X.stack s H) (hb : Binds X.K fd ps []) (I : Inv X pins σ H s) (r : Vals vs us) (h : sp vs H Q (fun _ _ _ => False)) : wpAny (model X.prog X.w) A (call (.ref f) us) (EP X pins σ Q) X.xe s := by
  have hl : us.length = ps.length := by rw [← r.length]; exact F.len _ _ _ _ h
  have bnd := hb s us I.kIn (by simpa using hl)
  rw [List.append_nil] at bnd
  refine wpAny_call (codeAny_mono (F.run A X.stack s H ⟨us, []⟩ us vs Q (fun _ _ _ => False) (fun z => nomatch z) hr e0 bnd r h) fun r s' hq => ?_)
  cases r with
  | error e => exact pass_no' pins σ H s e s' I hq
  | ok fl =>
    cases fl with
    | ret u => exact I.after hq
    | next => exact False.elim hq
    | brk => exact False.elim hq
    | cont => exact False.elim hq
def rOeq (G : Gc) (C : Orc) (ne : Bool) : R2 := fun x y H Q => ∃ φ h d e, RelH G φ h H ∧ RepV G φ H d x ∧ RepV G φ H e y ∧ Post G φ H (oeqR C ne d e h) Q (fun _ _ _ => False)
/-- what the second one is: one of the class, a built-in's value -/
def OthZ (K : PySem.W.Frag) (H : Hp) (D : Addr) (y : V) : Prop := (∃ b dy ws, y = .ref b ∧ H b = some (.ins D dy ws)) ∨ ∃ t, TyX K H y (.type t) ∧ PySem.W.notFirst K D (.type t) = true
theorem OthZ.look {X : Cx} {pins : List (Addr × Obj)} {σ : L2.St} {H : Hp} {s : Shared} {D : Addr} {y : V} {u : Value} (o : OthZ X.K H D y) (I : Inv X pins σ H s) (ry : RelV y u) :
    ∃ tb, PySem.W.Looks (model X.prog X.w) s.heap (typeOf u) tb ∧ PySem.W.notFirst X.K D tb = true := by
  rcases o with ⟨b, dy, ws, rfl, hb⟩ | ⟨t, ty, nf⟩
  · cases (show u = Value.ref b from ry)
    obtain ⟨_, O', _⟩ := ins_get I.hok hb
    obtain ⟨od', J', _⟩ := O'.look
    exact ⟨.ref D, J'.type, by simp [PySem.W.notFirst]⟩
  · obtain ⟨P, kx, hp, _⟩ := kit_of I ry ty
    exact ⟨_, kx.ty _ _ I.kIn hp, nf⟩
/-- the instance, what its __eq__ answers -/
theorem oeq_core {X : Cx} {ne : Bool} {φ : List Addr} {h : PHeap} {H : Hp} {d e : PV} {x y : V} {Q : VK} (g : Glob S G C k X) (rh : RelH G φ h H) (r1 : RepV G φ H d x) (r2 : RepV G φ H e y) (p : Post G φ H (oeqR C ne d e h) Q (fun _ _ _ => False)) :
    ∃ (D a dx ga : Addr) (ws : List (Str × V)) (ps : List Str) (fd : FuncData) (f : Nat), x = .ref a ∧ OthZ X.K H D y ∧ H a = some (.ins D dx ws) ∧ PySem.W.findIn X.K (.ref D) "__eq__" = some (some (.ref ga)) ∧ PySem.W.isFn X.K (.ref ga) = true ∧
    PySem.W.findIn X.K (.ref D) "__ne__" = some (some (.builtin "object.__ne__")) ∧ PySem.W.subIn X.K (.ref D) (.type "object") = some true ∧ Binds X.K fd ps [] ∧ FnOkZ false X.prog X.w X.K X.mg X.base (L2.CX X.prog X.w) k ga fd ps (spF G (C.call f)) ∧
    spF G (C.call f) [x, y] H (fun v H' => ∃ r, v = .bl r ∧ Q (.bl (ne != r)) H') (fun _ _ _ => False) := by
  unfold oeqR at p
  split at p
  · rename_i c fs h1
    split at p
    · rename_i hz
      obtain ⟨sl, hy⟩ := hz
      split at p
      · rename_i f hf
        obtain ⟨ps, fd, D, ga, fdt, m0, m1, m2, m3, m4, m5, m8, m6, m7⟩ := g.eqs c f hf
        have sl' : G.isSl c = false := by rw [g.sl]; exact sl
        obtain ⟨a, D1, dx, ws, rfl, mD, ha, _⟩ := rep_insM rh r1 h1 sl'
        rw [g.mg, g.nm, m1] at mD
        cases mD
        have oth : OthZ X.K H D y := by
          unfold oeqY at hy
          split at hy
          · rename_i d' fs' h2
            obtain rfl : d' = c := by simpa using hy
            obtain ⟨b, D2, dy, ws', rfl, mD', hb, _⟩ := rep_insM rh r2 h2 sl'
            rw [g.mg, g.nm, m1] at mD'
            cases mD'
            exact .inl ⟨b, dy, ws', rfl, hb⟩
          · obtain ⟨t, ht⟩ := Option.isSome_iff_exists.mp hy
            have ty := ty_Z rh r2 ht
            rw [g.K] at ty
            exact .inr ⟨t, ty, m8 t (tyName_in ht)⟩
        refine ⟨D, a, dx, ga, ws, ps, fdt, f, rfl, oth, ha, m2, m3, m4, m5, m6, m7, φ, h, [d, e], rh, .cons r1 (.cons r2 .nil), ?_⟩
        split at p
        · rename_i r h3 hc
          rw [hc]
          intro φ' H' v x' rh' rv
          cases rv
          exact ⟨r, rfl, p φ' H' _ x' rh' (.bl _)⟩
        · exact p.elim
      · exact p.elim
    · exact p.elim
  · exact p.elim
theorem op_oeq {X : Cx} (g : Glob S G C k X) : OpR X (compareOp .Eq) (rOeq G C false) := by
  intro pins s σ H x y v u Q I rx ry ⟨φ, h, d, e, rh, r1, r2, p⟩
  obtain ⟨D, a, dx, ga, ws, ps, fd, f, rfl, oth, ha, q1, q2, q3, q4, q5, F, q⟩ := oeq_core g rh r1 r2 p
  cases (show v = Value.ref a from rx)
  obtain ⟨tb, lk, nf⟩ := oth.look I ry
  obtain ⟨_, O, _⟩ := ins_get I.hok ha
  obtain ⟨od, J, _⟩ := O.look
  obtain ⟨m, hF⟩ := I.fr
  refine PySem.W.cmp_K (op := .Eq) (tb := tb) g.room.units0 hF I.ok.mod.kin J lk nf q1 q2 ?_
  refine wpAny_mono (run_fnA (us := [.ref a, u]) (vs := [.ref a, y]) F (g.room.mono (Nat.le_succ _)) I.env0 q5 I (.cons rfl (.cons ry .nil)) q) (fun w s' z => ?_) fun _ _ x => x
  obtain ⟨z', H', I', rz, r, ez, qz⟩ := z
  subst ez
  cases (show w = Value.bool r from rz)
  exact ⟨.bl r, H', I', rfl, by simpa using qz⟩
theorem op_one {X : Cx} (g : Glob S G C k X) : OpR X (compareOp .NotEq) (rOeq G C true) := by
  intro pins s σ H x y v u Q I rx ry ⟨φ, h, d, e, rh, r1, r2, p⟩
  obtain ⟨D, a, dx, ga, ws, ps, fd, f, rfl, oth, ha, q1, q2, q3, q4, q5, F, q⟩ := oeq_core g rh r1 r2 p
  cases (show v = Value.ref a from rx)
  obtain ⟨tb, lk, nf⟩ := oth.look I ry
  obtain ⟨_, O, _⟩ := ins_get I.hok ha
  obtain ⟨od, J, _⟩ := O.look
  have hu := g.room.units
  refine ne_K (tb := tb) (by omega) I.kIn J lk nf q3 q4 q1 q2 ?_
  refine wpAny_mono (run_fnA (us := [.ref a, u]) (vs := [.ref a, y]) F (show Room (k + 1) X.A from g.room).in1 I.env0.in1 q5 I (.cons rfl (.cons ry .nil)) q) (fun w s' z => ?_) fun _ _ x => x
  obtain ⟨z', H', I', rz, r, ez, qz⟩ := z
  subst ez
  cases (show w = Value.bool r from rz)
  exact ⟨r, rfl, .bl (!r), H', I', rfl, by simpa using qz⟩
theorem tOeq_ev {W : WX} {ne : Bool} {a b : Ex} (σ : L2.St) (H : Hp) (Q : VK) (t : tEv G W (evE C (.oeq ne a b)) σ H Q) : tOp (rOeq G C ne) (tEv G W (evE C a)) (tEv G W (evE C b)) σ H Q := by
  obtain ⟨φ, l, h, rh, rl, p⟩ := t
  unfold evE at p
  refine ⟨φ, l, h, rh, rl, Post.mono (Post.bind p) fun v H1 ⟨φ1, h1, d1, x1, rh1, rv1, p1⟩ => ?_⟩
  refine ⟨φ1, l, h1, rh1, repL_ext rh x1 rl, Post.mono (Post.bind (Post.ext x1 p1)) fun u H2 ⟨φ2, h2, d2, x2, rh2, rv2, p2⟩ => ?_⟩
  refine ⟨φ2, h2, d1, d2, rh2, repV_ext rh1 x2 rv1, rv2, ?_⟩
  have p2 := Post.ext x2 p2
  revert p2
  cases e : oeqR C ne d1 d2 h2 with
  | ok d h3 => exact id
  | stuck => exact id
  | exc c fs h3 =>
    exfalso
    unfold oeqR at e
    split at e
    · split at e
      · split at e
        · split at e <;> cases e
        · cases e
      · cases e
    · cases e
theorem oeq_bl {ne : Bool} {a b : Ex} (l : Loc) (h : PHeap) (d : PV) (h' : PHeap) (e : evE C (.oeq ne a b) l h = .ok d h') : ∃ b, d = .bl b := by
  unfold evE at e
  cases e1 : evE C a l h with
  | ok x h1 =>
    rw [e1] at e
    simp only [R.bind_ok] at e
    cases e2 : evE C b l h1 with
    | ok y h2 =>
      rw [e2] at e
      simp only [R.bind_ok] at e
      unfold oeqR at e
      split at e
      · split at e
        · split at e
          · split at e
            · cases e; exact ⟨_, rfl⟩
            · cases e
          · cases e
        · cases e
      · cases e
    | exc => rw [e2] at e; cases e
    | stuck => rw [e2] at e; cases e
  | exc => rw [e1] at e; cases e
  | stuck => rw [e1] at e; cases e
end
end Zed
end
section
set_option Elab.async false
set_option linter.all false
set_option maxRecDepth 100000
set_option maxHeartbeats 1000000
/-! ZedI: properties; len, str, [] and in by an own class's defs; f-strings. -/
namespace L2
open PySem PySem.Spec PyProof.Rows PySem.W
section
variable {prog : Program} {w : World} {A : Around} {E : Value → Shared → Prop} {s : Shared} {K : Frag} {x C f : Addr} {ox : Obj} {od : Option Obj}
/-- y in x, x's class has a def for it that answers a truth value -/
theorem in_K {M : Model} {y : Value} {Q : Bool → Shared → Prop} (X : K.In s.heap) (I : InstAt s.heap x ox C od) (hs : findIn K (.ref C) "__contains__" = some (some (.ref f))) (hf : isFn K (.ref f) = true)
    (h : wpAny M A (call (.ref f) [.ref x, y]) (fun v s' => ∃ b, v = .bool b ∧ Q b s') E s) : wpAny M A (contains (.ref x) y) Q E s := by
  have hq : stdlibNamesSay? (.ref x) y = none := by unfold stdlibNamesSay?; rfl
  unfold contains
  refine wpAny_holding ?_
  rw [hq]
  refine wpAny_bind (wpAny_bind (I.type.here ((looks_findIn X hs).here ?_)))
  rw [if_neg (by simp)]
  unfold callSpecialUnlessNone?
  refine wpAny_bind (wpAny_bind (wpAny_bind (I.type.here ((looks_findIn X hs).here ?_))))
  refine wpAny_holding (wpAny_bind ((bind_fn X _ (beq_iff_eq.mp hf)).here ?_))
  dsimp only
  rw [if_neg (by simp)]
  refine wpAny_bind (wpAny_mono h (fun v s' z => ?_) fun _ _ z => z)
  obtain ⟨b, rfl, q⟩ := z
  exact wpAny_pure (wpAny_truthy_bool q)
end
end L2
namespace Zed
open PySem L2
section
variable {G : Gc} {S : Sg} {C : Orc} {k : Nat} {X : Cx}
/-! ### what a def must answer -/
theorem post_len {φ : List Addr} {H : Hp} {r : R PV} {Q : VK} {E : XK} (p : Post G φ H (lenR r) Q E) (E' : XK) : Post G φ H r (fun v H' => ∃ n : Int, v = .int n ∧ (0 ≤ n ∧ n < 2 ^ 63) ∧ Q (.int n) H') E' := by
  unfold lenR at p
  split at p
  · split at p
    · rename_i hn
      intro φ' H' v x rh rv
      cases rv
      exact ⟨_, rfl, hn, p φ' H' _ x rh (.int _)⟩
    · exact p.elim
  · exact p.elim
theorem post_str {φ : List Addr} {H : Hp} {r : R PV} {Q : VK} {E : XK} (p : Post G φ H (strR r) Q E) (E' : XK) : Post G φ H r (fun v H' => ∃ y : Str, v = .str y ∧ Q (.str y) H') E' := by
  unfold strR at p
  split at p
  · intro φ' H' v x rh rv
    cases rv
    exact ⟨_, rfl, p φ' H' _ x rh (.str _)⟩
  · exact p.elim
theorem post_bl {φ : List Addr} {H : Hp} {r : R PV} {Q : VK} {E : XK} (p : Post G φ H (blR r) Q E) (E' : XK) : Post G φ H r (fun v H' => ∃ b : Bool, v = .bl b ∧ Q (.bl b) H') E' := by
  unfold blR at p
  split at p
  · intro φ' H' v x rh rv
    cases rv
    exact ⟨_, rfl, p φ' H' _ x rh (.bl _)⟩
  · exact p.elim
/-! ### properties -/
def tPrpZ (X : Cx) (f : Str) (sp : Nat → Sp) (n : Nat) (ta : TE) : TE := fun σ H Q => ta σ H fun x H1 => ∃ (a D dx : Addr) (fs : List (Str × V)) (g : Nat) (p ga : Addr) (ps : List Str) (fd : FuncData), x = .ref a ∧ H1 a = some (.ins D dx fs) ∧
  Cls X.K D ∧ PropOf X.K D f p ga ∧ Binds X.K fd ps [] ∧ FnOkZ false X.prog X.w X.K X.mg X.base (L2.CX X.prog X.w) n ga fd ps (sp g) ∧ sp g [.ref a] H1 Q (fun _ _ _ => False)
theorem pe_prpZ {f : Str} {sp : Nat → Sp} {n : Nat} {o : Expr} {pos : Pos} {ta : TE} (he : PE X o ta) (hr : Room (n + 1) X.A) (hab : attributeBase o f X.env (eval o X.env) = eval o X.env) :
    PE X (.Attribute o f pos) (tPrpZ X f sp n ta) := by
  refine ⟨fun pins s σ H Q I h => ?_⟩
  refine attr_of hab (thn (he.run pins s σ H _ I h) fun u s1 ⟨x, H1, I1, rx, a, D, dx, fs, g, p, ga, ps, fd, ex, ea, c, hp, hb, F, q⟩ => ?_)
  subst ex
  obtain rfl : u = Value.ref a := rx
  exact getprop_ok (dvs := []) (ds := []) (E := fun _ _ _ => False) I1 ea c hp (F.fnOk rfl) hr hb .nil (fun pins σ H s e s' I hc => by
    obtain ⟨_, _, _, _, _, _, _, _, _, _, _, _, hc⟩ := hc
    exact hc.elim) q
theorem tPrp_ev {W : WX} {f : Nat} {o : Ex} (g : Glob S G C k X) (σ : L2.St) (H : Hp) (Q : VK) (t : tEv G W (evE C (.prp f o)) σ H Q) :
    tPrpZ X (S.nm f) (fun f => spF G (C.call f)) k (tEv G W (evE C o)) σ H Q := by
  obtain ⟨φ, l, h, rh, rl, p⟩ := t
  unfold evE at p
  refine ⟨φ, l, h, rh, rl, Post.mono (Post.bind p) fun v H1 ⟨φ1, h1, d1, x1, rh1, rv1, p1⟩ => ?_⟩
  split at p1
  · rename_i gn hf
    unfold prpF at hf
    split at hf
    · rename_i c fs ho
      split at hf
      · rename_i sl
        obtain ⟨ps, fd, D, pp, a, fdt, m0, m1, m2, m3, m4, m5⟩ := g.prs c f gn hf
        obtain ⟨a', D', dx, ws, rfl, mD, ha, w⟩ := rep_insM rh1 rv1 ho (by rw [g.sl]; exact sl)
        rw [g.mg, g.nm, m1] at mD; cases mD
        refine ⟨a', D, dx, ws, gn, pp, a, ps, fdt, rfl, ha, m2, m3, m4, m5, φ1, h1, [d1], rh1, .cons rv1 .nil, ?_⟩
        have p1 := Post.ext x1 p1
        unfold okR at p1
        split at p1
        · rename_i hc
          rw [hc]; exact p1
        · exact p1.elim
      · cases hf
    · cases hf
  · exact p1.elim
/-! ### len, str -/
/-- the instance, its def -/
theorem mth_at {m : Nat} {φ : List Addr} {h : PHeap} {H : Hp} {x : PV} {v : V} {f : Nat} (g : Glob S G C k X) (rh : RelH G φ h H) (rv : RepV G φ H x v) (e : mthF C.ct h x m = some f) :
    ∃ (a D dx : Addr) (fs : List (Str × V)) (ga : Addr) (ps : List Str) (fd : FuncData), v = .ref a ∧ H a = some (.ins D dx fs) ∧ Meth X.K D (S.nm m) ga ∧ PySem.W.fnIn X.K ga = true ∧ Binds X.K fd ps [] ∧ FnOkZ false X.prog X.w X.K X.mg X.base (L2.CX X.prog X.w) k ga fd ps (spF G (C.call f)) := by
  unfold mthF at e
  split at e
  · rename_i c fs ho
    split at e
    · rename_i sl
      obtain ⟨ps, fd, D, a, fdt, m0, m1, m2, m3, m4, m5, m6⟩ := g.mts c m f e
      obtain ⟨a', D', dx, ws, rfl, mD, ha, w⟩ := rep_insM rh rv ho (by rw [g.sl]; exact sl)
      rw [g.mg, g.nm, m1] at mD; cases mD
      exact ⟨a', D, dx, ws, a, ps, fdt, rfl, ha, m3, g.mfn c m f D a e m1 m3, m5, m6⟩
    · cases e
  · cases e
theorem room2 {A : Around} (r : Room (k + 1) A) : Room k A.in1.in1 :=
  ⟨r.hd, by have := r.dp; show A.depth + 3 * k + 5 < _; omega, by have := r.un; show A.units + 1 + 1 + 16 * k + 200 < _; omega⟩
def rLen (G : Gc) (C : Orc) (m : Nat) : List V → Hp → VK → Prop := fun vs H Q => ∃ φ h d v f, vs = [v] ∧ RelH G φ h H ∧ RepV G φ H d v ∧ mthF C.ct h d m = some f ∧ Post G φ H (lenR (C.call f [d] h)) Q (fun _ _ _ => False)
def rStr (G : Gc) (C : Orc) (m : Nat) : List V → Hp → VK → Prop := fun vs H Q => ∃ φ h d v f, vs = [v] ∧ RelH G φ h H ∧ RepV G φ H d v ∧ mthF C.ct h d m = some f ∧ Post G φ H (strR (C.call f [d] h)) Q (fun _ _ _ => False)
theorem call_lenO {m : Nat} (g : Glob S G C k X) (hm : S.nm m = "__len__") : CallR X (.builtin "len") (rLen G C m) := by
  intro pins s σ H xs us Q I rx ⟨φ, h, d, v, f, ev, rh, rv, hf, p⟩
  subst ev
  obtain ⟨a, D, dx, fs, ga, ps, fd, rfl, ha, M, hfn, hb, F⟩ := mth_at g rh rv hf
  rw [Vals.ref1 rx]
  rw [hm] at M
  obtain ⟨_, O, _⟩ := ins_get I.hok ha
  obtain ⟨od, J, _⟩ := O.look
  obtain ⟨m', hF⟩ := I.fr
  refine PySem.W.len_K hF I.ok.mod.kin J M.at_ M.fn ?_
  refine wpAny_mono (run_fnA (us := [.ref a]) (vs := [.ref a]) F (show Room (k + 1) X.A from g.room).in1 I.env0.in1 hb I (.cons rfl .nil) ⟨φ, h, [d], rh, .cons rv .nil, post_len p _⟩) (fun w s' z => ?_) fun _ _ x => x
  obtain ⟨z', H', I', rz, n, ez, hn, qz⟩ := z
  subst ez
  obtain ⟨t, rfl⟩ : ∃ t, w = Value.int n t := rz
  exact ⟨hn, .int n, H', I'.tok _, ⟨_, rfl⟩, qz⟩
theorem call_strO {m : Nat} (g : Glob S G C k X) (hm : S.nm m = "__str__") : CallR X (.type "str") (rStr G C m) := by
  intro pins s σ H xs us Q I rx ⟨φ, h, d, v, f, ev, rh, rv, hf, p⟩
  subst ev
  obtain ⟨a, D, dx, fs, ga, ps, fd, rfl, ha, M, hfn, hb, F⟩ := mth_at g rh rv hf
  rw [Vals.ref1 rx]
  rw [hm] at M
  obtain ⟨_, O, _⟩ := ins_get I.hok ha
  obtain ⟨od, J, _⟩ := O.look
  have hu := g.room.un
  refine PySem.W.kso_call (by show X.A.units + 1 + 1 < _; omega) I.kIn J M.at_ M.fn ?_
  refine wpAny_mono (run_fnA (us := [.ref a]) (vs := [.ref a]) F (room2 g.room) I.env0.in1.in1 hb I (.cons rfl .nil) ⟨φ, h, [d], rh, .cons rv .nil, post_str p _⟩) (fun w s' z => ?_) fun _ _ x => x
  obtain ⟨z', H', I', rz, y, ez, qz⟩ := z
  subst ez
  obtain ⟨t, rfl⟩ : ∃ t, w = Value.str y t := rz
  exact ⟨.str y, H', I', ⟨_, rfl⟩, qz⟩
theorem evA_one {o : Ex} (l : Loc) (h : PHeap) : evA C (.cons o .nil) l h = (evE C o l h).bind fun x h1 => .ok [x] h1 := by
  simp only [evA, evCons, evNil, R.bind_ok]
/-- one argument, a reading of it -/
theorem one_ev {W : WX} {o : Ex} {F : PV → PHeap → R PV} {r : List V → Hp → VK → Prop} (σ : L2.St) (H : Hp) (Q : VK) (t : tEv G W (fun l h => (evE C o l h).bind F) σ H Q)
    (k : ∀ φ h H d v, RelH G φ h H → RepV G φ H d v → Post G φ H (F d h) Q (fun c d H' => W c d σ H') → r [v] H Q) : tCB r (tEvA G W (evA C (.cons o .nil))) σ H Q := by
  obtain ⟨φ, l, h, rh, rl, p⟩ := t
  refine ⟨φ, l, h, rh, rl, ?_⟩
  rw [evA_one]
  have p : Post G φ H ((evE C o l h).bind F) Q (fun c d H' => W c d σ H') := p
  cases e : evE C o l h with
  | ok d h1 =>
    rw [e] at p
    simp only [R.bind_ok] at p ⊢
    intro φ' H' vs x rh' rv
    cases rv with
    | cons a b =>
      cases b
      exact k φ' h1 H' d _ rh' a (Post.ext x p)
  | exc c fs h1 => rw [e] at p; exact p
  | stuck => rw [e] at p; exact p
theorem lenR_E {r : R PV} {φ : List Addr} {H : Hp} {Q : VK} {E E' : XK} (p : Post G φ H (lenR r) Q E) : Post G φ H (lenR r) Q E' := by
  unfold lenR at p ⊢
  split at p
  · split at p
    · rename_i z; rw [if_pos z]; exact p
    · exact p.elim
  · exact p.elim
theorem strR_E {r : R PV} {φ : List Addr} {H : Hp} {Q : VK} {E E' : XK} (p : Post G φ H (strR r) Q E) : Post G φ H (strR r) Q E' := by
  unfold strR at p ⊢
  split at p
  · exact p
  · exact p.elim
theorem blR_E {r : R PV} {φ : List Addr} {H : Hp} {Q : VK} {E E' : XK} (p : Post G φ H (blR r) Q E) : Post G φ H (blR r) Q E' := by
  unfold blR at p ⊢
  split at p
  · exact p
  · exact p.elim
theorem tDln_ev {W : WX} {m : Nat} {o : Ex} (σ : L2.St) (H : Hp) (Q : VK) (t : tEv G W (evE C (.dln m o)) σ H Q) : tCB (rLen G C m) (tEvA G W (evA C (.cons o .nil))) σ H Q := by
  have e : evE C (.dln m o) = fun l h => (evE C o l h).bind fun x h1 => match mthF C.ct h1 x m with
    | some f => lenR (C.call f [x] h1)
    | none => .stuck := by funext l h; first | (simp only [evE]; done) | (simp only [evE]; rfl)
  rw [e] at t
  refine one_ev σ H Q t fun φ h H d v rh rv p => ?_
  split at p
  · rename_i f hf
    exact ⟨φ, h, d, v, f, rfl, rh, rv, hf, lenR_E p⟩
  · exact p.elim
theorem tDst_ev {W : WX} {m : Nat} {o : Ex} (σ : L2.St) (H : Hp) (Q : VK) (t : tEv G W (evE C (.dst m o)) σ H Q) : tCB (rStr G C m) (tEvA G W (evA C (.cons o .nil))) σ H Q := by
  have e : evE C (.dst m o) = fun l h => (evE C o l h).bind fun x h1 => match mthF C.ct h1 x m with
    | some f => strR (C.call f [x] h1)
    | none => .stuck := by funext l h; first | (simp only [evE]; done) | (simp only [evE]; rfl)
  rw [e] at t
  refine one_ev σ H Q t fun φ h H d v rh rv p => ?_
  split at p
  · rename_i f hf
    exact ⟨φ, h, d, v, f, rfl, rh, rv, hf, strR_E p⟩
  · exact p.elim
/-! ### a def is run, however it ends -/
theorem run_codeA {A' : Around} {pins : List (Addr × Obj)} {σ : L2.St} {H : Hp} {s : Shared} {f : Addr} {fd : FuncData} {ps : List Str} {sp : Sp} {E : XK} {Q : VK} {us : List Value} {vs : List V} (F : FnOkZ false X.prog X.w X.K X.mg X.base (L2.CX X.prog X.w) k f fd ps sp) (hr : Room k A')
    (e0 : Env0 X.prog X.w X.K X.mg X.base A' X.stack s H) (hb : Binds X.K fd ps []) (hx : PassesAt (L2.CX X.prog X.w) X σ E) (I : Inv X pins σ H s) (r : Vals vs us) (q : sp vs H Q E) :
    codeAny (model X.prog X.w) A' (.call (.ref f) ⟨us, []⟩) (fun r s' => match r with | .ok (.ret v) => EP X pins σ Q v s' | .ok _ => False | .error e => X.xe e s') s := by
  have len : us.length = ps.length := r.length.symm.trans (F.len _ _ _ _ q)
  have bnd : BindsTo s fd ⟨us, []⟩ (ps.zip us) := by
    have z := hb s us I.kIn (by simpa using len)
    rwa [List.append_nil] at z
  refine codeAny_mono (F.run A' X.stack s H ⟨us, []⟩ us vs Q E (fun z => nomatch z) hr e0 bnd r q) ?_
  rintro (e | fl) s' z
  · exact hx pins H s e s' I z
  · match fl, z with
    | .ret u, z => exact I.after z
/-! ### [], in -/
def rGt (G : Gc) (C : Orc) (m : Nat) (E : XK) : R2 := fun x y H Q => ∃ φ h d e f, RelH G φ h H ∧ RepV G φ H d x ∧ RepV G φ H e y ∧ mthF C.ct h d m = some f ∧ Post G φ H (C.call f [d, e] h) Q E
def rIn (G : Gc) (C : Orc) (m : Nat) : R2 := fun y x H Q => ∃ φ h d e f, RelH G φ h H ∧ RepV G φ H d x ∧ RepV G φ H e y ∧ mthF C.ct h d m = some f ∧ Post G φ H (blR (C.call f [d, e] h)) Q (fun _ _ _ => False)
theorem okR_post {r : R PV} {φ : List Addr} {H : Hp} {Q : VK} {E E' : XK} (p : Post G φ H (okR r) Q E) : Post G φ H r Q E' := by
  unfold okR at p
  split at p
  · exact p
  · exact p.elim
theorem okR_E {r : R PV} {φ : List Addr} {H : Hp} {Q : VK} {E E' : XK} (p : Post G φ H (okR r) Q E) : Post G φ H (okR r) Q E' := by
  unfold okR at p ⊢
  split at p
  · exact p
  · exact p.elim
theorem noSlice_own {i : Expr} (h : noSlice i = true) (v u : Value) : subscripted i true v u = runValue (.builtin "lifetime.subscript" ⟨[v, u], []⟩) := by
  cases i <;> first | rfl | (cases h)
open PySem.Spec PyProof.Rows in
theorem pe_ixO {W : WX} {m : Nat} {a b : Expr} {ta tb : TE} {pos : Pos} (g : Glob S G C k X) (tk : Takes X W) (hm : S.nm m = "__getitem__") (ha : PE X a ta) (hb : PE X b tb) (hn : noSlice b = true) : PE X (.Subscript a b pos) (fun σ => tOp (rGt G C m (WE W σ)) ta tb σ) := by
  refine ⟨fun pins s σ H Q I h => Subscript_ (binT ha hb I h fun v u s2 x y H2 I2 rx ry q => ?_)⟩
  obtain ⟨φ, h, d, e, f, rh, rv, re, hf, p⟩ := q
  obtain ⟨a, D, dx, fs, ga, ps, fd, rfl, ha, M, hfn, hb, F⟩ := mth_at g rh rv hf
  cases (show v = Value.ref a from rx)
  rw [hm] at M
  obtain ⟨_, O, _⟩ := ins_get I2.hok ha
  obtain ⟨od, J, _⟩ := O.look
  obtain ⟨m', hF⟩ := I2.fr
  refine PySem.W.sub_K hF I2.ok.mod.kin J M.at_ hfn M.fn ?_ (noSlice_own hn _ _)
  refine wpAny_call (codeAny_mono (run_codeA (us := [.ref a, u]) (vs := [.ref a, y]) F (show Room (k + 1) X.A from g.room).in1 I2.env0.in1 hb (passAt tk σ) I2 (.cons rfl (.cons ry .nil)) ⟨φ, h, [d, e], rh, .cons rv (.cons re .nil), p⟩) fun r s' z => ?_)
  rcases r with e | fl
  · exact z
  · cases fl <;> first | exact z.elim | exact z
theorem op_inO {m : Nat} (g : Glob S G C k X) (hm : S.nm m = "__contains__") : OpR X (compareOp .In) (rIn G C m) := by
  intro pins s σ H y x v u Q I ry rx ⟨φ, h, d, e, f, rh, rv, re, hf, p⟩
  obtain ⟨a, D, dx, fs, ga, ps, fd, rfl, ha, M, hfn, hb, F⟩ := mth_at g rh rv hf
  cases (show u = Value.ref a from rx)
  rw [hm] at M
  obtain ⟨_, O, _⟩ := ins_get I.hok ha
  obtain ⟨od, J, _⟩ := O.look
  unfold compareOp
  refine wpAny_bind (in_K I.kIn J M.at_ M.fn ?_)
  refine wpAny_mono (run_fnA (us := [.ref a, v]) (vs := [.ref a, y]) F (g.room.mono (Nat.le_succ _)) I.env0 hb I (.cons rfl (.cons ry .nil)) ⟨φ, h, [d, e], rh, .cons rv (.cons re .nil), post_bl p _⟩) (fun w s' z => ?_) fun _ _ x => x
  obtain ⟨z', H', I', rz, b, ez, qz⟩ := z
  subst ez
  cases (show w = Value.bool b from rz)
  exact ⟨b, rfl, wpAny_pure ⟨.bl b, H', I', rfl, qz⟩⟩
/-- two operands, a reading of them -/
theorem two_ev {W : WX} {a b : Ex} {F : PV → PV → PHeap → R PV} {r : R2} (σ : L2.St) (H : Hp) (Q : VK) (t : tEv G W (fun l h => (evE C a l h).bind fun x h1 => (evE C b l h1).bind fun y h2 => F x y h2) σ H Q)
    (k : ∀ φ h H d e v w, RelH G φ h H → RepV G φ H d v → RepV G φ H e w → Post G φ H (F d e h) Q (fun c d H' => W c d σ H') → r v w H Q) : tOp r (tEv G W (evE C a)) (tEv G W (evE C b)) σ H Q := by
  obtain ⟨φ, l, h, rh, rl, p⟩ := t
  refine ⟨φ, l, h, rh, rl, Post.mono (Post.bind p) fun v H1 ⟨φ1, h1, d1, x1, rh1, rv1, p1⟩ => ?_⟩
  refine ⟨φ1, l, h1, rh1, repL_ext rh x1 rl, Post.mono (Post.bind (Post.ext x1 p1)) fun u H2 ⟨φ2, h2, d2, x2, rh2, rv2, p2⟩ => ?_⟩
  exact k φ2 h2 H2 d1 d2 _ _ rh2 (repV_ext rh1 x2 rv1) rv2 (Post.ext x2 p2)
theorem tDgt_ev {W : WX} {m : Nat} {o i : Ex} (σ : L2.St) (H : Hp) (Q : VK) (t : tEv G W (evE C (.dgt m o i)) σ H Q) : tOp (rGt G C m (WE W σ)) (tEv G W (evE C o)) (tEv G W (evE C i)) σ H Q := by
  have e : evE C (.dgt m o i) = fun l h => (evE C o l h).bind fun x h1 => (evE C i l h1).bind fun y h2 => match mthF C.ct h2 x m with
    | some f => C.call f [x, y] h2
    | none => .stuck := by funext l h; first | (simp only [evE]; done) | (simp only [evE]; rfl)
  rw [e] at t
  refine two_ev σ H Q t fun φ h H d e v w rh rv rw' p => ?_
  split at p
  · rename_i f hf
    exact ⟨φ, h, d, e, f, rh, rv, rw', hf, p⟩
  · exact p.elim
theorem tDin_ev {W : WX} {m : Nat} {i o : Ex} (σ : L2.St) (H : Hp) (Q : VK) (t : tEv G W (evE C (.din m i o)) σ H Q) : tOp (rIn G C m) (tEv G W (evE C i)) (tEv G W (evE C o)) σ H Q := by
  have e : evE C (.din m i o) = fun l h => (evE C i l h).bind fun y h1 => (evE C o l h1).bind fun x h2 => match mthF C.ct h2 x m with
    | some f => blR (C.call f [x, y] h2)
    | none => .stuck := by funext l h; first | (simp only [evE]; done) | (simp only [evE]; rfl)
  rw [e] at t
  refine two_ev σ H Q t fun φ h H d e v w rh rv rw' p => ?_
  split at p
  · rename_i f hf
    exact ⟨φ, h, e, d, f, rh, rw', rv, hf, blR_E p⟩
  · exact p.elim
theorem din_bl {m : Nat} {i o : Ex} (l : Loc) (h : PHeap) (d : PV) (h' : PHeap) (e : evE C (.din m i o) l h = .ok d h') : ∃ b, d = .bl b := by
  unfold evE at e
  cases e1 : evE C i l h with
  | ok x h1 =>
    rw [e1] at e
    simp only [R.bind_ok] at e
    cases e2 : evE C o l h1 with
    | ok y h2 =>
      rw [e2] at e
      simp only [R.bind_ok] at e
      split at e
      · unfold blR at e
        split at e
        · cases e; exact ⟨_, rfl⟩
        · cases e
      · cases e
    | exc => rw [e2] at e; cases e
    | stuck => rw [e2] at e; cases e
  | exc => rw [e1] at e; cases e
  | stuck => rw [e1] at e; cases e
/-! ### f-strings -/
theorem fmt_rep {φ : List Addr} {H : Hp} {d : PV} {v : V} {y : Str} (rv : RepV G φ H d v) (e : fmtP d = some y) : (v = .str y ∧ y.length ≤ sizeLine) ∨ ∃ i : Int, v = .int i ∧ i.natAbs.log2 < 1920 ∧ y = (toString i : String) := by
  unfold fmtP at e
  split at e
  · split at e
    · rename_i hz
      cases e; cases rv
      exact .inl ⟨rfl, hz⟩
    · cases e
  · split at e
    · rename_i hz
      cases e; cases rv
      exact .inr ⟨_, rfl, hz, rfl⟩
    · cases e
  · cases e
/-- the parts' readings -/
def ftE (G : Gc) (W : WX) (C : Orc) : Exs → List TE
  | .nil => []
  | .cons e r => tFmt (tEv G W (evE C e)) :: ftE G W C r
  | .star _ r => ftE G W C r
theorem joinR_bind {W : WX} {e : Ex} {r : Exs} {l : Loc} {h : PHeap} {acc : Str} : joinR (evA C (.cons e r) l h) acc = match evE C e l h with
    | .ok d h1 => (match fmtP d with
      | some y => if (acc ++ y).length ≤ sizeLine then joinR (evA C r l h1) (acc ++ y) else .stuck
      | none => .stuck)
    | _ => .stuck := by
  have e0 : evA C (.cons e r) l h = evCons (evE C e) (evA C r) l h := by simp only [evA]
  rw [e0]
  unfold evCons
  cases evE C e l h with
  | ok d h1 =>
    simp only [R.bind_ok]
    cases evA C r l h1 with
    | ok ds h2 =>
      simp only [R.bind_ok, joinR, joinP]
      cases fmtP d with
      | none => rfl
      | some y =>
        simp only
        by_cases z : (acc ++ y).length ≤ sizeLine
        · simp only [if_pos z]
        · simp only [if_neg z]
    | exc c fs h2 =>
      simp only [R.bind_exc, joinR]
      cases fmtP d with
      | none => rfl
      | some y => simp only; split <;> rfl
    | stuck =>
      simp only [R.bind_stuck, joinR]
      cases fmtP d with
      | none => rfl
      | some y => simp only; split <;> rfl
  | exc c fs h2 => simp only [R.bind_exc, joinR]
  | stuck => simp only [R.bind_stuck, joinR]
theorem tFst_ev {W : WX} : ∀ (es : Exs) (acc : Str) (φ : List Addr) (l : Loc) (h : PHeap) (σ : L2.St) (H : Hp) (Q : VK) (E : XK), plainX es = true → RelH G φ h H → RepL G φ H l σ → Post G φ H (joinR (evA C es l h) acc) Q E → tJs (ftE G W C es) acc σ H fun out H1 => Q (.str out) H1
  | .nil, acc, φ, l, h, σ, H, Q, E, _, rh, rl, p => by
    have e0 : evA C .nil l h = .ok [] h := by simp only [evA]
    rw [e0] at p
    exact p φ H _ .refl rh (.str _)
  | .star _ _, acc, φ, l, h, σ, H, Q, E, z, rh, rl, p => by cases z
  | .cons e r, acc, φ, l, h, σ, H, Q, E, z, rh, rl, p => by
    rw [joinR_bind (W := W)] at p
    show tFmt (tEv G W (evE C e)) σ H _
    refine ⟨φ, l, h, rh, rl, ?_⟩
    cases e1 : evE C e l h with
    | ok d h1 =>
      rw [e1] at p
      simp only at p
      cases e2 : fmtP d with
      | none => rw [e2] at p; exact p.elim
      | some y =>
        rw [e2] at p
        simp only at p
        split at p
        · rename_i hz
          intro φ' H' v x rh' rv
          have ih := tFst_ev (W := W) r (acc ++ y) φ' l h1 σ H' Q E z rh' (repL_ext rh x rl) (Post.ext x p)
          rcases fmt_rep rv e2 with ⟨rfl, hl⟩ | ⟨i, rfl, hl, rfl⟩
          · exact .inl ⟨y, rfl, hl, y, rfl, hz, ih⟩
          · exact .inr ⟨i, rfl, hl, _, rfl, hz, ih⟩
        · exact p.elim
    | exc c fs h1 => rw [e1] at p; exact p.elim
    | stuck => rw [e1] at p; exact p.elim
theorem con_fmt {W : WX} {e : Expr} {y : Str} (h : PE X e (tEv G W (evE C (.con (.str y))))) : PE X e (tFmt (tEv G W (evE C (.con (.str y))))) := by
  refine pe_imp h fun σ H Q ⟨φ, l, h, rh, rl, p⟩ => ⟨φ, l, h, rh, rl, ?_⟩
  unfold evE at p ⊢
  intro φ' H' v x rh' rv
  rcases p φ' H' v x rh' rv with ⟨z, rfl, _, q⟩ | ⟨i, rfl, _⟩
  · exact q
  · cases rv
/-! ### methods of texts -/
def tmId : TxM → String
  | .join => "str.join" | .startswith => "str.startswith" | .removeprefix => "str.removeprefix"
def rTm (G : Gc) (k : TxM) : V → List V → Hp → VK → Prop := fun x xs H Q => ∃ φ h a d v z h', x = .str a ∧ xs = [v] ∧ RelH G φ h H ∧ RepV G φ H d v ∧ tmF k a d h = some (z, h') ∧ ∀ φ' H' u, Ext φ H φ' H' → RelH G φ' h' H' → RepV G φ' H' z u → Q u H'
theorem mt_tmZ (hK : G.K = X.K) : ∀ k : TxM, MtR X (tmId k) (rTm G k)
  | .join => fun pins s σ H x xs v us Q I rx rxs ⟨φ, h, a, d, w, z, h', ex, exs, rh, rd, e, q⟩ => by
    subst ex; subst exs
    unfold tmF at e
    simp only at e
    split at e
    · rename_i ds e1
      split at e
      · rename_i ys e2
        split at e
        · rename_i hz
          obtain ⟨rfl, rfl⟩ := some2 e
          obtain ⟨p, vs, rfl, sq, rv⟩ := rep_lst rh rd e1
          rw [strsP_ok e2] at rv
          have := repVs_strs rv
          subst this
          exact mt_join pins s σ H _ _ v us Q I rx rxs ⟨a, p, ys, rfl, rfl, .inl (hK ▸ sq), hz, q φ H _ .refl rh (.str _)⟩
        · cases e
      · cases e
    · cases e
  | .startswith => fun pins s σ H x xs v us Q I rx rxs ⟨φ, h, a, d, w, z, h', ex, exs, rh, rd, e, q⟩ => by
    subst ex; subst exs
    unfold tmF at e
    simp only at e
    split at e
    · obtain ⟨rfl, rfl⟩ := some2 e
      cases rd
      exact mt_startswith pins s σ H _ _ v us Q I rx rxs ⟨a, _, rfl, rfl, q φ H _ .refl rh (.bl _)⟩
    · cases e
  | .removeprefix => fun pins s σ H x xs v us Q I rx rxs ⟨φ, h, a, d, w, z, h', ex, exs, rh, rd, e, q⟩ => by
    subst ex; subst exs
    unfold tmF at e
    simp only at e
    split at e
    · split at e
      · rename_i hz
        obtain ⟨rfl, rfl⟩ := some2 e
        cases rd
        exact mt_removeprefix pins s σ H _ _ v us Q I rx rxs ⟨a, _, rfl, rfl, hz, q φ H _ .refl rh (.str _)⟩
      · cases e
    · cases e
theorem tTm_ev {W : WX} {k : TxM} {o b : Ex} (σ : L2.St) (H : Hp) (Q : VK) (t : tEv G W (evE C (.tm k o b)) σ H Q) : tM1 (rTm G k) (tEv G W (evE C o)) (tEv G W (evE C b)) σ H Q := by
  obtain ⟨φ, l, h, rh, rl, p⟩ := t
  unfold evE at p
  refine ⟨φ, l, h, rh, rl, Post.mono (Post.bind p) fun v H1 ⟨φ1, h1, d1, x1, rh1, rv1, p1⟩ => ?_⟩
  split at p1
  · rename_i a
    cases rv1
    refine ⟨⟨a, rfl⟩, φ1, l, h1, rh1, repL_ext rh x1 rl, Post.mono (Post.bind (Post.ext x1 p1)) fun u H2 ⟨φ2, h2, d2, x2, rh2, rv2, p2⟩ => ?_⟩
    obtain ⟨z, h', e, q⟩ := Post.lift (Post.ext x2 p2)
    exact ⟨φ2, h2, a, d2, u, z, h', rfl, rfl, rh2, rv2, e, q⟩
  · exact p1.elim
end
end Zed
end
section
set_option Elab.async false
set_option linter.all false
set_option maxRecDepth 100000
set_option maxHeartbeats 1000000
/-! ZedJ: a set of texts, made by a comprehension. -/
namespace Zed
open PySem L2 PySem.Spec PyProof.Rows
open PpSet (eval_SetComp newSet_ok compLoopS_any codeAny_compStart_set)
section
variable {X : Cx}
theorem addT_ok {pins : List (Addr × Obj)} {σ : L2.St} {H : Hp} {s : Shared} {E : Value → Shared → Prop} {D : Addr} {ks : List Str} {k : Str} {tk : Tok} {Q : Value → Shared → Prop} (I : Inv X pins σ H s) (hD : H D = some (TxO X.w D ks)) (room : ks.length + 1 < scanBound)
    (h : ∀ s' ks', ks'.Perm (if k ∈ ks then ks else ks ++ [k]) → Inv X pins σ (upd H D (TxO X.w D ks')) s' → Q .none s') : wpAny (model X.prog X.w) X.A (call (.builtin "set.add") [.ref D, .str k tk]) Q E s := by
  have R := txO_get I (.inl hD)
  obtain ⟨o, es, ep, t, ho, hx, hd, T⟩ := id R
  have ty : s.TypeIs (.ref D) "set" := ⟨o, ho, hx.1⟩
  refine wpAny_call_entry F.slot_set_add ty F.entry_set_add ?_ (F.args_set_add_2 _ _)
  unfold Builtin.«set.add»
  unfold Builtin.Frozenset.oneOther
  simp only [List.isEmpty_nil, bind_assoc]
  unfold Builtin.Frozenset.addrOf
  unfold setAdd
  repeat (refine wpAny_bind (wpAny_pure ?_); try dsimp only)
  refine wpAny_bind (wpAny_holding (wpAny_bind ((strKind X.prog X.w).pyHash (strKind_is _ _ k tk) ?_)))
  refine tx_add (s := { s with toks := s.toks + 1 }) R room fun h' ks' sb new pm => ?_
  refine wpAny_pure ⟨_, rfl, ?_⟩
  have ex : ∃ u, h'.get? D = some u := by
    obtain ⟨o, _, _, _, q, _⟩ := new
    exact ⟨o, q⟩
  exact h _ ks' pm (I.write (e := D) (t' := s.toks + 1) (by rw [hD]; trivial) (.inl rfl) (fun b u hb hu => (sb.2 b hb).trans hu) ex (txO_new new))
/-- the reading: the iterable's, the target's, the element's -/
def tSt (w : World) (wi : TI) (g : TG) (te : TE) (vs : List Nat) : TE := fun σ H Q => wi σ H fun J H1 => ∀ D, H1 D = none →
  ∃ W : Nat → Nat → Hp → Prop, (∃ m, W 0 m (upd H1 D (TxO w D []))) ∧ ∀ i m H, W i m H → (J.stop i H ∧ Q (.ref D) H) ∨
    (J.go i H ∧ ∃ Nx : Hp → Prop, (∀ H', Nx H' → ∃ m', m' < m ∧ W (i + 1) m' H') ∧ ∀ x H', J.yld i H x H' → g x (wipe σ vs) H' fun σ2 H2 => wipe σ2 vs = wipe σ vs ∧
      te σ2 H2 fun y H4 => ∃ (k : Str) (ks : List Str), y = .str k ∧ H4 D = some (TxO w D ks) ∧ ks.length + 1 < scanBound ∧ ∀ ks', ks'.Perm (if k ∈ ks then ks else ks ++ [k]) → Nx (upd H4 D (TxO w D ks')))
theorem fresh_set {w : World} {P : Program} {H : Hp} {h : Heap} : ObjOk P w H (h.push (newS w)) h.objs.size (TxO w h.objs.size []) := txO_new (tx_fresh (Heap.get?_push_size _ rfl))
/-- the turns, in the comprehension's own context B -/
theorem st_loop {elt tg iter : Expr} {scope : Scope} {pos : Pos} {g : TG} {te : TE} {vs : List Nat} {σ : L2.St} {s3 s4 : Shared} {H3 : Hp} {ce : Env} {fp : List Addr} {D it : Addr} {tn : Nat → Heap → Prop} {J : It} {W : Nat → Nat → Hp → Prop} {m0 : Nat} {QD : Hp → Prop} {R : Result → Shared → Prop}
    (calm : X.calm = true) (T : Turn X.prog X.w X.K tg J fp it tn) (runG : PG (X.blk s3 H3 scope ce fp) tg g) (runE : PE (X.blk s3 H3 scope ce fp) elt te)
    (turn : ∀ i m H, W i m H → (J.stop i H ∧ QD H) ∨ (J.go i H ∧ ∃ Nx : Hp → Prop, (∀ H', Nx H' → ∃ m', m' < m ∧ W (i + 1) m' H') ∧ ∀ x H', J.yld i H x H' → g x (wipe σ vs) H' fun σ2 H2 => wipe σ2 vs = wipe σ vs ∧
      te σ2 H2 fun y H4 => ∃ (k : Str) (ks : List Str), y = .str k ∧ H4 D = some (TxO X.w D ks) ∧ ks.length + 1 < scanBound ∧ ∀ ks', ks'.Perm (if k ∈ ks then ks else ks ++ [k]) → Nx (upd H4 D (TxO X.w D ks'))))
    (I4 : Inv (X.blk s3 H3 scope ce fp) [] (wipe σ vs) H3 s4) (at4 : tn 0 s4.heap) (n4 : ∀ b ∈ fp, H3 b = none) (w0 : W 0 m0 H3)
    (fin : ∀ s6 H5, Inv (X.blk s3 H3 scope ce fp) [] (wipe σ vs) H5 s6 → QD H5 → R (.ok .next) s6) :
    codeAny (model X.prog X.w) X.A (.compLoop (.SetComp elt [⟨tg, iter, [], 0⟩] scope pos) 0 (.ref it) (.ref D) ce) R s4 := by
  have out : ∀ {τ : L2.St} {K : Hp} {s' : Shared}, Inv (X.blk s3 H3 scope ce fp) [] τ K s' → (∀ b ∈ fp, K b = none) → ∀ b ∈ fp, FpOk (X.blk s3 H3 scope ce fp) [] K b := fun J' no b hb =>
    let e := J'.ok.exf b hb
    ⟨no b hb, e.1, J'.ok.exfs b hb, .inl hb, fun x c => e.2 x c, fun p hp => by simp at hp⟩
  refine compLoopS_any (fun n s' => ∃ i K, Inv (X.blk s3 H3 scope ce fp) [] (wipe σ vs) K s' ∧ tn i s'.heap ∧ (∀ b ∈ fp, K b = none) ∧ W i n K) (fun n s5 inv => ?_) m0 ⟨0, H3, I4, at4, n4, w0⟩
  obtain ⟨i, H5, I5, at5, n5, w5⟩ := inv
  rcases turn i n H5 w5 with ⟨stop, qd⟩ | ⟨go, Nx, less, step⟩
  · refine thnF (T.done (X.blk s3 H3 scope ce fp) rfl rfl rfl calm i [] s5 _ H5 (fun _ _ => False) I5 (out I5 n5) at5 stop) fun r s6 z => ?_
    obtain ⟨rfl, I6⟩ := z
    exact fin s6 H5 I6 qd
  · refine thnF (T.item (X.blk s3 H3 scope ce fp) rfl rfl rfl calm i [] s5 _ H5 (fun _ _ => False) I5 (out I5 n5) at5 go) fun r s6 z => ?_
    obtain ⟨u, rfl, h6⟩ := z
    refine thnF h6 fun _ s7 z => ?_
    obtain ⟨x, H7, I7, rx, yl, at7, n7⟩ := z
    have I7p := I7.pinned (out I7 n7) (T.obj _ _ at7)
    refine thnF (runG.run _ s7 _ H7 x u _ I7p rx (step x H7 yl)) fun _ s8 z => ?_
    obtain ⟨σ8, H8, I8, ew, q8⟩ := z
    refine thnF ((pts_nil (X := X.blk s3 H3 scope ce fp)).run _ s8 σ8 H8 (fun b K => b = true ∧ K = H8) I8 ⟨rfl, rfl⟩) fun b s9 z => ?_
    obtain ⟨K, I9, rfl, rfl⟩ := z
    rw [if_pos rfl]
    refine thnF (runE.run _ s9 σ8 K _ I9 q8) fun v s10 z => ?_
    obtain ⟨y, H10, I10, ry, k, ks, rfl, hD, few, nx⟩ := z
    obtain ⟨tk, rfl⟩ : ∃ tk, v = Value.str k tk := ry
    refine addT_ok (X := X.blk s3 H3 scope ce fp) I10 hD few fun s11 ks' pm I11 => ?_
    obtain ⟨m', lt, w'⟩ := less _ (nx ks' pm)
    have held : ∀ b ∈ fp, ∀ o, s7.heap.get? b = some o → s11.heap.get? b = some o ∧ upd H10 D (TxO X.w D ks') b = none := fun b hb o e =>
      let p := I11.pin (b, o) (List.mem_append_right _ (List.mem_append_right _ (mem_pinsAt hb e)))
      ⟨p.1, p.2.1⟩
    refine ⟨m', lt, i + 1, _, (I11.unpinned (pins := [])).weak (by rw [← ew, wipe_length]) (fun j v e => ?_), T.keep _ _ _ at7 fun b hb o e => (held b hb o e).1, fun b hb => ?_, w'⟩
    · rw [← ew] at e
      exact (wipe_some e).1
    · obtain ⟨o, e, _⟩ := T.obj _ _ at7 b hb
      exact (held b hb o e).2
theorem pe_st {elt tg iter : Expr} {scope : Scope} {own : List (Str × Nat)} {pos : Pos} {wi : TI} {g : TG} {te : TE} (calm : X.calm = true) (nd : X.N.Nodup) (src : PI X tg iter wi) (blk : BlkOk X.N X.env.scope scope own)
    (tgt : ∀ (s : Shared) (H : Hp) (C : Addr) (cl : List (Str × Addr)) (fp : List Addr), PG (X.blk s H scope (compEnvC scope cl C X.env) fp) tg g)
    (el : ∀ (s : Shared) (H : Hp) (C : Addr) (cl : List (Str × Addr)) (fp : List Addr), PE (X.blk s H scope (compEnvC scope cl C X.env) fp) elt te) (fold : ∀ x, foldedSetIterable iter X.env x = pure x) :
    PE X (.SetComp elt [⟨tg, iter, [], 0⟩] scope pos) (tSt X.w wi g te (own.map (·.2))) := by
  refine ⟨fun pins s σ H Q I h => ?_⟩
  rw [eval_SetComp]
  have free : ∀ y ∈ scope.names, y.2 = .free → ∃ c, X.env.cells.lookup y.1 = some c := fun y hy e =>
    I.ok.has _ (blk.free y hy e)
  refine wpAny_comprehension_free (use := none) rfl fold (closure_ok free) blk.kind (fun y hy e => by rw [blk.uniq y hy, e]) (thn (src.run pins s σ H _ I h) fun _ s1 run => thn run fun _ s2 begun => ?_)
  obtain ⟨it, fp, st, J, H2, rfl, I2, T, at0, fpOk, q⟩ := begun
  refine newSet_ok (newEnv_comp ?_)
  obtain ⟨W, ⟨m0, w0⟩, turn⟩ := q s2.heap.objs.size (I2.hok.fresh (Nat.le_refl _))
  -- behind the new set
  have small : ∀ b ∈ fp, b < s2.heap.objs.size := fun b hb => let ⟨_, e, _⟩ := T.obj _ _ at0 b hb; Heap.lt_size e
  have I3 : Inv X pins σ (upd H2 s2.heap.objs.size (TxO X.w s2.heap.objs.size [])) { s2 with heap := s2.heap.push (newS X.w) } := I2.laid (t' := s2.toks) (fun b o e => Heap.get?_push_of_some _ e) (Nat.le_refl _) fresh_set
  have at1 : st 0 (s2.heap.push (newS X.w)) := T.keep _ _ _ at0 fun b _ o e => Heap.get?_push_of_some _ e
  have size1 : (s2.heap.push (newS X.w)).objs.size = s2.heap.objs.size + 1 := Heap.size_push ..
  generalize eD : s2.heap.objs.size = D at *
  have fp1 : ∀ b ∈ fp, FpOk X pins (upd H2 D (TxO X.w D [])) b ∧ b < (s2.heap.push (newS X.w)).objs.size := fun b hb =>
    have lt := small b hb
    ⟨⟨by rw [upd_ne (Nat.ne_of_lt lt)]; exact (fpOk b hb).1, (fpOk b hb).2⟩, by rw [size1]; exact Nat.lt_succ_of_lt lt⟩
  generalize eH : upd H2 D (TxO X.w D []) = H3 at I3 w0 fp1
  generalize eS : ({ s2 with heap := s2.heap.push (newS X.w) } : Shared) = s3 at I3
  have h3 : s3.heap = s2.heap.push (newS X.w) := by rw [← eS]
  rw [← h3] at at1 fp1 size1
  have I4 := block_start I3 blk nd fp1
  have runG := tgt s3 H3 s3.heap.objs.size (cellsFrom (s3.heap.objs.size + 1) scope.names (cloFrom X.env.cells scope.names [])) fp
  have runE := el s3 H3 s3.heap.objs.size (cellsFrom (s3.heap.objs.size + 1) scope.names (cloFrom X.env.cells scope.names [])) fp
  have at4 : st 0 (pushCells (s3.heap.push { cls := Value.type "dict", data := Data.dict #[] }) scope.names) := T.keep _ _ _ at1 fun b _ o e => pushCells_keeps _ _ _ _ (Heap.get?_push_of_some _ e)
  show codeAny _ _ (.compStart (.SetComp elt [⟨tg, iter, [], 0⟩] scope pos) 0 (.ref it) (.ref D) (compEnvC scope (cellsFrom (s3.heap.objs.size + 1) scope.names (cloFrom X.env.cells scope.names [])) s3.heap.objs.size X.env)) (compPost (model X.prog X.w) X.A X.xe none (EP X pins σ Q) (.ref D) s3.heap.objs.size) _
  have cl : (compEnvC scope (cellsFrom (s3.heap.objs.size + 1) scope.names (cloFrom X.env.cells scope.names [])) s3.heap.objs.size X.env).locals = s3.heap.objs.size := rfl
  generalize compEnvC scope (cellsFrom (s3.heap.objs.size + 1) scope.names (cloFrom X.env.cells scope.names [])) s3.heap.objs.size X.env = ce at *
  have loop := st_loop (elt := elt) (iter := iter) (pos := pos) (R := compPost (model X.prog X.w) X.A X.xe none (EP X pins σ Q) (.ref D) s3.heap.objs.size) calm T runG runE turn I4 at4 (fun b hb => (fp1 b hb).1.1) w0 fun s6 H5 I6 qd => ?_
  · exact codeAny_compStart_set loop (T.self X.A 0 _ _ _ at4 loop)
  · have I7 : Inv X pins σ H5 s6 := I3.call' (ch := fp) I6.os I6.base I6.hok I6.bare fun b hb => let z := (fp1 b hb).1.2; ⟨z.2.2.1, z.1, z.2.2.2.1, z.2.2.2.2⟩
    have gone : H5 s3.heap.objs.size = none := by
      have z : H5 ce.locals = none := I6.free
      rw [cl] at z; exact z
    obtain ⟨m, hn, _⟩ := I6.loc
    have hn : s6.heap.Ns ce.locals m := hn
    rw [cl] at hn
    obtain ⟨f0, f1, f2, f3, f4, f5⟩ := I3.fpOk (Nat.le_refl _) gone
    exact ⟨m, hn, fun h'' sb => ⟨.ref D, H5, I7.turned (t' := s6.toks) (fun b o hb e => (sb.2 b hb).trans e) f0 f1 f3 f4 f5, rfl, qd⟩⟩
/-! ### the reading by the interpreter -/
variable {G : Gc} {W : WX} {C : Orc}
theorem strsP_pre : ∀ {xs ds : List PV} {ss : List Str}, xs <+: ds → strsP ds = some ss → ∃ ts, strsP xs = some ts ∧ ts <+: ss
  | [], _, ss, _, _ => ⟨[], rfl, List.nil_prefix⟩
  | x :: xs, ds, ss, ⟨r, e⟩, h => by
    subst e
    rw [List.cons_append] at h
    cases x <;> simp only [strsP] at h <;> first | (cases h; done) | skip
    rename_i y
    obtain ⟨ys, e1, e2⟩ := omap h
    obtain ⟨ts, a, b⟩ := strsP_pre (List.prefix_append xs r) e1
    refine ⟨y :: ts, ?_, ?_⟩
    · simp only [strsP]; rw [a]; rfl
    · rw [← e2]
      exact List.cons_prefix_cons.mpr ⟨rfl, b⟩
theorem strsP_snoc : ∀ {xs : List PV} {y : PV} {ss : List Str}, strsP (xs ++ [y]) = some ss → ∃ k ts, y = .str k ∧ strsP xs = some ts ∧ ss = ts ++ [k]
  | [], y, ss, h => by
    rw [List.nil_append] at h
    cases y <;> simp only [strsP] at h <;> first | (cases h; done) | skip
    cases h
    exact ⟨_, [], rfl, rfl, rfl⟩
  | x :: xs, y, ss, h => by
    rw [List.cons_append] at h
    cases x <;> simp only [strsP] at h <;> first | (cases h; done) | skip
    rename_i z
    obtain ⟨ys, e1, e2⟩ := omap h
    obtain ⟨k, ts, a, b, c⟩ := strsP_snoc e1
    refine ⟨k, z :: ts, a, ?_, ?_⟩
    · simp only [strsP]; rw [b]; rfl
    · rw [← e2, c]; rfl
theorem lc_pre {tg : Tg} {src : Src} {tt : Loc → PHeap → R Bool} {el : Loc → PHeap → R PV} {lw : Loc} : ∀ (n i : Nat) (acc : List PV) (h : PHeap) (ds : List PV) (h2 : PHeap), lcLoop tg src tt el lw n i acc h = .ok ds h2 → acc <+: ds
  | 0, i, acc, h, ds, h2, e => by simp [lcLoop] at e
  | n + 1, i, acc, h, ds, h2, e => by
    unfold lcLoop at e
    split at e
    · cases e
    · cases e; exact List.prefix_refl _
    · split at e
      · cases e
      · split at e
        · exact lc_pre n _ _ _ _ _ e
        · split at e
          · split at e
            · exact (List.prefix_append acc _).trans (lc_pre n _ _ _ _ _ e)
            · cases e
          · cases e
        · cases e
theorem lc_noexc {tg : Tg} {src : Src} {tt : Loc → PHeap → R Bool} {el : Loc → PHeap → R PV} {lw : Loc} {c : PV} {fs : List (Nat × PV)} {h' : PHeap} : ∀ (n i : Nat) (acc : List PV) (h : PHeap), lcLoop tg src tt el lw n i acc h ≠ .exc c fs h'
  | 0, i, acc, h => by simp [lcLoop]
  | n + 1, i, acc, h => fun e => by
    unfold lcLoop at e
    split at e
    · cases e
    · cases e
    · split at e
      · cases e
      · split at e
        · exact lc_noexc n _ _ _ e
        · split at e
          · split at e
            · exact lc_noexc n _ _ _ e
            · cases e
          · cases e
        · cases e
theorem wipe_get {σ : L2.St} {i : Nat} : ∀ (vs : List Nat), i ∉ vs → (wipe σ vs)[i]? = σ[i]?
  | [], _ => rfl
  | v :: vs, h => by
    rw [List.mem_cons, not_or] at h
    show ((wipe σ vs).set v none)[i]? = _
    rw [List.getElem?_set_ne (fun q => h.1 q.symm)]
    exact wipe_get vs h.2
theorem tSc_ev {tg : Tg} {fi : Loc → PHeap → R Src} {el : Loc → PHeap → R PV} {own : List Nat} (hs : ∀ i, i ∈ slotsT tg → i ∈ own) (σ : L2.St) (H : Hp) (Q : VK)
    (t : tEv G W (fun l h => (fi l h).bind fun src h1 => (lcLoop tg src (fun _ h => R.ok true h) el (wipeP l own) (srcLen h1 src + 1) 0 [] h1).bind fun ds h2 => liftP (setTP ds h2)) σ H Q) :
    tSt G.w (iEv G W fi) (gEv G tg) (tEv G W0 el) own σ H (zQ true Q) := by
  obtain ⟨φ, l, h, rh, rl, p⟩ := t
  refine ⟨φ, l, h, rh, rl, ?_⟩
  have p : Post G φ H ((fi l h).bind fun src h1 => (lcLoop tg src (fun _ h => R.ok true h) el (wipeP l own) (srcLen h1 src + 1) 0 [] h1).bind fun ds h2 => liftP (setTP ds h2)) Q (fun c d H' => W c d σ H') := p
  cases e0 : fi l h with
  | exc c fs h' => rw [e0] at p; exact p
  | stuck => rw [e0] at p; exact p
  | ok src h1 =>
    rw [e0] at p
    simp only [R.bind_ok] at p
    intro φ1 H1 J x1 rh1 hj D hD
    cases e1 : lcLoop tg src (fun _ h => R.ok true h) el (wipeP l own) (srcLen h1 src + 1) 0 [] h1 with
    | stuck => rw [e1] at p; exact p.elim
    | exc c fs h' => exact absurd e1 (lc_noexc _ _ _ _)
    | ok ds h2 =>
      rw [e1] at p
      simp only [R.bind_ok] at p
      cases e2 : strsP ds with
      | none => unfold setTP at p; rw [e2] at p; exact p.elim
      | some ss =>
        unfold setTP at p
        rw [e2] at p
        simp only at p
        split at p
        · rename_i h64
          refine ⟨fun i m H' => ∃ φ' h' accP ts ks, Ext φ1 H1 φ' H' ∧ RelH G φ' h' H' ∧ D ∉ φ' ∧ H' D = some (TxO G.w D ks) ∧ strsP accP = some ts ∧ ks.Perm (dedS ts) ∧ lcLoop tg src (fun _ h => R.ok true h) el (wipeP l own) m i accP h' = .ok ds h2,
            ⟨srcLen h1 src + 1, φ1, h1, [], [], [], ext_tup hD, rh1.tup hD, rh1.free hD, upd_same, rfl, .refl _, e1⟩, ?_⟩
          rintro i m H2 ⟨φ2, h', accP, ts, ks, x2, rh2, nD, eD, es1, pm, ev⟩
          cases m with
          | zero => simp [lcLoop] at ev
          | succ m =>
            have pre := lc_pre _ _ _ _ _ _ ev
            unfold lcLoop at ev
            have J2 := hj φ2 h' H2 x2 rh2 i
            cases es : srcAt h' i src with
            | none => rw [es] at ev; cases ev
            | some so =>
              rw [es] at ev
              cases so with
              | none =>
                simp only [R.ok.injEq] at ev
                obtain ⟨rfl, rfl⟩ := ev
                rw [es1] at e2
                cases e2
                refine .inl ⟨J2.1 es, D, _, rfl, eD, trivial, fun od => ?_⟩
                refine p φ2 _ (.ref D) (x1.trans ⟨x2.pre, x2.new, fun a o ea na no => ?_, fun a o ea na => ?_⟩) (rh2.outT eD nD) (.fset rfl upd_same pm (Nat.lt_of_le_of_lt (dedS_len _) h64))
                · rw [upd_ne (ne_of_none ea hD)]; exact x2.keep a o ea na no
                · rw [upd_ne (ne_of_none ea hD)]; exact x2.own a o ea na
              | some d =>
                refine .inr ⟨(J2.2 d es).1, _, fun H' hn => ⟨m, Nat.lt_succ_self _, hn⟩, fun x H3 hy => ?_⟩
                obtain ⟨x3, rh3, rx⟩ := (J2.2 d es).2 x H3 hy
                have eD3 : H3 D = some (TxO G.w D ks) := x3.keep D _ eD nD trivial
                simp only at ev
                cases eb : bindT tg d (wipeP l own) with
                | none => rw [eb] at ev; cases ev
                | some l1 =>
                  rw [eb] at ev
                  simp only at ev
                  have rlw : RepL G φ2 H3 (wipeP l own) (wipe σ own) := repL_ext rh2 x3 (repL_ext rh1 x2 (repL_ext rh x1 (repL_wipe rl own)))
                  refine ⟨φ2, h', wipeP l own, d, l1, rh3, rlw, rx, eb, fun σ2 rl2 u2 => ⟨?_, φ2, l1, h', rh3, rl2, ?_⟩⟩
                  · have := wipe_upd u2 hs
                    rw [this]
                    exact wipe_upd (is := own) ⟨by rw [wipe_length], fun i hi => wipe_get own hi⟩ (fun i hi => hi)
                  · cases ee : el l1 h' with
                    | stuck => rw [ee] at ev; cases ev
                    | exc c fs h'' => rw [ee] at ev; cases ev
                    | ok y h4 =>
                      rw [ee] at ev
                      simp only at ev
                      intro φ5 H5 v x5 rh5 rv5
                      split at ev
                      · have pr2 := lc_pre _ _ _ _ _ _ ev
                        obtain ⟨ts2, a1, a2⟩ := strsP_pre pr2 e2
                        obtain ⟨k, ts', rfl, b1, rfl⟩ := strsP_snoc a1
                        rw [es1] at b1
                        cases b1
                        have nD5 : D ∉ φ5 := fun hm => x5.new D hm nD _ eD3 fun _ z => nomatch z
                        have eD5 : H5 D = some (TxO G.w D ks) := x5.keep D _ eD3 nD trivial
                        cases rv5
                        have few : ks.length + 1 < scanBound := by
                          have l1 := pm.length_eq
                          have l2 := dedS_len ts
                          have l3 := a2.length_le
                          rw [List.length_append] at l3
                          have l4 : scanBound = 4096 := rfl
                          omega
                        refine ⟨k, ks, rfl, eD5, few, fun ks' pk => ?_⟩
                        have x15 : Ext φ1 H1 φ5 H5 := x2.trans (x3.trans x5)
                        refine ⟨φ5, h4, accP ++ [.str k], ts ++ [k], ks', ⟨x15.pre, x15.new, fun a o ea na no => ?_, fun a o ea na => ?_⟩, rh5.outT eD5 nD5, nD5, upd_same, a1, ?_, ev⟩
                        · rw [upd_ne (ne_of_none ea hD)]
                          exact x15.keep a o ea na no
                        · rw [upd_ne (ne_of_none ea hD)]
                          exact x15.own a o ea na
                        · rw [dedS_snoc]
                          exact pk.trans (stepD_perm pm)
                      · cases ev
        · exact p.elim
end
end Zed
end
section
set_option Elab.async false
set_option linter.all false
set_option maxRecDepth 100000
set_option maxHeartbeats 1000000
/-! ZedR: classmethods; cls(..). -/
namespace Zed
open PySem L2 ClX
section
variable {G : Gc} {S : Sg} {C : Orc} {k : Nat}
theorem run_codeZ {X : Cx} {pins : List (Addr × Obj)} {σ : L2.St} {H : Hp} {s : Shared} {g : Addr} {fd : FuncData} {ps : List Str} {sp : Sp} {E : L2.St → XK} {Q : VK} {us : List Value} {vs : List V} (F : FnOkZ false X.prog X.w X.K X.mg X.base (L2.CX X.prog X.w) k g fd ps sp) (hr : Room k X.A) (hb : Binds X.K fd ps [])
    (hx : ∀ σ, PassesAt (L2.CX X.prog X.w) X σ (E σ)) (I : Inv X pins σ H s) (r : Vals vs us) (h : sp vs H Q (E σ)) :
    codeAny (model X.prog X.w) X.A (.call (.ref g) ⟨us, []⟩) (fun r s' => match r with | .ok (.ret v) => EP X pins σ Q v s' | .ok _ => False | .error e => X.xe e s') s := by
  have hl : us.length = ps.length := by rw [← r.length]; exact F.len _ _ _ _ h
  have bnd := hb s us I.kIn (by simpa using hl)
  rw [List.append_nil] at bnd
  refine codeAny_mono (F.run X.A X.stack s H ⟨us, []⟩ us vs Q (E σ) (fun z => nomatch z) hr I.env0 bnd r h) fun r s' hq => ?_
  cases r with
  | error e => exact hx σ pins H s e s' I hq
  | ok fl =>
    cases fl with
    | ret u => exact I.after hq
    | next => exact False.elim hq
    | brk => exact False.elim hq
    | cont => exact False.elim hq
theorem run_cmZ {X : Cx} {pins : List (Addr × Obj)} {σ : L2.St} {H : Hp} {s : Shared} {g D q : Addr} {fd : FuncData} {ps : List Str} {sp : Sp} {E : L2.St → XK} {Q : VK} {us : List Value} {vs : List V} (F : FnOkZ false X.prog X.w X.K X.mg X.base (L2.CX X.prog X.w) k g fd ps sp) (hr : Room k X.A) (hb : Binds X.K fd ps [])
    (hx : ∀ σ, PassesAt (L2.CX X.prog X.w) X σ (E σ)) (I : Inv X ((q, PySem.W.methodObj (.ref g) (.ref D)) :: pins) σ H s) (r : Vals vs us) (h : sp (.ref D :: vs) H Q (E σ)) : wpAny (model X.prog X.w) X.A (call (.ref q) us) (EP X pins σ Q) X.xe s := by
  have z : wpAny (model X.prog X.w) X.A (call (.ref q) us) (EP X ((q, PySem.W.methodObj (.ref g) (.ref D)) :: pins) σ Q) X.xe s :=
    wpAny_call (PySem.W.method_call (pin_at I) (run_codeZ (us := .ref D :: us) (vs := .ref D :: vs) F hr hb hx I (.cons rfl r) h))
  exact thn z fun _ _ y => unpinE y
def tCmtZ (D : Addr) (sp : Sp) (E : L2.St → XK) (t : TA) : TE := fun σ H Q => t σ H fun vs H2 => sp (.ref D :: vs) H2 Q (E σ)
open PySem.Spec PyProof.Rows in
theorem pe_cmtZ {X : Cx} {D p g : Addr} {mc : Value} {m y : Str} {fd : FuncData} {ps : List Str} {sp : Sp} {E : L2.St → XK} {e : Expr} {es : List Expr} {q apos pos : Pos} {t : TA} (hg : Gl X y) (hm : X.mg y = some (.ref D)) (hdb : (y == ("__debug__" : Str)) = false) (r : CRead X.K D mc) (c : CMet X.K D mc m p g)
    (F : FnOkZ false X.prog X.w X.K X.mg X.base (L2.CX X.prog X.w) k g fd ps sp) (hb : Binds X.K fd ps []) (hr : Room k X.A) (hx : ∀ σ, PassesAt (L2.CX X.prog X.w) X σ (E σ)) (ha : PA X (e :: es) t)
    (hbase : attributeBase (.Name y q) m X.env (eval (.Name y q) X.env) = eval (.Name y q) X.env)
    (hfew : ((backTo pos (starEach (e :: es) X.env)).all (fun x => !x.1) && (backToKw pos (keywordEach [] X.env)).all (fun x => x.1.isSome)
      && decide ((e :: es).length + ([] : List Keyword).length + (if ([] : List Keyword).isEmpty then 0 else 1) < 30)) = true)
    (hline : (apos.endLine == pos.line) = true) (hst : starEach (e :: es) X.env = (false, eval e X.env) :: starEach es X.env) (hpl : (backTo pos (starEach es X.env)).any (·.1) = false) :
    PE X (.Call (.Attribute (.Name y q) m apos) (e :: es) [] pos) (tCmtZ D sp E t) := by
  refine ⟨fun pins s σ H Q I h => ?_⟩
  have hn : PE X (.Name y q) (tC (.ref D)) := pe_glob (v := .ref D) hg hm rfl hdb
  refine callM hbase hfew hline (thn (hn.run pins s σ H (fun v H1 => v = .ref D ∧ H1 = H) I ⟨rfl, rfl⟩) fun u s1 ⟨x, H1, I1, rx, ex, eh⟩ => fun pl => ?_)
  subst ex; subst eh
  obtain rfl : u = Value.ref D := rx
  refine getmethcm_ok I1 r c fun s2 I2 => ?_
  refine callwith_cm I2 (base_none I1 (Nat.le_refl _)) c.fi (thn (ha.run pos _ s2 σ H1 _ I2 h) fun us s3 ⟨vs, H2, I3, rv, q2⟩ => ⟨⟨pin_at I3, I3.kIn⟩, ?_⟩) hst hpl
  exact run_cmZ F hr hb hx I3 rv q2
theorem tCmt_ev {W : WX} {c m f : Nat} {es : Exs} {D : Addr} (hc : C.ct.cmt c m = some f) (mD : G.mg (G.nm c) = some (.ref D)) (σ : L2.St) (H : Hp) (Q : VK) (t : tEv G W (evE C (.cmt c m es)) σ H Q) : tCmtZ D (spF G (C.call f)) (WE W) (tEvA G W (evA C es)) σ H Q := by
  obtain ⟨φ, l, h, rh, rl, p⟩ := t
  unfold evE at p
  rw [hc] at p
  refine ⟨φ, l, h, rh, rl, PostA.mono (PostA.bind p) fun vs H1 ⟨φ1, h1, ds, x1, rh1, rv1, p1⟩ => ?_⟩
  exact ⟨φ1, h1, .gl c :: ds, rh1, .cons (.gl mD) rv1, Post.ext x1 p1⟩
/-! ### C(..), its __init__ may raise -/
theorem run_makeZ {X : Cx} {pins : List (Addr × Obj)} {σ : L2.St} {H : Hp} {s : Shared} {D f : Addr} {fd : FuncData} {ps : List Str} {sp : Sp} {E : XK} {Q : VK} {us : List Value} {vs : List V} (M : Mk X.K D f) (F : FnOkZ false X.prog X.w X.K X.mg X.base (L2.CX X.prog X.w) k f fd ps sp) (hr : Room (k + 1) X.A)
    (hb : Binds X.K fd ps []) (hx : PassesAt (L2.CX X.prog X.w) X σ E) (I : Inv X pins σ H s) (r : Vals vs us)
    (q : ∀ x dx, H x = none → H dx = none → dx ≠ x → sp (.ref x :: (vs ++ [])) (upd (upd H dx (.own x)) x (.ins D dx [])) (fun v H2 => v = .non ∧ Q (.ref x) H2) E) : wpAny (model X.prog X.w) X.A (call (.ref D) us) (EP X pins σ Q) X.xe s := by
  obtain ⟨n, hn⟩ : ∃ n, n = s.heap.objs.size := ⟨_, rfl⟩
  have q0 := q (s.heap.objs.size + 1) s.heap.objs.size (I.hok.fresh (Nat.le_succ _)) (I.hok.fresh (Nat.le_refl _)) (Nat.ne_of_lt (Nat.lt_succ_self _))
  rw [List.append_nil] at q0
  have J := Inv.made (C := D) I
  have go := run_codeA (us := Value.ref (s.heap.objs.size + 1) :: us) (vs := V.ref (s.heap.objs.size + 1) :: vs) F (hr.make D us []) (J.env0.make D us []) hb hx J (.cons rfl r) q0
  refine wpAny_call (make_map (f := f) I.kIn M.makes M.init (beq_iff_eq.mp M.fn) (codeAny_mono go ?_))
  rintro (e | fl) s' z
  · exact z
  · cases fl with
    | ret u =>
      obtain ⟨v, H', J', rv, ev, z⟩ := z
      subst ev
      exact ⟨rv, V.ref (s.heap.objs.size + 1), H', J', rfl, z⟩
    | next => exact z.elim
    | brk => exact z.elim
    | cont => exact z.elim
open PySem.Spec PyProof.Rows in
theorem pe_makeZ {X : Cx} {W : WX} {D f : Addr} {x : Str} {fd : FuncData} {ps : List Str} {sp : Sp} {e : Expr} {es : List Expr} {p pos : Pos} {t : TA} (tk : Takes X W) (M : Mk X.K D f) (F : FnOkZ false X.prog X.w X.K X.mg X.base (L2.CX X.prog X.w) k f fd ps sp) (hr : Room (k + 1) X.A) (hg : Gl X x) (hm : X.mg x = some (.ref D))
    (hb : Binds X.K fd ps []) (ha : PA X (e :: es) t) (hdb : (x == ("__debug__" : Str)) = false)
    (h1 : starEach (e :: es) X.env = (false, eval e X.env) :: starEach es X.env) (h2 : (backTo pos (starEach es X.env)).any (·.1) = false) : PE X (.Call (.Name x p) (e :: es) [] pos) (fun σ => tMake D sp [] (WE W σ) t σ) := by
  constructor
  intro pins s σ H Q I q
  refine wpAny_Call_Name_kw (ld_glob I hg hm ?_ hdb)
  refine PySem.W.callWith_K (h₀ := X.base) I.ok.mod.kin M.kp (thn (ha.run pos pins s σ H _ I q) ?_) h1 h2
  rintro us s1 ⟨vs, H1, J, rv, z⟩
  exact ⟨J.kIn, run_makeZ M F hr hb (passAt tk σ) J rv z⟩
/-! ### cls(..) -/
def tMkl (W : WX) (i : Nat) (D : Addr) (sp : Sp) (t : TA) : TE := fun σ H Q => σ[i]? = some (some (.ref D)) ∧ tMake D sp [] (WE W σ) t σ H Q
open PySem.Spec PyProof.Rows in
theorem pe_mkl {X : Cx} {W : WX} {i : Nat} {D f : Addr} {x : Str} {fd : FuncData} {ps : List Str} {sp : Sp} {e : Expr} {es : List Expr} {p pos : Pos} {t : TA} (tk : Takes X W) (M : Mk X.K D f) (F : FnOkZ false X.prog X.w X.K X.mg X.base (L2.CX X.prog X.w) k f fd ps sp) (hr : Room (k + 1) X.A) (hN : X.N[i]? = some x) (hv : Vis X.env.scope x)
    (hb : Binds X.K fd ps []) (ha : PA X (e :: es) t) (hdb : (x == ("__debug__" : Str)) = false) (hcd : (x == ("__classdict__" : Str)) = false)
    (he : starEach (e :: es) X.env = (false, eval e X.env) :: starEach es X.env) (hpl : (backTo pos (starEach es X.env)).any (·.1) = false) : PE X (.Call (.Name x p) (e :: es) [] pos) (tMkl W i D sp t) := by
  refine ⟨fun pins s σ H Q I h => ?_⟩
  obtain ⟨hs, ht⟩ := h
  refine wpAny_Call_Name_kw (thn ((pe_var (pos := p) hN hv hdb hcd).run pins s σ H (fun v H1 => v = .ref D ∧ H1 = H) I ⟨.ref D, hs, rfl, rfl⟩) fun u s1 ⟨v, H1, I1, r1, q1⟩ => ?_)
  obtain ⟨rfl, rfl⟩ := q1
  cases r1
  refine PySem.W.callWith_K (h₀ := X.base) I.ok.mod.kin M.kp (thn (ha.run pos pins s1 σ _ _ I1 ht) fun us s2 ⟨vs, H2, I2, r, q⟩ => ⟨I2.kIn, ?_⟩) he hpl
  exact run_makeZ M F hr hb (passAt tk σ) I2 r q
end
end Zed
end
section
set_option Elab.async false
set_option linter.all false
set_option maxRecDepth 100000
set_option maxHeartbeats 4000000
namespace Zed
open PySem L2
/-! ### calls of defs that may want to know that no repr is under way -/
theorem pe_callZ {X : Cx} {CX : CXT} {g : Bool} {k : Nat} {f : Addr} {fd : FuncData} {ps : List Str} {sp : Sp} {E : St → XK} {x : Str} {p pos : Pos} {e : Expr} {es : List Expr} {t : TA} (F : FnOkZ g X.prog X.w X.K X.mg X.base CX k f fd ps sp) (hgd : g = true → X.A.guards = some [])
    (hr : Room k X.A) (hg : Gl X x) (hm : X.mg x = some (.ref f)) (hk : PySem.W.keepIn X.K (.ref f) = true) (hb : Binds X.K fd ps []) (hx : ∀ σ, PassesAt CX X σ (E σ)) (ha : PA X (e :: es) t) (hdb : (x == ("__debug__" : Str)) = false)
    (h1 : starEach (e :: es) X.env = (false, eval e X.env) :: starEach es X.env) (h2 : (backTo pos (starEach es X.env)).any (·.1) = false) : PE X (.Call (.Name x p) (e :: es) [] pos) (tCallS sp E t) := by
  constructor
  intro pins s σ H Q I h
  refine wpAny_Call_Name_kw (ld_glob I hg hm ?_ hdb)
  refine PySem.W.callWith_K (h₀ := X.base) I.ok.mod.kin hk (thn (ha.run pos pins s σ H _ I h) ?_) h1 h2
  rintro us s1 ⟨vs, H1, J, rv, q⟩
  refine ⟨J.kIn, ?_⟩
  have len : us.length = ps.length := rv.length.symm.trans (F.len _ _ _ _ q)
  have bnd := hb s1 us J.kIn (by simpa using len)
  rw [List.append_nil] at bnd
  refine wpAny_call (codeAny_mono (F.run X.A X.stack s1 H1 ⟨us, []⟩ us vs Q (E σ) hgd hr J.env0 bnd rv q) ?_)
  rintro (e | fl) s' hq
  · exact hx σ pins H1 s1 e s' J hq
  · match fl, hq with
    | .ret u, hq => exact J.after hq
theorem conIs_rep {G : Gc} {d : PV} {c : Const} {X : Cx} {j : Nat} {pos : Pos} (h : conIs d c = true) : ∃ v, PE X (.Constant c j pos) (tC v) ∧ ∀ φ H, RepV G φ H d v := by
  unfold conIs at h
  split at h
  · exact ⟨.non, pe_non, fun _ _ => .non⟩
  · rw [beq_iff_eq] at h; subst h; exact ⟨.bl _, pe_bl, fun _ _ => .bl _⟩
  · rw [beq_iff_eq] at h; subst h; exact ⟨.int _, pe_int, fun _ _ => .int _⟩
  · rw [beq_iff_eq] at h; subst h; exact ⟨.str _, pe_str, fun _ _ => .str _⟩
  · cases h
/-- a constant's value -/
def vOf : PV → V
  | .bl b => .bl b
  | .int i => .int i
  | .str x => .str x
  | _ => .non
theorem conIs_v {G : Gc} {d : PV} {c : Const} {X : Cx} {j : Nat} {pos : Pos} (h : conIs d c = true) : PE X (.Constant c j pos) (tC (vOf d)) ∧ ∀ φ H, RepV G φ H d (vOf d) := by
  unfold conIs at h
  split at h
  · exact ⟨pe_non, fun _ _ => .non⟩
  · rw [beq_iff_eq] at h; subst h; exact ⟨pe_bl, fun _ _ => .bl _⟩
  · rw [beq_iff_eq] at h; subst h; exact ⟨pe_int, fun _ _ => .int _⟩
  · rw [beq_iff_eq] at h; subst h; exact ⟨pe_str, fun _ _ => .str _⟩
  · cases h
/-! ### x(lambda: e), x telling how the lambda ended -/
theorem repX_ext {G : Gc} {φ φ' : List Addr} {h : PHeap} {H H' : Hp} {c : PV} {fs : List (Nat × PV)} {cls : Value} {d : Option Addr} (r : RelH G φ h H) (x : Ext φ H φ' H') (q : RepX G φ H c fs cls d) : RepX G φ' H' c fs cls d := by
  refine ⟨q.1, q.2.imp id ?_⟩
  rintro ⟨dd, ws, e1, e2, e3⟩
  refine ⟨dd, ws, e1, x.keep dd _ e2 (r.notXd e2) trivial, fun f e he => ?_⟩
  obtain ⟨w, l, rv⟩ := e3 f e he
  exact ⟨w, l, repV_ext r x rv⟩
/-- what a clause tells -/
def hTell (G : Gc) (ct : Ct) (hx : Hx) (cls : Value) (d : Option Addr) (H : Hp) (Q : VK) : Prop :=
  ∃ φ h c fs x, RelH G φ h H ∧ RepX G φ H (.gl c) fs cls d ∧ hxV ct h c fs hx = some x ∧ ∀ φ' H' v, Ext φ H φ' H' → RelH G φ' h H' → RepV G φ' H' x v → Q v H'
/-- an expression of a clause, the error at a -/
def HxR (G : Gc) (ct : Ct) (o : Option Str) (a : Addr) (cls : Value) (d : Option Addr) (hx : Hx) : TE := fun σ H Q => (o.isSome = true → σ[1]? = some (some (.ref a))) ∧ hTell G ct hx cls d H Q
def rRep (G : Gc) : List V → Hp → VK → Prop := fun xs H Q => ∃ φ h d v x, xs = [v] ∧ RelH G φ h H ∧ RepV G φ H d v ∧ reprC h d = some x ∧ Q (.str x) H
theorem call_rRep {X : Cx} {G : Gc} (hK : G.K = X.K) (hg : X.A.guards = some []) (hu : X.A.units + 64 < cLine) : CallR X (.builtin "repr") (rRep G) := by
  intro pins s σ H xs us Q I r ⟨φ, h, d, v, x, e, rh, rv, er, q⟩
  subst e
  cases r with
  | cons r1 r2 =>
    cases r2
    exact reprC_Z hK rh hg hu er rv I r1 q
theorem hTell.gl {G : Gc} {ct : Ct} {hx : Hx} {cls : Value} {d : Option Addr} {H : Hp} {Q : VK} (t : hTell G ct hx cls d H Q) : True := trivial
section
variable {X : Cx} {G : Gc} {ct : Ct} {nm : Nat → Str} {bl : List Str} {g : Bool}
/-- what the clauses lean on -/
structure HxC (X : Cx) (G : Gc) (ct : Ct) (nm : Nat → Str) (bl : List Str) (g : Bool) : Prop where
  xfl : ∀ c f, ct.xfl c = some f → ∃ D, X.mg (nm c) = some (.ref D) ∧ XfC X.K D ∧ PySem.W.findIn X.K (.ref D) (nm f) = some none
  K : G.K = X.K
  mg : G.mg = X.mg
  nm : G.nm = nm
  gd : g = true → X.A.guards = some []
  un : X.A.units + 64 < cLine
  bl : ∀ x, bl.contains x = true → X.mg x = none
theorem pe_hx (T : HxC X G ct nm bl g) {a : Addr} {ob : Obj} {cls : Value} {d : Option Addr} {pn : List (Addr × Obj)} (hz : Zc cls d ob) (hf : ∃ vs, ob.data = .fields vs) {o : Option Str}
    (hN : ∀ n, o = some n → X.N[1]? = some n ∧ X.env.scope.names.lookup n = some .local ∧ okNm n = true) :
    ∀ (hx : Hx) {e : Expr}, chkHx nm bl g X.env.scope.names o hx e = true → PE (X.suite a ((a, ob) :: pn)) e (HxR G ct o a cls d hx)
  | .con k, e, c => by
    simp only [chkHx] at c
    split at c
    · obtain ⟨v, p, r⟩ := conIs_rep (G := G) (X := X.suite a ((a, ob) :: pn)) c
      refine pe_imp p fun σ H Q ⟨_, φ, h, k, fs, x, rh, rx, e, q⟩ => ?_
      simp only [hxV] at e
      cases e
      exact q φ H v .refl rh (r φ H)
    · cases c
  | .fld f, e, c => by
    simp only [chkHx] at c
    split at c
    · rename_i n np fn p
      simp only [Bool.and_eq_true, beq_iff_eq] at c
      obtain ⟨c1, c2⟩ := c
      subst c2
      obtain ⟨n1, n2, n3⟩ := hN n c1
      have db := okNm_dbg n3
      constructor
      intro pins s σ H Q I ⟨h0, φ, h, k, fs, x, rh, rx, e, q⟩
      simp only [hxV] at e
      split at e
      · rename_i hk
        obtain ⟨D, m1, m2, m3⟩ := T.xfl k f hk
        obtain ⟨⟨y, b, e1, e2, e3⟩ | ⟨n', e1, _⟩, rf⟩ := rx
        · cases e1
          rw [T.mg, T.nm, m1] at e2
          cases e2
          have pv : PE (X.suite a ((a, ob) :: pn)) (.Name n np) (tVar 1) := pe_var n1 (.inl n2) db.1 db.2.1
          refine (pe_xf (pos := p) m2 m3 hz hf pv).run pins s σ H Q I ⟨.ref a, h0 (by rw [c1]; rfl), rfl, e3, ?_⟩
          rcases rf with z | ⟨dd, ws, d1, d2, d3⟩
          · rw [z] at e; cases e
          · obtain ⟨w, l, rv⟩ := d3 f x e
            rw [T.nm] at l
            exact ⟨dd, ws, w, d1, d2, l, q φ H w .refl rh rv⟩
        · cases e1
      · cases e
    · cases c
  | .add p q, e, c => by
    simp only [chkHx] at c
    split at c
    · simp only [Bool.and_eq_true] at c
      refine pe_imp (pe_op (op_addZ (X := X.suite a ((a, ob) :: pn)) (G := G) T.K) (pe_hx T hz hf hN p c.1) (pe_hx T hz hf hN q c.2)) fun σ H Q ⟨h0, φ, h, k, fs, x, rh, rx, e, w⟩ => ?_
      simp only [hxV] at e
      split at e
      · rename_i x1 x2 e1 e2
        split at e
        · rename_i hl
          cases e
          refine ⟨h0, φ, h, k, fs, _, rh, rx, e1, fun φ1 H1 v1 y1 rh1 rv1 => ⟨h0, φ1, h, k, fs, _, rh1, repX_ext rh y1 rx, e2, fun φ2 H2 v2 y2 rh2 rv2 => ?_⟩⟩
          refine ⟨φ2, h, [.str x1, .str x2], .str (x1 ++ x2), h, rh2, .cons (repV_ext rh1 y2 rv1) (.cons rv2 .nil), by simp only [bopF, addF, if_pos hl], fun φ3 H3 v3 y3 rh3 rv3 => w φ3 H3 v3 ((y1.trans y2).trans y3) rh3 rv3⟩
        · cases e
      · cases e
    · cases c
  | .rep p, e, c => by
    simp only [chkHx] at c
    split at c
    · rename_i x np l pos
      simp only [Bool.and_eq_true, beq_iff_eq] at c
      obtain ⟨⟨⟨⟨⟨c1, c2⟩, c3⟩, c4⟩, c5⟩, c6⟩ := c
      subst c1
      have gl : Gl (X.suite a ((a, ob) :: pn)) "repr" := by
        have z : X.env.scope.names.lookup ("repr" : Str) = some .globalImplicit := by simpa [isK] using c2
        exact z
      refine pe_imp (pe_callB (call_rRep (X := X.suite a ((a, ob) :: pn)) (G := G) T.K (T.gd c4) T.un) gl (T.bl _ c3) (by decide +kernel) (pa_cons (pe_hx T hz hf hN p c6) pa_nil (starEach_cons c5)) (by decide) (by decide) (starEach_cons c5) rfl) fun σ H Q ⟨h0, φ, h, k, fs, x, rh, rx, e, w⟩ => ?_
      simp only [hxV] at e
      split at e
      · rename_i v e1
        cases e2 : reprC h v with
        | none => rw [e2] at e; cases e
        | some y =>
          rw [e2] at e
          cases e
          refine ⟨h0, φ, h, k, fs, _, rh, rx, e1, fun φ1 H1 v1 y1 rh1 rv1 => ⟨φ1, h, v, v1, y, rfl, rh1, rv1, e2, w φ1 H1 _ y1 rh1 (.str _)⟩⟩
      · cases e
    · cases c
  | .num p, e, c => by
    simp only [chkHx] at c
    split at c
    · rename_i x np l pos
      simp only [Bool.and_eq_true, beq_iff_eq] at c
      obtain ⟨⟨⟨⟨c1, c2⟩, c3⟩, c5⟩, c6⟩ := c
      subst c1
      have gl : Gl (X.suite a ((a, ob) :: pn)) "str" := by
        have z : X.env.scope.names.lookup ("str" : Str) = some .globalImplicit := by simpa [isK] using c2
        exact z
      refine pe_imp (pe_callTy (call_str_int (X := X.suite a ((a, ob) :: pn))) gl (T.bl _ c3) (by decide +kernel) (pa_cons (pe_hx T hz hf hN p c6) pa_nil (starEach_cons c5)) (by decide) (by decide) (starEach_cons c5) rfl) fun σ H Q ⟨h0, φ, h, k, fs, x, rh, rx, e, w⟩ => ?_
      simp only [hxV] at e
      split at e
      · rename_i i e1
        split at e
        · rename_i hl
          cases e
          refine ⟨h0, φ, h, k, fs, _, rh, rx, e1, fun φ1 H1 v1 y1 rh1 rv1 => ?_⟩
          cases rv1
          exact ⟨i, rfl, hl, w φ1 H1 _ y1 rh1 (.str _)⟩
        · cases e
      · cases e
    · cases c
  | .tup p q, e, c => by
    simp only [chkHx] at c
    split at c
    · simp only [Bool.and_eq_true] at c
      obtain ⟨⟨⟨c1, c2⟩, c3⟩, c4⟩ := c
      refine pe_imp (pe_tup (pa_cons (pe_hx T hz hf hN p c3) (pa_cons (pe_hx T hz hf hN q c4) pa_nil (starEach_cons c2)) (starEach_cons c1))) fun σ H Q ⟨h0, φ, h, k, fs, x, rh, rx, e, w⟩ => ?_
      simp only [hxV] at e
      split at e
      · rename_i x1 x2 e1 e2
        cases e
        refine ⟨h0, φ, h, k, fs, _, rh, rx, e1, fun φ1 H1 v1 y1 rh1 rv1 => ⟨h0, φ1, h, k, fs, _, rh1, repX_ext rh y1 rx, e2, fun φ2 H2 v2 y2 rh2 rv2 => ?_⟩⟩
        exact ⟨by simp; rw [sizeLine_eq]; decide, new_tup rh2 (.cons (repV_ext rh1 y2 rv1) (.cons rv2 .nil)) fun φ3 H3 v3 y3 rh3 rv3 => w φ3 H3 v3 ((y1.trans y2).trans y3) rh3 rv3⟩
      · cases e
    · cases c
end
/-- what the clauses tell -/
def wTell (G : Gc) (ct : Ct) (Q : VK) : List (Nat × Hx) → Value → Option Addr → Hp → Prop
  | [], _, _, _ => False
  | (c, t) :: r, cls, d, H => ∃ E b, G.mg (G.nm c) = some (.ref E) ∧ PySem.W.exmOne G.K cls (.ref E) = some b ∧ (b = true → hTell G ct t cls d H Q) ∧ (b = false → wTell G ct Q r cls d H)
def tBk : Bk → V → Hp → VK → Prop
  | .drop d, _, H, Q => Q (vOf d) H
  | .ret, v, H, Q => Q v H
  | .pair t, v, H, Q => [V.str t, v].length ≤ sizeLine ∧ ∀ p, H p = none → Q (.ref p) (upd H p (.tup [.str t, v]))
def TMet (G : Gc) (ct : Ct) (hs : List (Nat × Hx)) (bk : Bk) : (XK → Hp → VK → Prop) → Hp → VK → Prop := fun tl H Q =>
  tl (fun cls d H' => wTell G ct Q hs cls d H') H (fun v H' => tBk bk v H' Q)
/-- a clause's suite -/
def tHs (X : Cx) (G : Gc) (ct : Ct) (o : Option Str) (hx : Hx) (a : Addr) (cls : Value) (d : Option Addr) : TS := fun D σ H => (o.isSome = true → σ.length = X.N.length → σ[1]? = some (some (.ref a))) ∧ hTell G ct hx cls d H D.rt
theorem pss_hx {X : Cx} {G : Gc} {ct : Ct} {nm : Nat → Str} {bl : List Str} {g : Bool} (T : HxC X G ct nm bl g) {o : Option Str} {hx : Hx} {e : Expr} {p : Pos} (hN : ∀ n, o = some n → X.N[1]? = some n ∧ X.env.scope.names.lookup n = some .local ∧ okNm n = true) (c : chkHx nm bl g X.env.scope.names o hx e = true)
    (a : Addr) (ob : Obj) (cls : Value) (d : Option Addr) (pn : List (Addr × Obj)) (hz : Zc cls d ob) (hf : ∃ vs, ob.data = .fields vs) : PSs (X.suite a ((a, ob) :: pn)) [.Return (some e) p] (tHs X G ct o hx a cls d) := by
  constructor
  intro pins s σ H D I ⟨q1, q2⟩
  exact (pss_one (ps_ret (pos := p) (pe_hx T hz hf hN hx c))).run pins s σ H D I ⟨fun z => q1 z I.len, q2⟩
/-- the clauses, as ps_tryZ asks for them -/
theorem cls_of {X : Cx} {G : Gc} {ct : Ct} {nm : Nat → Str} {bl : List Str} {g : Bool} (T : HxC X G ct nm bl g) (hfn : ∀ n, X.env.scope.names.lookup n = some .local → X.env.kindOf n = some .local) : ∀ {hs : List (Nat × Hx)} {hds : List ExceptHandler}, (∀ p ∈ hs, ∃ E, X.mg (nm p.1) = some (.ref E)) → chkH nm bl g X.N X.env.scope.names hs hds = true →
    ∃ l : List Cl, ClsOk X hds l ∧ ∀ (D : Ends) (Q : VK) (cls : Value) (d : Option Addr) (σ : St) (H : Hp), (∀ v H', Q v H' → D.rt v H') → wTell G ct Q hs cls d H → wCl X.K D l cls d σ H
  | [], hds, _, _ => ⟨[], .cut, fun _ _ _ _ _ _ _ z => z⟩
  | (d, t) :: r, hds, hE, c => by
    unfold chkH at c
    split at c
    · rename_i z; cases z
    · rename_i d0 t0 r0 x p1 o e p2 p3 hds0 e1
      cases e1
      simp only [Bool.and_eq_true, beq_iff_eq] at c
      obtain ⟨⟨⟨⟨⟨c1, c2⟩, c3⟩, c4⟩, c5⟩, c6⟩ := c
      subst c1
      obtain ⟨l, k1, k2⟩ := cls_of T hfn (fun p hp => hE p (List.mem_cons_of_mem _ hp)) c6
      obtain ⟨E, hm⟩ := hE _ List.mem_cons_self
      have gl : Gl X (nm d) := by
        have z : X.env.scope.names.lookup (nm d) = some .globalImplicit := by simpa [isK] using c2
        exact z
      have db : ((nm d) == ("__debug__" : Str)) = false := by
        simp only [okNm, Bool.and_eq_true, Bool.not_eq_true'] at c3
        exact c3.1.1
      have hq : ∀ {D : Ends} {Q : VK} {cls : Value} {dd : Option Addr} {H : Hp}, (∀ v H', Q v H' → D.rt v H') → hTell G ct t cls dd H Q → hTell G ct t cls dd H D.rt := fun hQ ⟨φ, h, c, fs, x, y1, y2, y3, y4⟩ => ⟨φ, h, c, fs, x, y1, y2, y3, fun φ' H' v a b c => hQ _ _ (y4 φ' H' v a b c)⟩
      cases o with
      | none =>
        refine ⟨⟨.ref E, none, tHs X G ct none t⟩ :: l, .bare ⟨gl, db, .inl hm⟩ (fun a ob cls d pn hz hf => pss_hx T (fun n z => by cases z) c5 a ob cls d pn hz hf) k1, ?_⟩
        intro D Q cls dd σ H hQ w
        obtain ⟨E', b, m1, m2, m3, m4⟩ := w
        rw [T.mg, T.nm, hm] at m1
        cases m1
        exact ⟨b, by rw [← T.K]; exact m2, fun hb a _ => ⟨fun z => by simp at z, hq hQ (m3 hb)⟩, fun hb => k2 D Q cls dd σ H hQ (m4 hb)⟩
      | some n =>
        simp only [Bool.and_eq_true, beq_iff_eq] at c4
        obtain ⟨⟨n1, n2⟩, n3⟩ := c4
        have n2' : X.env.scope.names.lookup n = some .local := by simpa [isK] using n2
        refine ⟨⟨.ref E, some 1, tHs X G ct (some n) t⟩ :: l, .name ⟨gl, db, .inl hm⟩ n1 (hfn n n2') (fun a ob cls d pn hz hf => pss_hx T (fun m z => by cases z; exact ⟨n1, n2', n3⟩) c5 a ob cls d pn hz hf) k1, ?_⟩
        intro D Q cls dd σ H hQ w
        obtain ⟨E', b, m1, m2, m3, m4⟩ := w
        rw [T.mg, T.nm, hm] at m1
        cases m1
        refine ⟨b, by rw [← T.K]; exact m2, fun hb a _ => ⟨fun _ hl => ?_, hq (D := endsAt D (some 1)) hQ (m3 hb)⟩, fun hb => k2 D Q cls dd σ H hQ (m4 hb)⟩
        have h1 : 1 < X.N.length := (List.getElem?_eq_some_iff.mp n1).1
        have hl : (σ.set 1 (some (.ref a))).length = X.N.length := hl
        rw [List.length_set] at hl
        exact List.getElem?_set_self (by rw [hl]; exact h1)
    · cases c
theorem met_gives {X : Cx} {G : Gc} {ct : Ct} {nm : Nat → Str} {bl : List Str} {gd : Bool} {Ng : List Str} {x a q : Str} {sg : Scope} {g : Addr} {cdg : Value} {hs : List (Nat × Hx)} {bk : Bk} {bg : List Stmt} (nd : Ng.Nodup) (T : ∀ (s : Shared) (H : Hp), HxC (cxOf C8.CX0 X.prog X.w X.K X.mg X.base Ng x sg g cdg X.A X.stack s H C8.E0).nox G ct nm bl gd)
    (hE : ∀ p ∈ hs, ∃ E, X.mg (nm p.1) = some (.ref E)) (c : metB nm bl gd Ng sg.names a hs bk bg = true)
    (h0 : ∀ f : Addr, (L2.start Ng [V.ref f])[0]? = some (some (V.ref f))) : LamX.GivesTo X Ng x sg g cdg bg a q (TMet G ct hs bk) := by
  intro f c' s H Q tl act hc h
  unfold metB at c
  cases bk with
  | drop dv =>
    simp only at c
    split at c
    · rename_i y p1 p2 p3 hd hds p4 k j p5 p6
      simp only [Bool.and_eq_true, beq_iff_eq] at c
      obtain ⟨⟨⟨c1, c2⟩, c3⟩, c4⟩ := c
      subst c1
      obtain ⟨l, k1, k2⟩ := cls_of (T s H) (fun n z => z) hE c4
      refine ⟨_, pss_cons (ps_tryZ (X := (cxOf C8.CX0 X.prog X.w X.K X.mg X.base Ng x sg g cdg X.A X.stack s H C8.E0).nox)
        (tb := fun W D σ H => ∃ Ech : XK, (∀ cls d σ' H', Ech cls d H' → W cls d σ' H') ∧ σ[0]? = some (some (.ref f)) ∧ H c' = some (LamX.CodeO c' q) ∧ tl Ech H (fun _ H' => D.nx σ H')) rfl rfl nd (fun W pn xe tk _ => ?_) k1) (pss_one (ps_ret (conIs_v (G := G) c3).1)), ?_⟩
      · constructor
        intro pins s1 σ1 H1 D I1 ⟨Ech, w1, w2, w3, w4⟩
        exact (pss_one (ps_expr (pos := p3) (act W pn xe Ech p1 p2 tk w1))).run pins s1 σ1 H1 D I1 ⟨w2, w3, w4⟩
      · exact ⟨_, fun cls d σ' H' w => k2 _ Q cls d σ' H' (fun _ _ z => z) w, h0 f, hc, h⟩
    · cases c
  | ret =>
    simp only at c
    split at c
    · rename_i y p1 p2 p3 hd hds p4
      simp only [Bool.and_eq_true, beq_iff_eq] at c
      obtain ⟨⟨c1, c2⟩, c4⟩ := c
      subst c1
      obtain ⟨l, k1, k2⟩ := cls_of (T s H) (fun n z => z) hE c4
      refine ⟨_, pss_one (ps_tryZ (X := (cxOf C8.CX0 X.prog X.w X.K X.mg X.base Ng x sg g cdg X.A X.stack s H C8.E0).nox)
        (tb := fun W D σ H => ∃ Ech : XK, (∀ cls d σ' H', Ech cls d H' → W cls d σ' H') ∧ σ[0]? = some (some (.ref f)) ∧ H c' = some (LamX.CodeO c' q) ∧ tl Ech H D.rt) rfl rfl nd (fun W pn xe tk _ => ?_) k1), ?_⟩
      · constructor
        intro pins s1 σ1 H1 D I1 ⟨Ech, w1, w2, w3, w4⟩
        exact (pss_one (ps_ret (pos := p3) (act W pn xe Ech p1 p2 tk w1))).run pins s1 σ1 H1 D I1 ⟨w2, w3, w4⟩
      · exact ⟨_, fun cls d σ' H' w => k2 _ Q cls d σ' H' (fun _ _ z => z) w, h0 f, hc, h⟩
    · cases c
  | pair t =>
    simp only at c
    split at c
    · rename_i t' j p0 y p1 p2 p3 p4 p5 hd hds p6
      simp only [Bool.and_eq_true, beq_iff_eq] at c
      obtain ⟨⟨⟨c1, c2⟩, c3⟩, c4⟩ := c
      subst c1
      subst c3
      obtain ⟨l, k1, k2⟩ := cls_of (T s H) (fun n z => z) hE c4
      refine ⟨_, pss_one (ps_tryZ (X := (cxOf C8.CX0 X.prog X.w X.K X.mg X.base Ng x sg g cdg X.A X.stack s H C8.E0).nox)
        (tb := fun W D σ H => ∃ Ech : XK, (∀ cls d σ' H', Ech cls d H' → W cls d σ' H') ∧ σ[0]? = some (some (.ref f)) ∧ H c' = some (LamX.CodeO c' q) ∧ tl Ech H (fun v H' => [V.str t, v].length ≤ sizeLine ∧ ∀ p, H' p = none → D.rt (.ref p) (upd H' p (.tup [.str t, v])))) rfl rfl nd (fun W pn xe tk _ => ?_) k1), ?_⟩
      · constructor
        intro pins s1 σ1 H1 D I1 ⟨Ech, w1, w2, w3, w4⟩
        have ac := act W pn xe Ech p1 p2 tk w1
        exact (pss_one (ps_ret (pos := p5) (pe_tup (x1 := p3) (pos := p4) (pa_cons (pe_str (x := t) (j := j) (pos := p0)) (pa_cons ac pa_nil rfl) rfl)))).run pins s1 σ1 H1 D I1 ⟨w2, w3, w4⟩
      · exact ⟨_, fun cls d σ' H' w => k2 _ Q cls d σ' H' (fun _ _ z => z) w, h0 f, hc, h⟩
    · cases c
end Zed
end
section
set_option Elab.async false
set_option linter.all false
set_option maxRecDepth 100000
set_option maxHeartbeats 4000000
namespace Zed
open PySem L2
section
variable {S : Sg} {G : Gc} {C : Orc} {k : Nat}
def isTst : Expr → Bool
  | .UnaryOp .Not _ _ => true
  | .BoolOp .. => true
  | .IfExp .. => true
  | .Compare .. => true
  | _ => false
theorem pt_pl {X : Cx} {W : WX} {e : Expr} {f : Loc → PHeap → R PV} (hK : G.K = X.K) (h : PE X e (tEv G W f)) (ht : isTst e = false) : PT X e (tEvT G W fun l h => truthR (f l h)) :=
  pt_of hK h (fun x p e => by subst e; cases ht) (fun o v p e => by subst e; cases ht) (fun a b c p e => by subst e; cases ht) (fun a b c p e => by subst e; cases ht)
theorem evE_attr {a : Ex} {f : Nat} : evE C (.attr a f) = ev1 (evE C a) (attrF C.ct f) := by funext l h; simp only [evE]
theorem pass_no {X : Cx} : Passes (L2.CX X.prog X.w) X (fun _ _ _ => False) := fun pins σ H s e s' I hc => by
  obtain ⟨_, _, _, _, _, _, _, _, _, _, _, _, z⟩ := hc
  exact z.elim
theorem tStar_ev {W : WX} {e : Ex} {r : Exs} (σ : St) (H : Hp) (Q : List V → Hp → Prop) (t : tEvA G W (evA C (.star e r)) σ H Q) : StX.tStar G.K (tEv G W (evE C e)) (tEvA G W (evA C r)) σ H Q := by
  obtain ⟨φ, l, h, rh, rl, p⟩ := t
  unfold evA at p
  refine ⟨φ, l, h, rh, rl, Post.mono (Post.bindA p) fun v H1 ⟨φ1, h1, d1, x1, rh1, rv1, p1⟩ => ?_⟩
  cases z : seqOf h1 d1 with
  | none => rw [z] at p1; exact p1.elim
  | some ds =>
    rw [z] at p1
    obtain ⟨a, vs, rfl, sq, q⟩ := rep_seq rh1 rv1 z
    refine ⟨a, vs, rfl, sq.symm, φ1, l, h1, rh1, repL_ext rh x1 rl, PostA.mono (PostA.bindA (PostA.ext x1 p1)) fun ws H2 ⟨φ2, h2, es, x2, rh2, rv2, p2⟩ => ?_⟩
    exact (PostA.ext x2 p2) φ2 H2 _ .refl rh2 ((repVs_ext rh1 x2 q).append rv2)
theorem tMake_ev {X : Cx} {W : WX} {c f : Nat} {es : Exs} {D : Addr} (g : Glob S G C k X) (hD : X.mg (S.nm c) = some (.ref D)) (σ : St) (H : Hp) (Q : VK) (t : tEv G W (evE C (.make c f es)) σ H Q) :
    tMake D (spF G (C.call f)) [] (WE W σ) (tEvA G W (evA C es)) σ H Q := by
  obtain ⟨φ, l, h, rh, rl, p⟩ := t
  unfold evE at p
  refine ⟨φ, l, h, rh, rl, PostA.mono (PostA.bind p) fun vs H1 ⟨φ1, h1, ds, x1, rh1, rv1, p1⟩ => ?_⟩
  intro x dx hx hdx ne
  rw [List.append_nil]
  unfold makeF at p1
  -- the new object
  have hx2 : upd H1 dx (.own x) x = none := by rw [upd_ne (Ne.symm ne)]; exact hx
  have e1 : Ext φ1 H1 φ1 (upd H1 dx (.own x)) := ext_tup hdx
  have rh2 := rh1.tup (u := HO.own x) hdx
  have e2 := ext_alloc (u := HO.ins D dx []) rh2 hx2
  have hD' : G.mg (G.nm c) = some (.ref D) := by rw [g.mg, g.nm]; exact hD
  have ro : RepO G (φ1 ++ [x]) (upd (upd H1 dx (.own x)) x (.ins D dx [])) x (.ins c []) := by
    refine ⟨List.nodup_nil, D, dx, hD', ?_⟩
    cases z : G.isSl c with
    | false => exact .inl ⟨rfl, [], upd_same, Nat.le_refl _, (fun f d hf => by cases hf), (fun y v hy => by cases hy)⟩
    | true => exact .inr ⟨rfl, [], .inl ⟨upd_same, rfl⟩, ⟨ne, .inl (by rw [upd_ne ne, upd_same])⟩, (fun f d hf => by cases hf)⟩
  have rh3 := rh2.alloc hx2 ro
  have x13 : Ext φ1 H1 (φ1 ++ [x]) (upd (upd H1 dx (.own x)) x (.ins D dx [])) := e1.trans e2
  have hix : (φ1 ++ [x])[h1.length]? = some x := by rw [← rh1.len, List.getElem?_append_right (Nat.le_refl _)]; simp
  refine ⟨φ1 ++ [x], h1 ++ [.ins c []], .ref h1.length :: ds, rh3, .cons (.ref hix) (repVs_ext rh1 x13 rv1), ?_⟩
  cases z : C.call f (.ref h1.length :: ds) (h1 ++ [.ins c []]) with
  | stuck => rw [z] at p1; exact p1.elim
  | exc c fs h' => rw [z] at p1; exact fun φ4 H4 cls dd x4 rh4 rx4 => p1 φ4 H4 cls dd (x1.trans (x13.trans x4)) rh4 rx4
  | ok d h2 =>
    rw [z] at p1
    intro φ4 H4 v x4 rh4 rv4
    cases rv4 <;> simp only at p1 <;> first | exact p1.elim | skip
    exact ⟨rfl, p1 φ4 H4 _ (x1.trans (x13.trans x4)) rh4 (.ref (pre_get x4.pre hix))⟩
theorem tMkl_ev {X : Cx} {W : WX} {i c f : Nat} {es : Exs} {D : Addr} (g : Glob S G C k X) (hD : X.mg (S.nm c) = some (.ref D)) (σ : St) (H : Hp) (Q : VK) (t : tEv G W (evE C (.mkl i c f es)) σ H Q) :
    tMkl W i D (spF G (C.call f)) (tEvA G W (evA C es)) σ H Q := by
  obtain ⟨φ, l, h, rh, rl, p⟩ := t
  unfold evE at p
  split at p
  · rename_i d hl
    split at p
    · rename_i hd
      subst hd
      obtain ⟨v, e1, r⟩ := rl.2 i _ hl
      cases r with
      | gl m =>
        rw [g.mg, g.nm, hD] at m
        cases m
        exact ⟨e1, tMake_ev g hD σ H Q ⟨φ, l, h, rh, rl, by unfold evE; exact p⟩⟩
    · exact p.elim
  · exact p.elim
theorem evE_bin {op : Bop} {a b : Ex} : evE C (.bin op a b) = ev2 (evE C a) (evE C b) (bopF op) := by funext l h; simp only [evE]
theorem evE_cmp {op : Cop} {a b : Ex} : evE C (.cmp op a b) = ev2 (evE C a) (evE C b) (cmpF op) := by funext l h; simp only [evE]
theorem evE_sub {a b : Ex} : evE C (.sub a b) = ev2 (evE C a) (evE C b) subF := by funext l h; simp only [evE]
theorem evE_lc {z : Bool} {elt : Ex} {tg : Tg} {it : Itr} {ifs : Op} {own : List Nat} : evE C (.lc z elt tg it ifs own) = fun l h => (evI C it l h).bind fun src h1 => (lcLoop tg src (evT1 C ifs) (evE C elt) (wipeP l own) (srcLen h1 src + 1) 0 [] h1).bind fun ds h2 => liftP (some (mkL z ds h2)) := by funext l h; simp only [evE]
theorem pe_zQ {X : Cx} {z : Bool} {e : Expr} {t : TE} (h : PE X e t) : PE X e (fun σ H Q => t σ H (zQ z Q)) := by
  cases z with
  | false => exact h
  | true => exact pe_frz h
theorem evA_nil : evA C .nil = evNil := by funext l h; simp only [evA, evNil]
theorem evA_cons {e : Ex} {es : Exs} : evA C (.cons e es) = evCons (evE C e) (evA C es) := by funext l h; simp only [evA]
theorem evE_sc {elt : Ex} {tg : Tg} {it : Itr} {own : List Nat} : evE C (.sc elt tg it own) = fun l h => (evI C it l h).bind fun src h1 =>
    (lcLoop tg src (fun _ h => R.ok true h) (evE C elt) (wipeP l own) (srcLen h1 src + 1) 0 [] h1).bind fun ds h2 => liftP (setTP ds h2) := by funext l h; simp only [evE]
theorem chkF_plain {S : Sg} {N : List Str} {sc : Scope} : ∀ {es : Exs} {l : List Expr}, chkF S N sc es l = true → plainX es = true
  | .nil, _, _ => rfl
  | .star _ _, _, c => by simp [chkF] at c
  | .cons e r, l, c => by
    simp only [chkF] at c
    split at c
    · simp only [Bool.and_eq_true] at c
      exact chkF_plain (es := r) c.2
    · simp only [Bool.and_eq_true] at c
      exact chkF_plain (es := r) c.2
    · cases c
theorem evI_val {e : Ex} : evI C (.val e) = fun l h => (evE C e l h).bind fun d h1 => srcR (srcOf h1 d) h1 := by funext l h; simp only [evI]
theorem pt_ifExp {X : Cx} {c a b : Expr} {tc ta tb : TT} {pos : Pos} (hc : PT X c tc) (ha : PT X a ta) (hb : PT X b tb) : PT X (.IfExp c a b pos) (fun σ H Q => tc σ H fun k H1 => if k = true then ta σ H1 Q else tb σ H1 Q) := ⟨fun pins s σ H Q I q => by
  have e : PySem.isTrue (.IfExp c a b pos) X.env (eval (.IfExp c a b pos) X.env) = (do let k ← PySem.isTrue c X.env (eval c X.env); if k = true then PySem.isTrue a X.env (eval a X.env) else PySem.isTrue b X.env (eval b X.env)) := by
    rw [PySem.isTrue]
  rw [e]
  refine wpAny_bind (thn (hc.run pins s σ H _ I q) fun k s1 ⟨H1, I1, q1⟩ => ?_)
  cases k with
  | true => rw [if_pos rfl] at q1 ⊢; exact ha.run pins s1 σ H1 Q I1 q1
  | false => rw [if_neg Bool.false_ne_true] at q1 ⊢; exact hb.run pins s1 σ H1 Q I1 q1⟩
theorem truthR_ite {c a b : Ex} {l : Loc} {h : PHeap} : truthR (evE C (.ite c a b) l h) = (truthR (evE C c l h)).bind fun k h1 => match k with | true => truthR (evE C a l h1) | false => truthR (evE C b l h1) := by
  conv => lhs; unfold evE
  cases truthR (evE C c l h) with
  | ok k h1 => cases k <;> rfl
  | exc => rfl
  | stuck => rfl
theorem ttIte_ev {W : WX} {c a b : Ex} (σ : St) (H : Hp) (Q : Bool → Hp → Prop) (t : tEvT G W (fun l h => truthR (evE C (.ite c a b) l h)) σ H Q) :
    (tEvT G W fun l h => truthR (evE C c l h)) σ H fun k H1 => if k = true then (tEvT G W fun l h => truthR (evE C a l h)) σ H1 Q else (tEvT G W fun l h => truthR (evE C b l h)) σ H1 Q := by
  obtain ⟨φ, l, h, rh, rl, p⟩ := t
  have p : PostT G φ H (truthR (evE C (.ite c a b) l h)) Q (fun c d H' => W c d σ H') := p
  rw [truthR_ite] at p
  refine ⟨φ, l, h, rh, rl, PostT.mono (PostT.bindT p) fun k H1 ⟨φ1, h1, x1, rh1, p1⟩ => ?_⟩
  cases k with
  | true => rw [if_pos rfl]; exact ⟨φ1, l, h1, rh1, repL_ext rh x1 rl, PostT.ext x1 p1⟩
  | false => rw [if_neg Bool.false_ne_true]; exact ⟨φ1, l, h1, rh1, repL_ext rh x1 rl, PostT.ext x1 p1⟩
theorem lamS_sp {X : Cx} {sc sc' : Scope} (sp : Scp sc.names X) (L : LamX.LamS sc sc') : LamX.LamS X.env.scope sc' := ⟨L.kind, L.co, L.gen, L.own, fun y hy e => sp.cf y.1 (L.free y hy e)⟩
theorem metB_nm {nm : Nat → Str} {bl : List Str} {gd : Bool} {N : List Str} {ns : Nms} {a : Str} {hs : List (Nat × Hx)} {bk : Bk} {sts : List Stmt} (h : metB nm bl gd N ns a hs bk sts = true) : (a == ("__debug__" : Str)) = false ∧ (a == ("__classdict__" : Str)) = false ∧ a ≠ "__name__" := by
  unfold metB at h
  cases bk with
  | drop d =>
    simp only at h
    split at h
    · simp only [Bool.and_eq_true] at h
      exact okNm_dbg h.1.1.2
    · cases h
  | ret =>
    simp only at h
    split at h
    · simp only [Bool.and_eq_true] at h
      exact okNm_dbg h.1.2
    · cases h
  | pair t =>
    simp only at h
    split at h
    · simp only [Bool.and_eq_true] at h
      exact okNm_dbg h.1.1.2
    · cases h
theorem start0 {Ng : List Str} {v : V} {a : Str} (h : Ng[0]? = some a) : (L2.start Ng [v])[0]? = some (some v) := by
  unfold L2.start
  simp
theorem exm_post {X : Cx} {φ : List Addr} {H : Hp} {h' : PHeap} {c : Nat} {fs : List (Nat × PV)} {Q : VK} {E : XK} (g : Glob S G C k X) : ∀ (hs : List (Nat × Hx)), Post G φ H (metGo C.ct c fs h' hs) Q E →
    ∀ φ' H' a dd, Ext φ H φ' H' → RelH G φ' h' H' → X.mg (S.nm c) = some (.ref a) → RepX G φ' H' (.gl c) fs (.ref a) dd → wTell G C.ct Q hs (.ref a) dd H'
  | [], p, _, _, _, _, _, _, _, _ => p.elim
  | (d, t) :: r, p, φ', H', a, dd, x, rh, ma, rx => by
    unfold metGo at p
    split at p
    · rename_i e
      obtain ⟨D, E', m1, m2, m3⟩ := g.exm c d true e
      rw [ma] at m1
      cases m1
      split at p
      · rename_i v ev
        exact ⟨E', true, by rw [g.mg, g.nm]; exact m2, by rw [g.K]; exact m3, fun _ => ⟨φ', h', c, fs, v, rh, rx, ev, fun φ2 H2 w y rh2 rv => p φ2 H2 w (x.trans y) rh2 rv⟩, (fun z => by cases z)⟩
      · exact p.elim
    · rename_i e
      obtain ⟨D, E', m1, m2, m3⟩ := g.exm c d false e
      rw [ma] at m1
      cases m1
      exact ⟨E', false, by rw [g.mg, g.nm]; exact m2, by rw [g.K]; exact m3, (fun z => by cases z), fun _ => exm_post g r p φ' H' a dd x rh ma rx⟩
    · exact p.elim
theorem metB_drop {nm : Nat → Str} {bl : List Str} {gd : Bool} {N : List Str} {ns : Nms} {a : Str} {hs : List (Nat × Hx)} {d : PV} {sts : List Stmt} (h : metB nm bl gd N ns a hs (.drop d) sts = true) (G : Gc) (φ : List Addr) (H : Hp) : RepV G φ H d (vOf d) := by
  unfold metB at h
  simp only at h
  split at h
  · simp only [Bool.and_eq_true] at h
    have c := h.1.2
    unfold conIs at c
    split at c
    · exact .non
    · exact .bl _
    · exact .int _
    · exact .str _
    · cases c
  · cases h
theorem tMet_ev {X : Cx} {W : WX} {m : Nat} {b : Ex} {hs : List (Nat × Hx)} {bk : Bk} (g : Glob S G C k X) (hm : C.ct.met m = some (hs, bk)) (hd : ∀ d, bk = .drop d → ∀ φ H, RepV G φ H d (vOf d)) (σ : St) (H : Hp) (Q : VK) (t : tEv G W (evE C (.met m b)) σ H Q) :
    LamX.tLam G.T (TMet G C.ct hs bk) (fun E => tEv G (fun cls d _ H' => E cls d H') (evE C b)) σ H Q := by
  obtain ⟨φ, l, h, rh, rl, p⟩ := t
  unfold evE at p
  refine ⟨rh.tabs', fun H1 x t1 => ?_⟩
  obtain ⟨rh1, x1⟩ := rh.lam x t1
  refine ⟨φ, l, h, rh1, repL_ext rh x1 rl, ?_⟩
  unfold metF at p
  rw [hm] at p
  dsimp only at p
  cases z : evE C b l h with
  | ok d h' =>
    rw [z] at p
    intro φ' H' v x2 rh2 rv
    cases bk with
    | drop e => exact p φ' H' _ (x1.trans x2) rh2 (hd e rfl _ _)
    | ret => exact p φ' H' _ (x1.trans x2) rh2 rv
    | pair t => exact ⟨by simp; rw [sizeLine_eq]; decide, new_tup rh2 (.cons (.str t) (.cons rv .nil)) fun φ3 H3 v3 y3 rh3 rv3 => p φ3 H3 v3 ((x1.trans x2).trans y3) rh3 rv3⟩
  | exc c fs h' =>
    rw [z] at p
    intro φ' H' cls dd x2 rh2 rx
    cases c <;> first | exact p.elim | skip
    rename_i c
    have rx0 := rx
    obtain ⟨⟨y, a, e1, e2, e3⟩ | ⟨n, e1, _⟩, _⟩ := rx
    · cases e1
      subst e3
      rw [g.mg, g.nm] at e2
      exact exm_post g hs p φ' H' a dd (x1.trans x2) rh2 e2 rx0
    · cases e1
  | stuck => rw [z] at p; exact p.elim
mutual
theorem soundE : ∀ (ir : Ex) {S : Sg} {X : Cx} {W : WX} {sc : Scope} {e : Expr}, Glob S G C k X → Scp sc.names X → Takes X W → chkE S X.N sc ir e = true → PE X e (tEv G W (evE C ir))
  | .loc i, S, X, W, sc, e, g, sp, tk, c => by
    simp only [chkE] at c
    split at c
    · simp only [Bool.and_eq_true, beq_iff_eq] at c
      have z := okNm_dbg c.2
      exact pe_imp (pe_var c.1.1 (sp.vis _ c.1.2) z.1 z.2.1) tVar_ev
    · cases c
  | .con d, S, X, W, sc, e, g, sp, tk, c => by
    simp only [chkE] at c
    split at c
    · obtain ⟨v, p, r⟩ := conIs_rep (G := G) (X := X) c
      exact pe_imp p (tC_ev r)
    · simp only [Bool.and_eq_true] at c
      have z := okNm_dbg c.1.2
      have gl := sp.gl _ c.1.1
      have c2 := c.2
      split at c2
      · rename_i e0 hl
        obtain ⟨u, v, e1, e2, e3⟩ := g.cst _ _ hl
        have := PV.same_eq _ _ c2
        subst this
        exact pe_imp (pe_glob gl e1 e2 z.1) (tC_ev e3)
      · split at c2
        · rename_i n
          simp only [Bool.and_eq_true, beq_iff_eq] at c2
          obtain ⟨⟨c3, c4⟩, c5⟩ := c2
          subst c4
          have b := ty_boot n c3
          exact pe_imp (pe_bltn (v := .ty n) gl (g.blt _ c5) b.1 rfl b.2.1 b.2.2) (tC_ev fun _ _ => .ty n)
        · rename_i k
          simp only [Bool.and_eq_true, beq_iff_eq] at c2
          obtain ⟨D, mD⟩ := g.cls _ c2.2
          rw [← c2.1] at mD
          exact pe_imp (pe_glob (v := .ref D) gl mD rfl z.1) (tC_ev fun _ _ => .gl (by rw [g.mg, g.nm, ← c2.1]; exact mD))
        · cases c2
    · cases c
  | .bin op a b, S, X, W, sc, e, g, sp, tk, c => by
    simp only [chkE] at c
    split at c
    · simp only [Bool.and_eq_true] at c
      exact pe_imp (pe_op (bop_ok g c.1.1) (soundE a g sp tk c.1.2) (soundE b g sp tk c.2)) fun σ H Q t => tOp_ev σ H Q (by rw [evE_bin] at t; exact t)
    · cases c
  | .neg a, S, X, W, sc, e, g, sp, tk, c => by
    simp only [chkE] at c
    split at c
    · exact pe_imp (pe_un un_neg (soundE a g sp tk c)) tNeg_ev
    · cases c
  | .not a, S, X, W, sc, e, g, sp, tk, c => by
    simp only [chkE] at c
    split at c
    · exact pe_imp (pe_notT (soundE a g sp tk c)) fun σ H Q t => by
        have := tNot_ev σ H Q t
        rw [g.K] at this; exact this
    · cases c
  | .cmp op a b, S, X, W, sc, e, g, sp, tk, c => by
    simp only [chkE] at c
    split at c
    · simp only [Bool.and_eq_true, Bool.not_eq_true'] at c
      exact pe_imp (pe_cmpR (cop_ok g c.1.1.1) (soundE a g sp tk c.1.2) (soundE b g sp tk c.2) c.1.1.2) fun σ H Q t => tOp_ev σ H Q (by rw [evE_cmp] at t; exact t)
    · cases c
  | .chn op p a b d, S, X, W, sc, e, g, sp, tk, c => by
    simp only [chkE] at c
    split at c
    · simp only [Bool.and_eq_true, Bool.not_eq_true'] at c
      exact pe_imp (pe_chain (cop_ok g c.1.1.1.1.1) (cop_ok g c.1.1.1.1.2) (soundE a g sp tk c.1.1.2) (soundE b g sp tk c.1.2) (soundE d g sp tk c.2) c.1.1.1.2) tChn_ev
    · cases c
  | .and a b, S, X, W, sc, e, g, sp, tk, c => by
    simp only [chkE] at c
    split at c
    · simp only [Bool.and_eq_true] at c
      exact pe_imp (pe_andT (soundE a g sp tk c.1) (pe_one (soundE b g sp tk c.2))) fun σ H Q t => by
        have := tAnd_ev σ H Q t
        rw [g.K] at this; exact this
    · simp only [Bool.and_eq_true] at c
      exact pe_imp (pe_andT (soundE a g sp tk c.1) (soundE b g sp tk c.2)) fun σ H Q t => by
        have := tAnd_ev σ H Q t
        rw [g.K] at this; exact this
    · cases c
  | .or a b, S, X, W, sc, e, g, sp, tk, c => by
    simp only [chkE] at c
    split at c
    · simp only [Bool.and_eq_true] at c
      exact pe_imp (pe_orT (soundE a g sp tk c.1) (pe_one (soundE b g sp tk c.2))) fun σ H Q t => by
        have := tOr_ev σ H Q t
        rw [g.K] at this; exact this
    · simp only [Bool.and_eq_true] at c
      exact pe_imp (pe_orT (soundE a g sp tk c.1) (soundE b g sp tk c.2)) fun σ H Q t => by
        have := tOr_ev σ H Q t
        rw [g.K] at this; exact this
    · cases c
  | .ite d a b, S, X, W, sc, e, g, sp, tk, c => by
    simp only [chkE] at c
    split at c
    · simp only [Bool.and_eq_true] at c
      exact pe_imp (pe_ifExp (soundT d g sp tk c.1.1) (soundE a g sp tk c.1.2) (soundE b g sp tk c.2)) tIte_ev
    · cases c
  | .tup es, S, X, W, sc, e, g, sp, tk, c => by
    simp only [chkE] at c
    split at c
    · exact pe_imp (pe_tup (soundA es g sp tk c)) tTup_ev
    · cases c
  | .lst z es, S, X, W, sc, e, g, sp, tk, c => by
    simp only [chkE] at c
    split at c
    · cases z with
      | false => exact pe_imp (pe_lst (soundA es g sp tk c)) tLst_ev
      | true => exact pe_imp (pe_frz (pe_lst (soundA es g sp tk c))) tLstF_ev
    · cases c
  | .call f es, S, X, W, sc, e, g, sp, tk, c => by
    simp only [chkE] at c
    split at c
    · simp only [Bool.and_eq_true, beq_iff_eq] at c
      obtain ⟨⟨⟨⟨⟨⟨⟨c1, c2⟩, c3⟩, c30⟩, cr⟩, c4⟩, cp⟩, c5⟩ := c
      subst c3
      obtain ⟨⟨ps, fd⟩, hf⟩ := Option.isSome_iff_exists.mp c4
      obtain ⟨a, fdt, e1, e2, e3, F⟩ := g.fns f ps fd hf c30
      have hgd : S.rp f = true → X.A.guards = some [] := fun z => g.gd (by rw [z] at cr; simpa using cr)
      have c6 := c5
      cases es with
      | nil => simp [chkA] at c6
      | star _ _ => simp [plainX] at cp
      | cons x xs =>
        simp only [chkA, Bool.and_eq_true] at c6
        exact pe_imp (pe_callZ F hgd (g.room.mono (Nat.le_succ _)) (sp.gl _ c1) e1 e2 e3 (fun σ => passAt tk σ) (soundA _ g sp tk c5) (okNm_dbg c2).1 (starEach_cons c6.1.1) (noStars (by simpa [plainX] using cp) c6.2).1) tCall_ev
    · cases c
  | .make d f es, S, X, W, sc, e, g, sp, tk, c => by
    simp only [chkE] at c
    split at c
    · simp only [Bool.and_eq_true, beq_iff_eq] at c
      obtain ⟨⟨⟨⟨⟨⟨⟨c1, c2⟩, c3⟩, c30⟩, cr⟩, c4⟩, cp⟩, c5⟩ := c
      subst c3
      obtain ⟨⟨ps, fd⟩, hf⟩ := Option.isSome_iff_exists.mp c4
      obtain ⟨D, a, fdt, e1, e2, e3, F0⟩ := g.mks d f ps fd hf c30
      have F : FnOkZ false X.prog X.w X.K X.mg X.base (L2.CX X.prog X.w) k a fdt ps (spF G (C.call f)) := by rw [show S.rp f = false by simpa using cr] at F0; exact F0
      have c6 := c5
      cases es with
      | nil => simp [chkA] at c6
      | star _ _ => simp [plainX] at cp
      | cons x xs =>
        simp only [chkA, Bool.and_eq_true] at c6
        exact pe_imp (pe_makeZ tk e2 F g.room (sp.gl _ c1) e1 e3 (soundA _ g sp tk c5) (okNm_dbg c2).1 (starEach_cons c6.1.1) (noStars (by simpa [plainX] using cp) c6.2).1) (tMake_ev g e1)
    · cases c
  | .blt b es, S, X, W, sc, e, g, sp, tk, c => by
    simp only [chkE] at c
    split at c
    · simp only [Bool.and_eq_true, beq_iff_eq] at c
      obtain ⟨⟨⟨⟨⟨c1, c2⟩, cr⟩, c3⟩, cp⟩, c5⟩ := c
      subst c2
      have hgr : b = .reprc → X.A.guards = some [] := fun z => g.gd (by rw [z] at cr; simpa using cr)
      have c6 := c5
      cases es with
      | nil => simp [chkA] at c6
      | star _ _ => simp [plainX] at cp
      | cons x xs =>
        simp only [chkA, Bool.and_eq_true] at c6
        have nm := bi_nm b
        have cz := call_Z g.K g.w g.calm g.room.units b hgr
        rcases bi_boot b with ⟨id, e1, e2⟩ | ⟨T, e1, e2⟩
        · rw [e2] at cz
          exact pe_imp (pe_callB cz (sp.gl _ c1) (g.blt _ c3) e1 (soundA _ g sp tk c5) nm.1 nm.2 (starEach_cons c6.1.1) (noStars (by simpa [plainX] using cp) c6.2).1) tBlt_ev
        · rw [e2] at cz
          exact pe_imp (pe_callTy cz (sp.gl _ c1) (g.blt _ c3) e1 (soundA _ g sp tk c5) nm.1 nm.2 (starEach_cons c6.1.1) (noStars (by simpa [plainX] using cp) c6.2).1) tBlt_ev
    · cases c
  | .meth m o es, S, X, W, sc, e, g, sp, tk, c => by
    simp only [chkE] at c
    split at c
    · simp only [Bool.and_eq_true, decide_eq_true_eq] at c
      obtain ⟨⟨⟨⟨⟨⟨c1, c2⟩, c3⟩, c4⟩, c5⟩, cp⟩, c6⟩ := c
      have c7 := c6
      cases es with
      | nil => simp [chkA] at c7
      | star _ _ => simp [plainX] at cp
      | cons x xs =>
        simp only [chkA, Bool.and_eq_true] at c7
        cases m with
        | append =>
          have e1 := beq_iff_eq.mp c1
          subst e1
          exact pe_imp (pe_bm PySem.F.plainAttrs_list PySem.F.slot_list_append PySem.F.type_list_append mt_app (soundE o g sp tk c5) (soundA _ g sp tk c6) (noSuper_base c2) (by simp only [Bool.and_eq_true, decide_eq_true_eq]; exact ⟨⟨(noStars cp c6).2, rfl⟩, c4⟩) c3 (starEach_cons c7.1.1) (noStars (by simpa [plainX] using cp) c7.2).1) tMeth_ev
        | pop =>
          have e1 := beq_iff_eq.mp c1
          subst e1
          exact pe_imp (pe_bm PySem.F.plainAttrs_list PySem.F.slot_list_pop PySem.F.type_list_pop mt_popiZ (soundE o g sp tk c5) (soundA _ g sp tk c6) (noSuper_base c2) (by simp only [Bool.and_eq_true, decide_eq_true_eq]; exact ⟨⟨(noStars cp c6).2, rfl⟩, c4⟩) c3 (starEach_cons c7.1.1) (noStars (by simpa [plainX] using cp) c7.2).1) tMeth_ev
        | extend =>
          have e1 := beq_iff_eq.mp c1
          subst e1
          exact pe_imp (pe_bm PySem.F.plainAttrs_list PySem.F.slot_list_extend PySem.F.type_list_extend mt_ext (soundE o g sp tk c5) (soundA _ g sp tk c6) (noSuper_base c2) (by simp only [Bool.and_eq_true, decide_eq_true_eq]; exact ⟨⟨(noStars cp c6).2, rfl⟩, c4⟩) c3 (starEach_cons c7.1.1) (noStars (by simpa [plainX] using cp) c7.2).1) tMeth_ev
    · cases c
  | .sub o i, S, X, W, sc, e, g, sp, tk, c => by
    simp only [chkE] at c
    split at c
    · simp only [Bool.and_eq_true] at c
      exact pe_imp (pe_ix (ix_subZ g.K g.P g.w g.room.units) (soundE o g sp tk c.1.2) (soundE i g sp tk c.2) (noSlice_plain c.1.1)) fun σ H Q t => tOp_ev σ H Q (by rw [evE_sub] at t; exact t)
    · cases c
  | .slc o lo hi, S, X, W, sc, e, g, sp, tk, c => by
    simp only [chkE] at c
    split at c
    · simp only [Bool.and_eq_true] at c
      exact pe_imp (pe_slice (sl_Z g.K) (soundE o g sp tk c.1.1) (soundO lo g sp tk c.1.2) (soundO hi g sp tk c.2)) tSlc_ev
    · cases c
  | .attr o f, S, X, W, sc, e, g, sp, tk, c => by
    simp only [chkE] at c
    split at c
    · simp only [Bool.and_eq_true, beq_iff_eq] at c
      obtain ⟨⟨c1, c2⟩, c3⟩ := c
      subst c1
      exact pe_imp (pe_attrZ g (soundE o g sp tk c3) (noSuper_base c2)) fun σ H Q t => by rw [evE_attr] at t; exact t
    · cases c
  | .lc z elt tg it ifs own, S, X, W, sc, e, g, sp, tk, c => by
    simp only [chkE] at c
    split at c
    · simp only [Bool.and_eq_true, beq_iff_eq] at c
      obtain ⟨⟨⟨⟨⟨⟨⟨c1, c2⟩, c3⟩, c4⟩, c5⟩, c6⟩, c7⟩, c8⟩ := c
      have ok0 := blkOk_by c2
      have ok : BlkOk X.N X.env.scope _ (ownOf X.N own) := ⟨ok0.kind, ok0.uniq, ok0.ix, fun y hy e => sp.cf y.1 (ok0.free y hy e), ok0.own⟩
      have gB := fun (s : Shared) (H : Hp) (A : Addr) (cl : List (Str × Addr)) (fp : List Addr) => g.blk (s := s) (H := H) (cl := cl) (A := A) (fp := fp) ok.kind
      have hs : ∀ i, i ∈ slotsT tg → i ∈ own := fun i hi => by
        have := List.all_eq_true.mp c5 i hi
        simpa using this
      refine pe_imp (t := fun σ H Q => tLc (iEv G W (evI C it)) (gEv G tg) (tEvT G W0 (evT1 C ifs)) (tEv G W0 (evE C elt)) own σ H (zQ z Q)) ?_ fun σ H Q t => tLc_ev hs σ H Q _ (fun _ _ q => q) (by rw [evE_lc] at t; exact t)
      rw [← c3]
      refine pe_zQ (pe_lc g.calm g.nd (soundI it g sp tk c1) ok (fun s H A cl fp => soundG tg g.K g.nd g.calm .blk c4) (fun s H A cl fp => ?_) (fun s H A cl fp => soundE elt (gB s H A cl fp) .blk takes0 c8) (foldedSet c6))
      split at c7
      · split at c7
        · refine ⟨fun pins s σ H Q I q => pts_nil.run pins s σ H Q I ?_⟩
          obtain ⟨φ, l, h, rh, rl, p⟩ := q
          unfold evT1 at p
          exact p φ H .refl rh
        · cases c7
      · simp only [Bool.and_eq_true] at c7
        cases ifs with
        | no => simp at c7
        | yes cd =>
          simp only [chkOp] at c7
          have := pts_one (soundT cd (gB s H A cl fp) .blk (takes0 (X := X.blk s H _ (compEnvC _ cl A X.env) fp)) c7.2)
          refine ⟨fun pins s σ H Q I q => this.run pins s σ H Q I ?_⟩
          obtain ⟨φ, l, h, rh, rl, p⟩ := q
          unfold evT1 at p
          exact ⟨φ, l, h, rh, rl, p⟩
      · cases c7
    · cases c
  | .dic0 z, S, X, W, sc, e, g, sp, tk, c => by
    simp only [chkE] at c
    split at c
    · cases z with
      | false =>
        refine pe_imp pe_dnewK fun σ H Q t => ?_
        obtain ⟨φ, l, h, rh, rl, p⟩ := t
        unfold evE at p
        exact new_dic rh p
      | true =>
        refine pe_imp (pe_frz pe_dnewK) fun σ H Q t => ?_
        obtain ⟨φ, l, h, rh, rl, p⟩ := t
        unfold evE at p
        exact fun q hq => ⟨q, _, rfl, upd_same, trivial, new_fd rh p q hq⟩
    · cases c
  | .met m b, S, X, W, sc, e, g, sp, tk, c => by
    simp only [chkE] at c
    split at c
    · rename_i x p1 b' sc' p2 p3
      simp only [Bool.and_eq_true, beq_iff_eq] at c
      obtain ⟨⟨⟨⟨⟨⟨⟨c1, c2⟩, c3⟩, c4⟩, cg⟩, c5⟩, c6⟩, c7⟩ := c
      subst c3
      obtain ⟨hs, bk, gg, fdt, st, a, Ng, m1, m2, F, m4, m5, m6, m7⟩ := g.met m c4
      obtain ⟨oc, od, dV, kV, doc, pm, an, cdv, ct, osl, rfl, lk, hcd, _, _⟩ := F.ex
      obtain ⟨rm, cc, P, l1, l2, l3, l4⟩ := g.lam c5
      have L : LamX.LamS X.env.scope sc' := lamS_sp sp (LamX.lamS_by c6)
      have n0 : Ng[0]? = some a := by
        have := m5.pre
        cases Ng with
        | nil => simp at this
        | cons y r => simpa using this
      have va : Vis (defScope st) a := (m5.par a List.mem_cons_self).elim .inl fun z => .inr (.inl z)
      have da := metB_nm m6
      have hg : S.rp m = true → X.A.guards = some [] := fun z => g.gd (by rw [z] at cg; simpa using cg)
      have T : ∀ (s : Shared) (H : Hp), HxC (cxOf C8.CX0 X.prog X.w X.K X.mg X.base Ng (S.nm m) (defScope st) gg cdv X.A X.stack s H C8.E0).nox G C.ct S.nm S.blts (S.rp m) := fun s H => {
        xfl := fun c f h => by
          obtain ⟨D, B, n, i, bm, r1, _, _, r2, r3⟩ := g.raf c f h
          exact ⟨D, r1, r2, r3⟩
        K := g.K
        mg := g.mg
        nm := g.nm
        gd := fun z => hg z
        un := by
          have z := rm.un
          show X.A.units + 3 + 64 < cLine
          omega
        bl := fun x hx => g.blt x hx }
      exact pe_imp (LamX.pe_lamcall (k := k + 1) (sp.gl _ c1) m2 F.kp lk hcd m4 m5 n0 va (met_gives m5.nd T m7 m6 (fun f => by rw [start0 n0])) l2 l1 l3 l4 rm L rfl (fun _ _ _ _ _ => rfl)
        (fun A outer s H E f c' hr => soundE b (g.lamC L.kind hr) (.lamC L) (takes_of rfl rfl rfl rfl) c7) (okNm_dbg c2).1 da.1 da.2.1) (tMet_ev g m1 fun d z => by subst z; exact fun φ H => metB_drop m6 G φ H)
    · cases c
  | .pop o, S, X, W, sc, e, g, sp, tk, c => by
    simp only [chkE] at c
    split at c
    · simp only [Bool.and_eq_true, beq_iff_eq] at c
      obtain ⟨⟨⟨c1, c2⟩, c3⟩, c4⟩ := c
      subst c1
      exact pe_imp (pe_bm0 PySem.F.plainAttrs_list PySem.F.slot_list_pop PySem.F.type_list_pop mt_popZ (soundE o g sp tk c4) (noSuper_base c2) (by simpa using c3)) tPop_ev
    · cases c
  | .rev z o, S, X, W, sc, e, g, sp, tk, c => by
    simp only [chkE] at c
    split at c
    · exact pe_imp (pe_zQ (z := z) (pe_revL (soundE o g sp tk c))) fun σ H Q t => by
        have := tRev_ev σ H Q t
        rw [g.K] at this
        exact this
    · cases c
  | .mcl m o es, S, X, W, sc, e, g, sp, tk, c => by
    simp only [chkE] at c
    split at c
    · simp only [Bool.and_eq_true, decide_eq_true_eq, beq_iff_eq] at c
      obtain ⟨⟨⟨⟨⟨⟨c1, c2⟩, c3⟩, c4⟩, c5⟩, cp⟩, c6⟩ := c
      subst c1
      have c7 := c6
      cases es with
      | nil => simp [chkA] at c7
      | star _ _ => simp [plainX] at cp
      | cons x xs =>
        simp only [chkA, Bool.and_eq_true] at c7
        exact pe_imp (pe_mthZ (sp := fun f => spF G (C.call f)) (n := k) (soundE o g sp tk c5) (g.room.mono (Nat.le_succ _)) (fun σ => passAt tk σ) (soundA _ g sp tk c6) (noSuper_base c2) (by simp only [Bool.and_eq_true, decide_eq_true_eq]; exact ⟨⟨(noStars cp c6).2, rfl⟩, c4⟩) (by simpa using c3) (starEach_cons c7.1.1) (noStars (by simpa [plainX] using cp) c7.2).1) (tMcl_ev g)
    · cases c
  | .mc0 m o, S, X, W, sc, e, g, sp, tk, c => by
    simp only [chkE] at c
    split at c
    · simp only [Bool.and_eq_true, beq_iff_eq] at c
      obtain ⟨⟨⟨c1, c2⟩, c3⟩, c4⟩ := c
      subst c1
      exact pe_imp (pe_mth0Z (sp := fun f => spF G (C.call f)) (n := k) (soundE o g sp tk c4) (g.room.mono (Nat.le_succ _)) (fun σ => passAt tk σ) (noSuper_base c2) (by simpa using c3)) (tMc0_ev g)
    · cases c
  | .isi es, S, X, W, sc, e, g, sp, tk, c => by
    simp only [chkE] at c
    split at c
    · simp only [Bool.and_eq_true, beq_iff_eq] at c
      obtain ⟨⟨⟨⟨c1, c2⟩, c3⟩, cp⟩, c5⟩ := c
      subst c2
      have c6 := c5
      cases es with
      | nil => simp [chkA] at c6
      | star _ _ => simp [plainX] at cp
      | cons x xs =>
        simp only [chkA, Bool.and_eq_true] at c6
        exact pe_imp (pe_callB (call_isiZ g) (sp.gl _ c1) (g.blt _ c3) (by decide) (soundA _ g sp tk c5) (by decide) (by decide) (starEach_cons c6.1.1) (noStars (by simpa [plainX] using cp) c6.2).1) tIsi_ev
    · cases c
  | .prp f o, S, X, W, sc, e, g, sp, tk, c => by
    simp only [chkE] at c
    split at c
    · simp only [Bool.and_eq_true, beq_iff_eq] at c
      obtain ⟨⟨c1, c2⟩, c3⟩ := c
      subst c1
      exact pe_imp (pe_prpZ (sp := fun f => spF G (C.call f)) (n := k) (soundE o g sp tk c3) g.room (noSuper_base c2)) (tPrp_ev g)
    · cases c
  | .dln m o, S, X, W, sc, e, g, sp, tk, c => by
    simp only [chkE] at c
    split at c
    · simp only [Bool.and_eq_true, beq_iff_eq] at c
      obtain ⟨⟨⟨⟨⟨c1, c2⟩, c3⟩, c4⟩, c5⟩, c6⟩ := c
      subst c2
      have pa : PA X [_] (tEvA G W (evA C (.cons o .nil))) := pa_imp (pa_cons (soundE o g sp tk c6) (pa_imp pa_nil (tNil_ev (G := G) (W := W))) (starEach_cons c5)) fun σ H Q t => tCons_ev σ H Q (by rw [evA_cons, evA_nil] at t; exact t)
      exact pe_imp (pe_callB (call_lenO g c3) (sp.gl _ c1) (g.blt _ c4) (by decide +kernel) pa (by decide) (by decide) (starEach_cons c5) rfl) tDln_ev
    · cases c
  | .dst m o, S, X, W, sc, e, g, sp, tk, c => by
    simp only [chkE] at c
    split at c
    · simp only [Bool.and_eq_true, beq_iff_eq] at c
      obtain ⟨⟨⟨⟨⟨c1, c2⟩, c3⟩, c4⟩, c5⟩, c6⟩ := c
      subst c2
      have pa : PA X [_] (tEvA G W (evA C (.cons o .nil))) := pa_imp (pa_cons (soundE o g sp tk c6) (pa_imp pa_nil (tNil_ev (G := G) (W := W))) (starEach_cons c5)) fun σ H Q t => tCons_ev σ H Q (by rw [evA_cons, evA_nil] at t; exact t)
      exact pe_imp (pe_callTy (call_strO g c3) (sp.gl _ c1) (g.blt _ c4) (by decide +kernel) pa (by decide) (by decide) (starEach_cons c5) rfl) tDst_ev
    · cases c
  | .dgt m o i, S, X, W, sc, e, g, sp, tk, c => by
    simp only [chkE] at c
    split at c
    · simp only [Bool.and_eq_true, beq_iff_eq] at c
      exact pe_imp (pe_ixO g tk c.1.1.2 (soundE o g sp tk c.1.2) (soundE i g sp tk c.2) c.1.1.1) tDgt_ev
    · cases c
  | .din m i o, S, X, W, sc, e, g, sp, tk, c => by
    simp only [chkE] at c
    split at c
    · simp only [Bool.and_eq_true, Bool.not_eq_true', beq_iff_eq] at c
      have e1 := c.1.1.1.1
      rename_i a' op' b' pos
      cases op' <;> first | (simp [copIs] at e1; done) | skip
      exact pe_imp (pe_cmpR (op_inO g c.1.1.2) (soundE i g sp tk c.1.2) (soundE o g sp tk c.2) c.1.1.1.2) tDin_ev
    · cases c
  | .sc elt tg it own, S, X, W, sc, e, g, sp, tk, c => by
    simp only [chkE] at c
    split at c
    · simp only [Bool.and_eq_true, beq_iff_eq] at c
      obtain ⟨⟨⟨⟨⟨⟨c1, c2⟩, c3⟩, c4⟩, c5⟩, c6⟩, c8⟩ := c
      have ok0 := blkOk_by c2
      have ok : BlkOk X.N X.env.scope _ (ownOf X.N own) := ⟨ok0.kind, ok0.uniq, ok0.ix, fun y hy e => sp.cf y.1 (ok0.free y hy e), ok0.own⟩
      have gB := fun (s : Shared) (H : Hp) (A : Addr) (cl : List (Str × Addr)) (fp : List Addr) => g.blk (s := s) (H := H) (cl := cl) (A := A) (fp := fp) ok.kind
      have hs : ∀ i, i ∈ slotsT tg → i ∈ own := fun i hi => by
        have := List.all_eq_true.mp c5 i hi
        simpa using this
      refine pe_imp (t := fun σ H Q => tSt G.w (iEv G W (evI C it)) (gEv G tg) (tEv G W0 (evE C elt)) own σ H (zQ true Q)) ?_ fun σ H Q t => tSc_ev hs σ H Q (by rw [evE_sc] at t; exact t)
      rw [← c3, g.w]
      exact pe_zQ (z := true) (pe_st g.calm g.nd (soundI it g sp tk c1) ok (fun s H A cl fp => soundG tg g.K g.nd g.calm .blk c4) (fun s H A cl fp => soundE elt (gB s H A cl fp) .blk takes0 c8) (foldedSet c6))
    · cases c
  | .tm k o b, S, X, W, sc, e, g, sp, tk, c => by
    simp only [chkE] at c
    split at c
    · simp only [Bool.and_eq_true, beq_iff_eq] at c
      obtain ⟨⟨⟨⟨⟨c1, c2⟩, c3⟩, c4⟩, c5⟩, c6⟩ := c
      subst c1
      have hs := starEach_cons (es := []) (env := X.env) c4
      have key : ∀ {id : String} {nm : Str}, PySem.Slot "str" nm id → typeOf (.builtin id) = pure (.type "method_descriptor") → MtR X id (rTm G k) → nm = tmName k → PE X (.Call (.Attribute _ (tmName k) _) [_] [] _) (tM1 (rTm G k) (tEv G W (evE C o)) (tEv G W (evE C b))) := fun sl ty mt en => by
        subst en
        exact pe_m1 sl ty mt (soundE o g sp tk c5) (soundE b g sp tk c6) hs (noSuper_base c2) (by simpa using c3)
      refine pe_imp ?_ tTm_ev
      cases k with
      | join => exact key PySem.F.slot_str_join PySem.F.type_str_join (mt_tmZ g.K .join) rfl
      | startswith => exact key PySem.F.slot_str_startswith PySem.F.type_str_startswith (mt_tmZ g.K .startswith) rfl
      | removeprefix => exact key PySem.F.slot_str_removeprefix PySem.F.type_str_removeprefix (mt_tmZ g.K .removeprefix) rfl
    · cases c
  | .fst es, S, X, W, sc, e, g, sp, tk, c => by
    simp only [chkE] at c
    split at c
    · refine pe_imp (pe_joined (soundF es g sp tk c)) fun σ H Q t => ?_
      obtain ⟨φ, l, h, rh, rl, p⟩ := t
      unfold evE at p
      exact tFst_ev es _ φ l h σ H Q _ (chkF_plain c) rh rl p
    · cases c
  | .oeq ne a b, S, X, W, sc, e, g, sp, tk, c => by
    simp only [chkE] at c
    split at c
    · simp only [Bool.and_eq_true, Bool.not_eq_true'] at c
      cases ne with
      | false =>
        have e1 := c.1.1.1
        simp only [Bool.false_eq_true, if_false] at e1
        rename_i a' op' b' pos
        cases op' <;> first | (simp [copIs] at e1; done) | skip
        exact pe_imp (pe_cmpR (op_oeq g) (soundE a g sp tk c.1.2) (soundE b g sp tk c.2) c.1.1.2) tOeq_ev
      | true =>
        have e1 := c.1.1.1
        simp only [if_true] at e1
        rename_i a' op' b' pos
        cases op' <;> first | (simp [copIs] at e1; done) | skip
        exact pe_imp (pe_cmpR (op_one g) (soundE a g sp tk c.1.2) (soundE b g sp tk c.2) c.1.1.2) tOeq_ev
    · cases c
  | .cmt d m es, S, X, W, sc, e, g, sp, tk, c => by
    simp only [chkE] at c
    split at c
    · simp only [Bool.and_eq_true, decide_eq_true_eq, beq_iff_eq] at c
      obtain ⟨⟨⟨⟨⟨⟨⟨c1, c2⟩, c3⟩, c4⟩, c5⟩, c6⟩, cp⟩, c7⟩ := c
      subst c3; subst c4
      have c8 := c7
      cases hc : C.ct.cmt d m with
      | none => exact ⟨fun pins s σ H Q I t => by
          obtain ⟨φ, l, h, rh, rl, p⟩ := t
          unfold evE at p
          rw [hc] at p
          exact p.elim⟩
      | some f =>
        obtain ⟨ps, fd, D, mc, pp, a, fdt, m0, m1, m2, m3, m4, m5⟩ := g.cms d m f hc
        cases es with
        | nil => simp [chkA] at c8
        | star _ _ => simp [plainX] at cp
        | cons x xs =>
          simp only [chkA, Bool.and_eq_true] at c8
          exact pe_imp (pe_cmtZ (E := WE W) (sp.gl _ c1) m1 (okNm_dbg c2).1 m2 m3 m5 m4 (g.room.mono (Nat.le_succ _)) (fun σ => passAt tk σ) (soundA _ g sp tk c7) (noSuper_base rfl) (by simp only [Bool.and_eq_true, decide_eq_true_eq]; exact ⟨⟨(noStars cp c7).2, rfl⟩, c6⟩) (by simpa using c5) (starEach_cons c8.1.1) (noStars (by simpa [plainX] using cp) c8.2).1) (tCmt_ev hc (by rw [g.mg, g.nm]; exact m1))
    · cases c
  | .mkl i d f es, S, X, W, sc, e, g, sp, tk, c => by
    simp only [chkE] at c
    split at c
    · simp only [Bool.and_eq_true, beq_iff_eq] at c
      obtain ⟨⟨⟨⟨⟨⟨⟨c1, c2⟩, c3⟩, c30⟩, cr⟩, c4⟩, cp⟩, c5⟩ := c
      obtain ⟨⟨ps, fd⟩, hf⟩ := Option.isSome_iff_exists.mp c4
      obtain ⟨D, a, fdt, e1, e2, e3, F0⟩ := g.mks d f ps fd hf c30
      have F : FnOkZ false X.prog X.w X.K X.mg X.base (L2.CX X.prog X.w) k a fdt ps (spF G (C.call f)) := by rw [show S.rp f = false by simpa using cr] at F0; exact F0
      have z := okNm_dbg c3
      have c6 := c5
      cases es with
      | nil => simp [chkA] at c6
      | star _ _ => simp [plainX] at cp
      | cons x xs =>
        simp only [chkA, Bool.and_eq_true] at c6
        exact pe_imp (pe_mkl tk (i := i) e2 F g.room c1 (sp.vis _ c2) e3 (soundA _ g sp tk c5) z.1 z.2.1 (starEach_cons c6.1.1) (noStars (by simpa [plainX] using cp) c6.2).1) (tMkl_ev g e1)
    · cases c
theorem soundT : ∀ (ir : Ex) {S : Sg} {X : Cx} {W : WX} {sc : Scope} {e : Expr}, Glob S G C k X → Scp sc.names X → Takes X W → chkE S X.N sc ir e = true → PT X e (tEvT G W fun l h => truthR (evE C ir l h))
  | .not a, S, X, W, sc, e, g, sp, tk, c => by
    simp only [chkE] at c
    split at c
    · exact pt_imp (pt_not (soundT a g sp tk c)) ttNot_ev
    · cases c
  | .cmp op a b, S, X, W, sc, e, g, sp, tk, c => by
    simp only [chkE] at c
    split at c
    · simp only [Bool.and_eq_true, Bool.not_eq_true'] at c
      refine pt_imp (pt_cmpR (cop_ok g c.1.1.1) (soundE a g sp tk c.1.2) (soundE b g sp tk c.2) c.1.1.2) fun σ H Q t => ?_
      have z := tTest_ev (f := evE C (.cmp op a b)) (fun l h d h' e => cmp_bl l h d h' (by unfold evE at e; exact e)) σ H Q t
      exact tOp_ev (W := W) (F := cmpF op) σ H _ (by rw [evE_cmp] at z; exact z)
    · cases c
  | .chn op p a b d, S, X, W, sc, e, g, sp, tk, c => by
    simp only [chkE] at c
    split at c
    · simp only [Bool.and_eq_true, Bool.not_eq_true'] at c
      refine pt_imp (pt_chain (cop_ok g c.1.1.1.1.1) (cop_ok g c.1.1.1.1.2) (soundE a g sp tk c.1.1.2) (soundE b g sp tk c.1.2) (soundE d g sp tk c.2) c.1.1.1.2) fun σ H Q t => ?_
      exact tChn_ev σ H _ (tTest_ev chn_bl σ H Q t)
    · cases c
  | .and a b, S, X, W, sc, e, g, sp, tk, c => by
    simp only [chkE] at c
    split at c
    · simp only [Bool.and_eq_true] at c
      exact pt_imp (pw_and (soundT a g sp tk c.1) (pw_and1 (soundT b g sp tk c.2))).pt ttAnd_ev
    · simp only [Bool.and_eq_true] at c
      exact pt_imp (pw_and (soundT a g sp tk c.1) (pw_of_pt (soundT b g sp tk c.2))).pt ttAnd_ev
    · cases c
  | .or a b, S, X, W, sc, e, g, sp, tk, c => by
    simp only [chkE] at c
    split at c
    · simp only [Bool.and_eq_true] at c
      exact pt_imp (pw_or (soundT a g sp tk c.1) (pw_or1 (soundT b g sp tk c.2))).pt ttOr_ev
    · simp only [Bool.and_eq_true] at c
      exact pt_imp (pw_or (soundT a g sp tk c.1) (pw_of_pt (soundT b g sp tk c.2))).pt ttOr_ev
    · cases c
  | .ite d a b, S, X, W, sc, e, g, sp, tk, c => by
    simp only [chkE] at c
    split at c
    · simp only [Bool.and_eq_true] at c
      exact pt_imp (pt_ifExp (soundT d g sp tk c.1.1) (soundT a g sp tk c.1.2) (soundT b g sp tk c.2)) ttIte_ev
    · cases c
  | .loc i, S, X, W, sc, e, g, sp, tk, c => by
    have h := soundE (.loc i) g sp tk c
    simp only [chkE] at c
    split at c
    · exact pt_pl g.K h rfl
    · cases c
  | .con d, S, X, W, sc, e, g, sp, tk, c => by
    have h := soundE (.con d) g sp tk c
    simp only [chkE] at c
    split at c
    · exact pt_pl g.K h rfl
    · exact pt_pl g.K h rfl
    · cases c
  | .bin op a b, S, X, W, sc, e, g, sp, tk, c => by
    have h := soundE (.bin op a b) g sp tk c
    simp only [chkE] at c
    split at c
    · exact pt_pl g.K h rfl
    · cases c
  | .neg a, S, X, W, sc, e, g, sp, tk, c => by
    have h := soundE (.neg a) g sp tk c
    simp only [chkE] at c
    split at c
    · exact pt_pl g.K h rfl
    · cases c
  | .tup es, S, X, W, sc, e, g, sp, tk, c => by
    have h := soundE (.tup es) g sp tk c
    simp only [chkE] at c
    split at c
    · exact pt_pl g.K h rfl
    · cases c
  | .lst z es, S, X, W, sc, e, g, sp, tk, c => by
    have h := soundE (.lst z es) g sp tk c
    simp only [chkE] at c
    split at c
    · exact pt_pl g.K h rfl
    · cases c
  | .call f es, S, X, W, sc, e, g, sp, tk, c => by
    have h := soundE (.call f es) g sp tk c
    simp only [chkE] at c
    split at c
    · exact pt_pl g.K h rfl
    · cases c
  | .make d f es, S, X, W, sc, e, g, sp, tk, c => by
    have h := soundE (.make d f es) g sp tk c
    simp only [chkE] at c
    split at c
    · exact pt_pl g.K h rfl
    · cases c
  | .blt b es, S, X, W, sc, e, g, sp, tk, c => by
    have h := soundE (.blt b es) g sp tk c
    simp only [chkE] at c
    split at c
    · exact pt_pl g.K h rfl
    · cases c
  | .meth m o es, S, X, W, sc, e, g, sp, tk, c => by
    have h := soundE (.meth m o es) g sp tk c
    simp only [chkE] at c
    split at c
    · exact pt_pl g.K h rfl
    · cases c
  | .sub o i, S, X, W, sc, e, g, sp, tk, c => by
    have h := soundE (.sub o i) g sp tk c
    simp only [chkE] at c
    split at c
    · exact pt_pl g.K h rfl
    · cases c
  | .slc o lo hi, S, X, W, sc, e, g, sp, tk, c => by
    have h := soundE (.slc o lo hi) g sp tk c
    simp only [chkE] at c
    split at c
    · exact pt_pl g.K h rfl
    · cases c
  | .attr o f, S, X, W, sc, e, g, sp, tk, c => by
    have h := soundE (.attr o f) g sp tk c
    simp only [chkE] at c
    split at c
    · exact pt_pl g.K h rfl
    · cases c
  | .met m b, S, X, W, sc, e, g, sp, tk, c => by
    have h := soundE (.met m b) g sp tk c
    simp only [chkE] at c
    split at c
    · exact pt_pl g.K h rfl
    · cases c
  | .lc z elt tg it ifs own, S, X, W, sc, e, g, sp, tk, c => by
    have h := soundE (.lc z elt tg it ifs own) g sp tk c
    simp only [chkE] at c
    split at c
    · exact pt_pl g.K h rfl
    · cases c
  | .dic0 z, S, X, W, sc, e, g, sp, tk, c => by
    have h := soundE (.dic0 z) g sp tk c
    simp only [chkE] at c
    split at c
    · exact pt_pl g.K h rfl
    · cases c
  | .pop o, S, X, W, sc, e, g, sp, tk, c => by
    have h := soundE (.pop o) g sp tk c
    simp only [chkE] at c
    split at c
    · exact pt_pl g.K h rfl
    · cases c
  | .rev z o, S, X, W, sc, e, g, sp, tk, c => by
    have h := soundE (.rev z o) g sp tk c
    simp only [chkE] at c
    split at c
    · exact pt_pl g.K h rfl
    · cases c
  | .mcl m o es, S, X, W, sc, e, g, sp, tk, c => by
    have h := soundE (.mcl m o es) g sp tk c
    simp only [chkE] at c
    split at c
    · exact pt_pl g.K h rfl
    · cases c
  | .mc0 m o, S, X, W, sc, e, g, sp, tk, c => by
    have h := soundE (.mc0 m o) g sp tk c
    simp only [chkE] at c
    split at c
    · exact pt_pl g.K h rfl
    · cases c
  | .isi es, S, X, W, sc, e, g, sp, tk, c => by
    have h := soundE (.isi es) g sp tk c
    simp only [chkE] at c
    split at c
    · exact pt_pl g.K h rfl
    · cases c
  | .prp f o, S, X, W, sc, e, g, sp, tk, c => by
    have h := soundE (.prp f o) g sp tk c
    simp only [chkE] at c
    split at c
    · exact pt_pl g.K h rfl
    · cases c
  | .dln m o, S, X, W, sc, e, g, sp, tk, c => by
    have h := soundE (.dln m o) g sp tk c
    simp only [chkE] at c
    split at c
    · exact pt_pl g.K h rfl
    · cases c
  | .dst m o, S, X, W, sc, e, g, sp, tk, c => by
    have h := soundE (.dst m o) g sp tk c
    simp only [chkE] at c
    split at c
    · exact pt_pl g.K h rfl
    · cases c
  | .dgt m o i, S, X, W, sc, e, g, sp, tk, c => by
    have h := soundE (.dgt m o i) g sp tk c
    simp only [chkE] at c
    split at c
    · exact pt_pl g.K h rfl
    · cases c
  | .sc elt tg it own, S, X, W, sc, e, g, sp, tk, c => by
    have h := soundE (.sc elt tg it own) g sp tk c
    simp only [chkE] at c
    split at c
    · exact pt_pl g.K h rfl
    · cases c
  | .tm k o b, S, X, W, sc, e, g, sp, tk, c => by
    have h := soundE (.tm k o b) g sp tk c
    simp only [chkE] at c
    split at c
    · exact pt_pl g.K h rfl
    · cases c
  | .fst es, S, X, W, sc, e, g, sp, tk, c => by
    have h := soundE (.fst es) g sp tk c
    simp only [chkE] at c
    split at c
    · exact pt_pl g.K h rfl
    · cases c
  | .din m i o, S, X, W, sc, e, g, sp, tk, c => by
    simp only [chkE] at c
    split at c
    · simp only [Bool.and_eq_true, Bool.not_eq_true', beq_iff_eq] at c
      have e1 := c.1.1.1.1
      rename_i a' op' b' pos
      cases op' <;> first | (simp [copIs] at e1; done) | skip
      exact pt_imp (pt_cmpR (op_inO g c.1.1.2) (soundE i g sp tk c.1.2) (soundE o g sp tk c.2) c.1.1.1.2) fun σ H Q t => tDin_ev σ H _ (tTest_ev din_bl σ H Q t)
    · cases c
  | .oeq ne a b, S, X, W, sc, e, g, sp, tk, c => by
    simp only [chkE] at c
    split at c
    · simp only [Bool.and_eq_true, Bool.not_eq_true'] at c
      cases ne with
      | false =>
        have e1 := c.1.1.1
        simp only [Bool.false_eq_true, if_false] at e1
        rename_i a' op' b' pos
        cases op' <;> first | (simp [copIs] at e1; done) | skip
        exact pt_imp (pt_cmpR (op_oeq g) (soundE a g sp tk c.1.2) (soundE b g sp tk c.2) c.1.1.2) fun σ H Q t => tOeq_ev σ H _ (tTest_ev oeq_bl σ H Q t)
      | true =>
        have e1 := c.1.1.1
        simp only [if_true] at e1
        rename_i a' op' b' pos
        cases op' <;> first | (simp [copIs] at e1; done) | skip
        exact pt_imp (pt_cmpR (op_one g) (soundE a g sp tk c.1.2) (soundE b g sp tk c.2) c.1.1.2) fun σ H Q t => tOeq_ev σ H _ (tTest_ev oeq_bl σ H Q t)
    · cases c
  | .cmt d m es, S, X, W, sc, e, g, sp, tk, c => by
    have h := soundE (.cmt d m es) g sp tk c
    simp only [chkE] at c
    split at c
    · exact pt_pl g.K h rfl
    · cases c
  | .mkl i d f es, S, X, W, sc, e, g, sp, tk, c => by
    have h := soundE (.mkl i d f es) g sp tk c
    simp only [chkE] at c
    split at c
    · exact pt_pl g.K h rfl
    · cases c
theorem soundA : ∀ (ir : Exs) {S : Sg} {X : Cx} {W : WX} {sc : Scope} {es : List Expr}, Glob S G C k X → Scp sc.names X → Takes X W → chkA S X.N sc ir es = true → PA X es (tEvA G W (evA C ir))
  | .nil, S, X, W, sc, es, g, sp, tk, c => by
    cases es with
    | cons _ _ => simp [chkA] at c
    | nil => exact pa_imp pa_nil fun σ H Q t => tNil_ev (G := G) (W := W) σ H Q (by rw [evA_nil] at t; exact t)
  | .cons e r, S, X, W, sc, es, g, sp, tk, c => by
    cases es with
    | nil => simp [chkA] at c
    | cons x xs =>
      simp only [chkA, Bool.and_eq_true] at c
      exact pa_imp (pa_cons (soundE e g sp tk c.1.2) (soundA r g sp tk c.2) (starEach_cons c.1.1)) fun σ H Q t => tCons_ev σ H Q (by rw [evA_cons] at t; exact t)
  | .star e r, S, X, W, sc, es, g, sp, tk, c => by
    simp only [chkA] at c
    split at c
    · simp only [Bool.and_eq_true] at c
      exact pa_imp (StX.pa_star (soundE e g sp tk c.1) (soundA r g sp tk c.2) rfl) fun σ H Q t => by
        have := tStar_ev (e := e) (r := r) σ H Q t
        rw [g.K] at this; exact this
    · cases c
theorem soundF : ∀ (ir : Exs) {S : Sg} {X : Cx} {W : WX} {sc : Scope} {es : List Expr}, Glob S G C k X → Scp sc.names X → Takes X W → chkF S X.N sc ir es = true → PJ X es (ftE G W C ir)
  | .nil, S, X, W, sc, es, g, sp, tk, c => by
    cases es with
    | cons _ _ => simp [chkF] at c
    | nil => exact .nil
  | .star _ _, S, X, W, sc, es, g, sp, tk, c => by simp [chkF] at c
  | .cons e r, S, X, W, sc, es, g, sp, tk, c => by
    simp only [chkF] at c
    split at c
    · simp only [Bool.and_eq_true, decide_eq_true_eq] at c
      obtain ⟨⟨c1, c2⟩, c3⟩ := c
      subst c1
      exact .cons (pe_fmt (soundE e g sp tk c2)) (soundF r g sp tk c3)
    · simp only [Bool.and_eq_true] at c
      obtain ⟨⟨c1, c2⟩, c3⟩ := c
      have h := soundE e g sp tk c2
      split at c1
      · exact .cons (con_fmt h) (soundF r g sp tk c3)
      · cases c1
    · cases c
theorem soundO : ∀ (ir : Op) {S : Sg} {X : Cx} {W : WX} {sc : Scope} {o : Option Expr}, Glob S G C k X → Scp sc.names X → Takes X W → chkOp S X.N sc ir o = true → PO X o (tEvO G W (evOp C ir))
  | .no, S, X, W, sc, o, g, sp, tk, c => by
    cases o with
    | some _ => simp [chkOp] at c
    | none => exact ⟨fun pins s σ H Q I q => po_none.run pins s σ H Q I (tNoPart_ev σ H Q q)⟩
  | .yes e, S, X, W, sc, o, g, sp, tk, c => by
    cases o with
    | none => simp [chkOp] at c
    | some x =>
      simp only [chkOp] at c
      exact ⟨fun pins s σ H Q I q => (po_some (soundE e g sp tk c)).run pins s σ H Q I (tPart_ev σ H Q q)⟩
theorem soundI : ∀ (ir : Itr) {S : Sg} {X : Cx} {W : WX} {sc : Scope} {tg e : Expr}, Glob S G C k X → Scp sc.names X → Takes X W → chkI S X.N sc ir tg e = true → PI X tg e (iEv G W (evI C ir))
  | .val v, S, X, W, sc, tg, e, g, sp, tk, c => by
    simp only [chkI] at c
    have h := pi_valZ (tg := tg) g.K (soundE v g sp tk c)
    exact ⟨fun pins s σ H R' I q => h.run pins s σ H R' I (by rw [evI_val] at q; exact q)⟩
  | .rng1 v, S, X, W, sc, tg, e, g, sp, tk, c => by
    simp only [chkI] at c
    split at c
    · simp only [Bool.and_eq_true, beq_iff_eq] at c
      obtain ⟨⟨⟨⟨c1, c2⟩, c3⟩, c4⟩, c5⟩ := c
      subst c2
      rename_i _ p1 _ p2
      have h := pi_range1 (tg := tg) (p := p1) (pos := p2) (sp.gl _ c1) (g.blt _ c3) (pa_cons (soundE v g sp tk c5) (pa_imp pa_nil (tNil_ev (G := G) (W := W))) (starEach_cons c4)) (starEach_cons c4)
      exact ⟨fun pins s σ H R' I q => h.run pins s σ H R' I (by
        obtain ⟨φ, l, h0, rh, rl, p⟩ := iRng1_ev σ H R' q
        exact tCons_ev σ H _ ⟨φ, l, h0, rh, rl, p⟩)⟩
    · cases c
  | .rng2 a b, S, X, W, sc, tg, e, g, sp, tk, c => by
    simp only [chkI] at c
    split at c
    · simp only [Bool.and_eq_true, beq_iff_eq] at c
      obtain ⟨⟨⟨⟨⟨⟨c1, c2⟩, c3⟩, c4⟩, c5⟩, c6⟩, c7⟩ := c
      subst c2
      have pn := pa_cons (soundE b g sp tk c7) (pa_imp pa_nil (tNil_ev (G := G) (W := W))) (starEach_cons c5)
      have pn2 := pa_imp pn (t' := tEvA G W (evCons (evE C b) evNil)) (fun σ H Q t => tCons_ev σ H Q t)
      rename_i _ p1 _ _ p2
      have h := pi_range2 (tg := tg) (p := p1) (pos := p2) (sp.gl _ c1) (g.blt _ c3) (pa_cons (soundE a g sp tk c6) pn2 (starEach_cons c4)) (by rw [starEach_cons c4, starEach_cons c5]; rfl) (starEach_cons c5)
      exact ⟨fun pins s σ H R' I q => h.run pins s σ H R' I (by
        obtain ⟨φ, l, h0, rh, rl, p⟩ := iRng2_ev σ H R' q
        exact tCons_ev σ H _ ⟨φ, l, h0, rh, rl, p⟩)⟩
    · cases c
  | .enm v, S, X, W, sc, tg, e, g, sp, tk, c => by
    simp only [chkI] at c
    split at c
    · split at c
      · simp only [Bool.and_eq_true, beq_iff_eq] at c
        obtain ⟨⟨⟨⟨c1, c2⟩, c3⟩, c4⟩, c5⟩ := c
        subst c2
        rename_i elts kk tpos _ p1 _ p2
        have h := pi_enumA (p := p1) (pos := p2) (tpos := tpos) (elts := elts) (kk := kk) (sp.gl _ c1) (g.blt _ c3) (pa_cons (soundE v g sp tk c5) (pa_imp pa_nil (tNil_ev (G := G) (W := W))) (starEach_cons c4)) (starEach_cons c4)
        exact ⟨fun pins s σ H R' I q => h.run pins s σ H R' I (by
          obtain ⟨φ, l, h0, rh, rl, p⟩ := iEnm_ev σ H R' q
          rw [g.K] at p
          exact tCons_ev σ H _ ⟨φ, l, h0, rh, rl, p⟩)⟩
      · cases c
    · cases c
  | .zp a b, S, X, W, sc, tg, e, g, sp, tk, c => by
    simp only [chkI] at c
    split at c
    · split at c
      · simp only [Bool.and_eq_true, beq_iff_eq] at c
        obtain ⟨⟨⟨⟨⟨⟨c1, c2⟩, c3⟩, c4⟩, c5⟩, c6⟩, c7⟩ := c
        subst c2
        have pn := pa_cons (soundE b g sp tk c7) (pa_imp pa_nil (tNil_ev (G := G) (W := W))) (starEach_cons c5)
        have pn2 := pa_imp pn (t' := tEvA G W (evCons (evE C b) evNil)) (fun σ H Q t => tCons_ev σ H Q t)
        rename_i elts kk tpos _ p1 _ _ p2
        have h := RZ.pi_zipA (p := p1) (pos := p2) (tpos := tpos) (elts := elts) (kk := kk) (sp.gl _ c1) (g.blt _ c3) (pa_cons (soundE a g sp tk c6) pn2 (starEach_cons c4)) (by rw [starEach_cons c4]) (by rw [starEach_cons c5]; rfl)
        exact ⟨fun pins s σ H R' I q => h.run pins s σ H R' I (by
          obtain ⟨φ, l, h0, rh, rl, p⟩ := iZip_ev σ H R' q
          rw [g.K] at p
          exact tCons_ev σ H _ ⟨φ, l, h0, rh, rl, p⟩)⟩
      · cases c
    · cases c
end
end
end Zed
end
section
set_option Elab.async false
set_option linter.all false
set_option maxRecDepth 100000
set_option maxHeartbeats 4000000
namespace Zed
open PySem L2
section
variable {S : Sg} {G : Gc} {C : Orc} {k : Nat} {φ φ' : List Addr} {h h' : PHeap} {H H' : Hp} {l : Loc} {σ : St}
def PostS (G : Gc) (φ : List Addr) (H : Hp) (r : RS) (D : Ends) (W : WX) : Prop :=
  match r with
  | .nx l' h' => ∀ φ' H' σ', Ext φ H φ' H' → RelH G φ' h' H' → RepL G φ' H' l' σ' → D.nx σ' H'
  | .rt d h' => ∀ φ' H' v, Ext φ H φ' H' → RelH G φ' h' H' → RepV G φ' H' d v → D.rt v H'
  | .bk l' h' => ∀ φ' H' σ', Ext φ H φ' H' → RelH G φ' h' H' → RepL G φ' H' l' σ' → D.bk σ' H'
  | .ct l' h' => ∀ φ' H' σ', Ext φ H φ' H' → RelH G φ' h' H' → RepL G φ' H' l' σ' → D.ct σ' H'
  | .exc c fs l' h' => ∀ φ' H' σ' cls dd, Ext φ H φ' H' → RelH G φ' h' H' → RepL G φ' H' l' σ' → RepX G φ' H' c fs cls dd → W cls dd σ' H'
  | .stuck => False
def tEvS (G : Gc) (W : WX) (f : Loc → PHeap → RS) : TS := fun D σ H => ∃ φ l h, RelH G φ h H ∧ RepL G φ H l σ ∧ PostS G φ H (f l h) D W
theorem PostS.ext {φ1 : List Addr} {H1 : Hp} {r : RS} {D : Ends} {W : WX} (x : Ext φ H φ1 H1) (p : PostS G φ H r D W) : PostS G φ1 H1 r D W := by
  cases r with
  | nx l' h' => exact fun φ' H' v x1 rh rv => p φ' H' v (x.trans x1) rh rv
  | rt l' h' => exact fun φ' H' v x1 rh rv => p φ' H' v (x.trans x1) rh rv
  | bk l' h' => exact fun φ' H' v x1 rh rv => p φ' H' v (x.trans x1) rh rv
  | ct l' h' => exact fun φ' H' v x1 rh rv => p φ' H' v (x.trans x1) rh rv
  | exc c fs l' h' => exact fun φ' H' s cls dd x1 rh rl rx => p φ' H' s cls dd (x.trans x1) rh rl rx
  | stuck => exact p
/-- an expression, then a statement's rest -/
theorem Post.toS {W : WX} {r : R PV} {kk : PV → PHeap → RS} {D : Ends} (rh : RelH G φ h H) (rl : RepL G φ H l σ) (p : PostS G φ H (r.toS l kk) D W) :
    Post G φ H r (fun v H1 => ∃ φ1 h1 d1, Ext φ H φ1 H1 ∧ RelH G φ1 h1 H1 ∧ RepV G φ1 H1 d1 v ∧ RepL G φ1 H1 l σ ∧ PostS G φ1 H1 (kk d1 h1) D W) (fun c d H' => W c d σ H') := by
  cases r with
  | ok d h' => exact fun φ' H' v x rh' rv => ⟨φ', h', d, x, rh', rv, repL_ext rh x rl, PostS.ext x p⟩
  | exc c fs h' => exact fun φ' H' cls dd x rh' rx => p φ' H' σ cls dd x rh' (repL_ext rh x rl) rx
  | stuck => exact p
theorem PostT.toS {W : WX} {r : R Bool} {kk : Bool → PHeap → RS} {D : Ends} (rh : RelH G φ h H) (rl : RepL G φ H l σ) (p : PostS G φ H (r.toS l kk) D W) :
    PostT G φ H r (fun b H1 => ∃ φ1 h1, Ext φ H φ1 H1 ∧ RelH G φ1 h1 H1 ∧ RepL G φ1 H1 l σ ∧ PostS G φ1 H1 (kk b h1) D W) (fun c d H' => W c d σ H') := by
  cases r with
  | ok d h' => exact fun φ' H' x rh' => ⟨φ', h', x, rh', repL_ext rh x rl, PostS.ext x p⟩
  | exc c fs h' => exact fun φ' H' cls dd x rh' rx => p φ' H' σ cls dd x rh' (repL_ext rh x rl) rx
  | stuck => exact p
theorem PostI.toS {W : WX} {r : R Src} {kk : Src → PHeap → RS} {D : Ends} (rh : RelH G φ h H) (rl : RepL G φ H l σ) (p : PostS G φ H (r.toS l kk) D W) :
    PostI G φ H r (fun J H1 => ∃ φ1 h1 src, Ext φ H φ1 H1 ∧ RelH G φ1 h1 H1 ∧ ItOk G φ1 H1 src J ∧ RepL G φ1 H1 l σ ∧ PostS G φ1 H1 (kk src h1) D W) (fun c d H' => W c d σ H') := by
  cases r with
  | ok d h' => exact fun φ' H' J x rh' hj => ⟨φ', h', d, x, rh', hj, repL_ext rh x rl, PostS.ext x p⟩
  | exc c fs h' => exact fun φ' H' cls dd x rh' rx => p φ' H' σ cls dd x rh' (repL_ext rh x rl) rx
  | stuck => exact p
theorem tDrop_ev {W : WX} {e : Ex} (D : Ends) (σ : St) (H : Hp) (t : tEvS G W (exS C (.ex e)) D σ H) : tDrop (tEv G W (evE C e)) D σ H := by
  obtain ⟨φ, l, h, rh, rl, p⟩ := t
  unfold exS at p
  refine ⟨φ, l, h, rh, rl, Post.mono (Post.toS rh rl p) fun v H1 ⟨φ1, h1, d1, x1, rh1, rv1, rl1, p1⟩ => p1 φ1 H1 σ .refl rh1 rl1⟩
theorem tRet_ev {W : WX} {e : Ex} (D : Ends) (σ : St) (H : Hp) (t : tEvS G W (exS C (.ret e)) D σ H) : tRet (tEv G W (evE C e)) D σ H := by
  obtain ⟨φ, l, h, rh, rl, p⟩ := t
  unfold exS at p
  refine ⟨φ, l, h, rh, rl, Post.mono (Post.toS rh rl p) fun v H1 ⟨φ1, h1, d1, x1, rh1, rv1, rl1, p1⟩ => p1 φ1 H1 v .refl rh1 rv1⟩
theorem tRetN_ev {W : WX} (D : Ends) (σ : St) (H : Hp) (t : tEvS G W (exS C .ret0) D σ H) : tRetN D σ H := by
  obtain ⟨φ, l, h, rh, rl, p⟩ := t
  unfold exS at p
  exact p φ H _ .refl rh .non
theorem asg_bind {W : WX} {t : Tg} {v : V} {d : PV} {D : Ends} (rh : RelH G φ h H) (rl : RepL G φ H l σ) (rv : RepV G φ H d v)
    (p : PostS G φ H (match bindT t d l with | some l1 => .nx l1 h | none => .stuck) D W) : gEv G t v σ H D.nx := by
  cases z : bindT t d l with
  | none => rw [z] at p; exact p.elim
  | some l1 => rw [z] at p; exact ⟨φ, h, l, d, l1, rh, rl, rv, z, fun σ' rl' _ => p φ H σ' .refl rh rl'⟩
theorem tAsg_ev {W : WX} {t : Tg} {e : Ex} (D : Ends) (σ : St) (H : Hp) (q : tEvS G W (exS C (.asg t e)) D σ H) : tAsg (tEv G W (evE C e)) (gEv G t) D σ H := by
  obtain ⟨φ, l, h, rh, rl, p⟩ := q
  unfold exS at p
  refine ⟨φ, l, h, rh, rl, Post.mono (Post.toS rh rl p) fun v H1 ⟨φ1, h1, d1, x1, rh1, rv1, rl1, p1⟩ => ?_⟩
  refine asg_bind (W := W) (h := h1) rh1 rl1 rv1 ?_
  cases z : bindT t d1 l with
  | none => rw [z] at p1; exact p1
  | some l1 => rw [z] at p1; exact p1
theorem tIff_ev {W : WX} {c : Ex} {a b : Sxs} (D : Ends) (σ : St) (H : Hp) (q : tEvS G W (exS C (.iff c a b)) D σ H) : tIfS (tEvT G W fun l h => truthR (evE C c l h)) (tEvS G W (exSs C a)) (tEvS G W (exSs C b)) D σ H := by
  obtain ⟨φ, l, h, rh, rl, p⟩ := q
  unfold exS at p
  refine ⟨φ, l, h, rh, rl, PostT.mono (PostT.toS rh rl p) fun k H1 ⟨φ1, h1, x1, rh1, rl1, p1⟩ => ?_⟩
  cases k with
  | true => rw [if_pos rfl]; exact ⟨φ1, l, h1, rh1, rl1, p1⟩
  | false => rw [if_neg Bool.false_ne_true]; exact ⟨φ1, l, h1, rh1, rl1, p1⟩
theorem tSeq_ev {W : WX} {s : Sx} {r : Sxs} (D : Ends) (σ : St) (H : Hp) (q : tEvS G W (exSs C (.cons s r)) D σ H) : tSeq (tEvS G W (exS C s)) (tEvS G W (exSs C r)) D σ H := by
  obtain ⟨φ, l, h, rh, rl, p⟩ := q
  unfold exSs at p
  refine ⟨φ, l, h, rh, rl, ?_⟩
  cases z : exS C s l h with
  | nx l1 h1 =>
    rw [z] at p
    exact fun φ' H' σ' x rh' rl' => ⟨φ', l1, h1, rh', rl', PostS.ext x p⟩
  | rt d h1 => rw [z] at p; exact p
  | bk l1 h1 => rw [z] at p; exact p
  | ct l1 h1 => rw [z] at p; exact p
  | exc c fs l1 h1 => rw [z] at p; exact p
  | stuck => rw [z] at p; exact p
theorem tNext_ev {W : WX} (D : Ends) (σ : St) (H : Hp) (q : tEvS G W (exSs C .nil) D σ H) : tNext D σ H := by
  obtain ⟨φ, l, h, rh, rl, p⟩ := q
  unfold exSs at p
  exact p φ H σ .refl rh rl
/-- a for: the loop from turn i on, by the fuel that is left -/
theorem tFor_ev {W : WX} {tg : Tg} {fi : Loc → PHeap → R Src} {fb : Loc → PHeap → RS} (D : Ends) (σ : St) (H : Hp)
    (q : tEvS G W (fun l h => (fi l h).toS l fun src h1 => forLoop tg src fb (srcLen h1 src + 1) 0 l h1) D σ H) : tFor (iEv G W fi) (gEv G tg) (tEvS G W fb) D σ H := by
  obtain ⟨φ, l, h, rh, rl, p⟩ := q
  refine ⟨φ, l, h, rh, rl, ?_⟩
  have p : PostS G φ H ((fi l h).toS l fun src h1 => forLoop tg src fb (srcLen h1 src + 1) 0 l h1) D W := p
  cases ei : fi l h with
  | stuck => rw [ei] at p; exact p.elim
  | exc c fs h' => rw [ei] at p; exact fun φ' H' cls dd x rh' rx => p φ' H' σ cls dd x rh' (repL_ext rh x rl) rx
  | ok src h1 =>
    intro φ1 H1 J x1 rh1 hj
    have p : PostS G φ H (forLoop tg src fb (srcLen h1 src + 1) 0 l h1) D W := by
      rw [ei] at p; exact p
    refine ⟨fun i m σ' H' => ∃ φ' l' h', Ext φ1 H1 φ' H' ∧ RelH G φ' h' H' ∧ RepL G φ' H' l' σ' ∧ PostS G φ' H' (forLoop tg src fb m i l' h') D W,
      ⟨srcLen h1 src + 1, φ1, l, h1, .refl, rh1, repL_ext rh x1 rl, PostS.ext x1 p⟩, ?_⟩
    rintro i m σ2 H2 ⟨φ2, l2, h2, x2, rh2, rl2, p2⟩
    cases m with
    | zero => simp only [forLoop] at p2; exact p2.elim
    | succ m =>
      unfold forLoop at p2
      have J2 := hj φ2 h2 H2 x2 rh2 i
      cases es : srcAt h2 i src with
      | none => rw [es] at p2; exact p2.elim
      | some so =>
        rw [es] at p2
        cases so with
        | none => exact .inl ⟨J2.1 es, p2 φ2 H2 σ2 .refl rh2 rl2⟩
        | some d =>
          refine .inr ⟨(J2.2 d es).1, _, fun σ' H' hn => ⟨m, Nat.lt_succ_self _, hn⟩, fun x H3 hy => ?_⟩
          obtain ⟨x3, rh3, rx⟩ := (J2.2 d es).2 x H3 hy
          simp only at p2
          cases eb : bindT tg d l2 with
          | none => rw [eb] at p2; exact p2.elim
          | some l3 =>
            rw [eb] at p2
            simp only at p2
            refine ⟨φ2, h2, l2, d, l3, rh3, repL_ext rh2 x3 rl2, rx, eb, fun σ3 rl3 _ => ⟨φ2, l3, h2, rh3, rl3, ?_⟩⟩
            cases ez : fb l3 h2 with
            | nx l4 h4 =>
              rw [ez] at p2
              exact fun φ' H' σ' x rh' rl' => ⟨φ', l4, h4, x2.trans (x3.trans x), rh', rl', PostS.ext (x3.trans x) p2⟩
            | ct l4 h4 =>
              rw [ez] at p2
              exact fun φ' H' σ' x rh' rl' => ⟨φ', l4, h4, x2.trans (x3.trans x), rh', rl', PostS.ext (x3.trans x) p2⟩
            | bk l4 h4 => rw [ez] at p2; exact fun φ' H' σ' x rh' rl' => p2 φ' H' σ' (x3.trans x) rh' rl'
            | rt d4 h4 => rw [ez] at p2; exact fun φ' H' σ' x rh' rl' => p2 φ' H' σ' (x3.trans x) rh' rl'
            | exc c fs l4 h4 => rw [ez] at p2; exact fun φ' H' σ' cls dd x rh' rl' rx => p2 φ' H' σ' cls dd (x3.trans x) rh' rl' rx
            | stuck => rw [ez] at p2; exact p2.elim
theorem tWhl_ev {W : WX} {fc : Loc → PHeap → R Bool} {fb : Loc → PHeap → RS} {n : Nat} (D : Ends) (σ : St) (H : Hp)
    (q : tEvS G W (whlLoop fc fb n) D σ H) : tWhile (tEvT G W fc) (tEvS G W fb) D σ H := by
  obtain ⟨φ, l, h, rh, rl, p⟩ := q
  refine ⟨fun m σ' H' => ∃ φ' l' h', RelH G φ' h' H' ∧ RepL G φ' H' l' σ' ∧ PostS G φ' H' (whlLoop fc fb m l' h') D W, ⟨n, φ, l, h, rh, rl, p⟩, ?_⟩
  rintro m σ2 H2 ⟨φ2, l2, h2, rh2, rl2, p2⟩
  cases m with
  | zero => simp only [whlLoop] at p2; exact p2.elim
  | succ m =>
    unfold whlLoop at p2
    refine ⟨φ2, l2, h2, rh2, rl2, PostT.mono (PostT.toS rh2 rl2 p2) fun b H3 ⟨φ3, h3, x3, rh3, rl3, p3⟩ => ?_⟩
    cases b with
    | false => rw [if_neg Bool.false_ne_true]; exact p3 φ3 H3 σ2 .refl rh3 rl3
    | true =>
      rw [if_pos rfl]
      refine ⟨_, fun σ' H' hn => ⟨m, Nat.lt_succ_self _, hn⟩, φ3, l2, h3, rh3, rl3, ?_⟩
      simp only at p3
      cases ez : fb l2 h3 with
      | nx l4 h4 =>
        rw [ez] at p3
        exact fun φ' H' σ' x rh' rl' => ⟨φ', l4, h4, rh', rl', PostS.ext x p3⟩
      | ct l4 h4 =>
        rw [ez] at p3
        exact fun φ' H' σ' x rh' rl' => ⟨φ', l4, h4, rh', rl', PostS.ext x p3⟩
      | bk l4 h4 => rw [ez] at p3; exact p3
      | rt d4 h4 => rw [ez] at p3; exact p3
      | exc c fs l4 h4 => rw [ez] at p3; exact p3
      | stuck => rw [ez] at p3; exact p3.elim
/-- o[i] = e -/
def rPut (G : Gc) : TSet := fun o i v H Q => ∃ φ h x y z h', RelH G φ h H ∧ RepV G φ H x o ∧ RepV G φ H y i ∧ RepV G φ H z v ∧ putF x y z h = some h' ∧ ∀ φ' H', Ext φ H φ' H' → RelH G φ' h' H' → Q H'
theorem RepVs.set {ds : List PV} {vs : List V} {d : PV} {v : V} : ∀ (j : Nat), RepVs G φ H ds vs → RepV G φ H d v → RepVs G φ H (ds.set j d) (vs.set j v)
  | _, .nil, _ => .nil
  | 0, .cons _ b, r => .cons r b
  | j + 1, .cons a b, r => .cons a (RepVs.set j b r)
theorem set_Z {X : Cx} (hK : G.K = X.K) (hP : G.P = X.prog) (hw : G.w = X.w) (hu : X.A.units + 64 < cLine) : PSet X (rPut G) := by
  intro pins s σ H o i v ov iv u Q I ro ri rv q
  obtain ⟨φ, h, x, y, z, h', rh, r1, r2, r3, e, q⟩ := q
  unfold putF at e
  split at e
  · split at e
    · rename_i ds hx
      split at e
      · obtain ⟨j, e1, e2⟩ := omap e
        cases e2
        cases r1 with
        | ref hr =>
          cases r2
          obtain ⟨vs, e3, q1⟩ := rh.obj _ _ _ hx hr
          refine set_list pins s σ H _ _ v ov iv u Q I ro ri rv ⟨_, _, _, j, rfl, rfl, e3, by rw [← q1.length]; exact e1, ?_⟩
          have x := ext_put (H := H) (u := HO.lst (vs.set j v)) hr
          exact q φ _ x (rh.put hr ⟨_, upd_same, repVs_ext rh x (RepVs.set j q1 r3)⟩)
      · cases e
    · rename_i kvs hx
      obtain ⟨kvs', e1, e2⟩ := omap e
      cases e2
      cases r1 with
      | ref hr =>
        cases ro
        exact dic_put hK hP hw hu I rh hr hx r2 ri r3 rv e1 q
    · cases e
  · cases e
theorem tPut_ev {W : WX} {o i e : Ex} (D : Ends) (σ : St) (H : Hp) (q : tEvS G W (exS C (.put o i e)) D σ H) : tAsg (tEv G W (evE C e)) (gSub (tEv G W (evE C o)) (tEv G W (evE C i)) (rPut G)) D σ H := by
  obtain ⟨φ, l, h, rh, rl, p⟩ := q
  unfold exS at p
  refine ⟨φ, l, h, rh, rl, Post.mono (Post.toS rh rl p) fun v H1 ⟨φ1, h1, d1, x1, rh1, rv1, rl1, p1⟩ => ?_⟩
  refine ⟨φ1, l, h1, rh1, rl1, Post.mono (Post.toS rh1 rl1 p1) fun vo H2 ⟨φ2, h2, d2, x2, rh2, rv2, rl2, p2⟩ => ?_⟩
  refine ⟨φ2, l, h2, rh2, rl2, Post.mono (Post.toS rh2 rl2 p2) fun vi H3 ⟨φ3, h3, d3, x3, rh3, rv3, rl3, p3⟩ => ?_⟩
  cases z : putF d2 d3 d1 h3 with
  | none => rw [z] at p3; exact p3.elim
  | some h4 =>
    rw [z] at p3
    exact ⟨φ3, h3, d2, d3, d1, h4, rh3, repV_ext rh2 x3 rv2, rv3, repV_ext rh2 x3 (repV_ext rh1 x2 rv1), z, fun φ' H' x rh' => p3 φ' H' σ x rh' (repL_ext rh3 x rl3)⟩
/-! ### o.f = e -/
theorem fld_inv {ct : Ct} {x : PV} {f : Nat} {v : PV} {h h' : PHeap} (e : fldF ct x f v h = some h') : ∃ i c fs, x = .ref i ∧ h[i]? = some (.ins c fs) ∧ ownF ct c f = true ∧ fs.length < 900 ∧ h' = h.set i (.ins c (setFl fs f v)) := by
  unfold fldF at e
  split at e
  · rename_i i
    split at e
    · rename_i c fs hx
      split at e
      · rename_i hc
        rw [Bool.and_eq_true] at hc
        cases e
        exact ⟨i, c, fs, rfl, hx, hc.1, of_decide_eq_true hc.2, rfl⟩
      · cases e
    · cases e
  · cases e
theorem ext_slH {C dx : Addr} {vs' : List (Option V)} {a : Addr} {i : Nat} (rh : RelH G φ h H) (hi : φ[i]? = some a) (hdx : dx ≠ a) (hown : H dx = some (.own a) ∨ H dx = some (.xd [])) : Ext φ H φ (SlX.slH H a C dx vs') := by
  have na : ∀ b, b ∉ φ → b ≠ a := fun b nb z => nb (by rw [z]; exact List.mem_of_getElem? hi)
  refine ⟨List.prefix_refl _, fun b hb nb => absurd hb nb, fun b o e nb no => ?_, fun b x e nb => ?_⟩
  · by_cases z : b = dx
    · subst z
      rcases hown with q | q
      · rw [q] at e; cases e; exact no.elim
      · rw [q] at e; cases e
        unfold SlX.slH
        rw [upd_ne (na b nb), upd_same]
    · rw [SlX.slH_ne (na b nb) z]; exact e
  · by_cases z : b = dx
    · subst z
      right
      unfold SlX.slH
      rw [upd_ne (na b nb), upd_same]
    · left
      rw [SlX.slH_ne (na b nb) z]; exact e
theorem RelH.slot {C dx : Addr} {vs' : List (Option V)} {a : Addr} {i : Nat} {o : PObj} (rh : RelH G φ h H) (hi : φ[i]? = some a) (x : Ext φ H φ (SlX.slH H a C dx vs')) (ndx : dx ∉ φ) (ndt : ∀ ps, H dx ≠ some (.tbl ps)) (ro : RepO G φ (SlX.slH H a C dx vs') a o) : RelH G φ (h.set i o) (SlX.slH H a C dx vs') where
  tab := rh.tabs (fun b hb nb => absurd hb nb) fun b o e nb no _ => by
    cases o with
    | own y => exact absurd rfl (no y)
    | tbl ps =>
      have z : b ≠ dx := fun z => by
        subst z
        have nn : b ≠ a := fun z => nb (by rw [z]; exact List.mem_of_getElem? hi)
        exact ndt ps e
      rw [SlX.slH_ne (fun z => nb (by rw [z]; exact List.mem_of_getElem? hi)) z]; exact e
    | _ => exact x.keep b _ e nb trivial
  len := by simp [rh.len]
  nd := rh.nd
  obj := fun j o' b e1 e2 => by
    by_cases hj : j = i
    · subst hj
      rw [hi] at e2; cases e2
      have hl : j < h.length := by
        have := (List.getElem?_eq_some_iff.mp e1).1
        simpa using this
      rw [List.getElem?_set_self hl] at e1
      cases e1
      exact ro
    · rw [List.getElem?_set_ne (Ne.symm hj)] at e1
      have nb : b ≠ a := fun (z : b = a) => by
        subst z
        exact hj (nodup_get rh.nd e2 hi)
      have nb2 : b ≠ dx := fun z => ndx (by rw [← z]; exact List.mem_of_getElem? e2)
      exact repO_ext rh x (SlX.slH_ne nb nb2) (rh.obj j o' b e1 e2)
theorem setFl_key {fs : List (Nat × PV)} {f : Nat} {v : PV} : ∀ g, g ∈ (setFl fs f v).map (·.1) → g = f ∨ g ∈ fs.map (·.1) := by
  induction fs with
  | nil => intro g hg; simp [setFl] at hg; exact .inl hg
  | cons p r ih =>
    intro g hg
    obtain ⟨k, w⟩ := p
    simp only [setFl] at hg
    split at hg
    · exact .inr hg
    · rcases List.mem_cons.mp hg with e | hg
      · exact .inr (by rw [e]; simp)
      · rcases ih g hg with e | e
        · exact .inl e
        · exact .inr (List.mem_cons_of_mem _ e)
theorem setFl_nodup {fs : List (Nat × PV)} {f : Nat} {v : PV} (h : (fs.map (·.1)).Nodup) : ((setFl fs f v).map (·.1)).Nodup := by
  induction fs with
  | nil => simp [setFl]
  | cons p r ih =>
    obtain ⟨k, w⟩ := p
    simp only [List.map_cons, List.nodup_cons] at h
    simp only [setFl]
    split
    · simpa using h
    · rename_i ne
      rw [List.map_cons, List.nodup_cons]
      exact ⟨fun hm => (setFl_key _ hm).elim (fun e => ne e) h.1, ih h.2⟩
theorem putS_get {i j : Nat} {y w : V} {vs : List (Option V)} (h : vs[j]? = some (some w)) (ne : j ≠ i) : (SlX.putS i y vs)[j]? = some (some w) := (SlX.putS_ne ne).mpr h
/-- an instance of a class with slots turns -/
theorem fld_slot {X : Cx} (g : Glob S G C k X) (rh : RelH G φ h H) {i c f : Nat} {fs : List (Nat × PV)} {a : Addr} {d : PV} {y : V} (hi : φ[i]? = some a) (hx : h[i]? = some (.ins c fs)) (sl : C.ct.isSl c = true) (ow : ownF C.ct c f = true) (rd : RepV G φ H d y)
    {Q : Hp → Prop} (q : ∀ φ' H', Ext φ H φ' H' → RelH G φ' (h.set i (.ins c (setFl fs f d))) H' → Q H') :
    ∃ D dx p vs j, SlX.Slt H a D dx vs ∧ SlX.SCls X.K D ∧ SlX.Slot1 X.K D (S.nm f) p j ∧ Q (SlX.slH H a D dx (SlX.putS j y vs)) := by
  obtain ⟨nd, D, dx, hD, ⟨z, _⟩ | ⟨z, vs, hs, ⟨hne, hown⟩, qf⟩⟩ := rh.obj _ _ _ hx hi
  · rw [g.sl, sl] at z; cases z
  · have hD' := hD
    rw [g.mg, g.nm] at hD'
    unfold ownF at ow
    rw [sl, if_pos rfl] at ow
    obtain ⟨j, hj⟩ := Option.isSome_iff_exists.mp ow
    obtain ⟨p, s1⟩ := g.sls c f j D hj hD'
    refine ⟨D, dx, p, vs, j, hs, g.scl c D sl hD', s1, ?_⟩
    have ndx : dx ∉ φ := fun hm => by
      obtain ⟨_, o, _, _, ro⟩ := rh.at hm
      obtain ⟨u, eu, _, _, n1, n2, _⟩ := ro.some
      rcases hown with e | e
      · rw [eu] at e; cases e; exact n1 _ rfl
      · rw [eu] at e; cases e; exact n2 _ rfl
    have x := ext_slH (C := D) (vs' := SlX.putS j y vs) rh hi hne hown
    refine q φ _ x (rh.slot hi x ndx (fun ps e => by rcases hown with q | q <;> (rw [q] at e; cases e)) ⟨setFl_nodup nd, D, dx, hD, .inr ⟨z, _, SlX.slH_slt hne, ⟨hne, .inr (by unfold SlX.slH; rw [upd_ne hne, upd_same])⟩, fun f' d' hf => ?_⟩⟩)
    rw [lookup_setFl] at hf
    by_cases e : f' = f
    · subst e
      rw [if_pos rfl] at hf
      cases hf
      exact ⟨j, y, by rw [g.slo]; exact hj, SlX.putS_get _ _ _, repV_ext rh x rd⟩
    · rw [if_neg e] at hf
      obtain ⟨j', v', a1, a2, a3⟩ := qf f' d' hf
      have nj : j' ≠ j := fun z => e (g.inj c f' f j (by rw [← g.slo, a1, z]) hj)
      exact ⟨j', v', a1, putS_get a2 nj, repV_ext rh x a3⟩
/-- a plain instance turns -/
theorem fld_plain {X : Cx} (g : Glob S G C k X) (rh : RelH G φ h H) {i c f : Nat} {fs : List (Nat × PV)} {a : Addr} {d : PV} {y : V} (hi : φ[i]? = some a) (hx : h[i]? = some (.ins c fs)) (sl : C.ct.isSl c = false) (ow : ownF C.ct c f = true) (hl : fs.length < 900) (rd : RepV G φ H d y)
    {Q : Hp → Prop} (q : ∀ φ' H', Ext φ H φ' H' → RelH G φ' (h.set i (.ins c (setFl fs f d))) H' → Q H') :
    ∃ D dx ws, H a = some (.ins D dx ws) ∧ Cls X.K D ∧ NoAttr X.K D (S.nm f) ∧ ws.length < 1000 ∧ Q (upd H a (.ins D dx (L2.putF (S.nm f) y ws))) := by
  obtain ⟨nd, D, dx, hD, ⟨z, ws, a0, al, qf, q2⟩ | ⟨z, _⟩⟩ := rh.obj _ _ _ hx hi
  · have hD' := hD
    rw [g.mg, g.nm] at hD'
    unfold ownF at ow
    rw [sl, if_neg Bool.false_ne_true] at ow
    obtain ⟨c1, c2⟩ := g.pcl c f D sl ow hD'
    refine ⟨D, dx, ws, a0, c1, c2, by omega, ?_⟩
    have x := ext_put (H := H) (u := HO.ins D dx (L2.putF (S.nm f) y ws)) hi
    have lp := len_putF (f := S.nm f) (v := y) (fs := ws)
    refine q φ _ x (rh.put hi ⟨setFl_nodup nd, D, dx, hD, .inl ⟨z, _, upd_same, ?_, fun f' d' hf => ?_, fun x' v' hv => ?_⟩⟩)
    · cases e : fs.lookup f with
      | none =>
        rw [len_setFl e]
        have := lp.1
        omega
      | some d0 =>
        obtain ⟨_, v0, e1, _⟩ := qf f d0 e
        rw [g.nm] at e1
        rw [lp.2 (by rw [e1]; rfl)]
        exact Nat.le_trans al len_setFl'
    · rw [lookup_setFl] at hf
      rw [g.nm, lookup_putF]
      by_cases e : f' = f
      · subst e
        rw [if_pos rfl] at hf
        cases hf
        exact ⟨by rw [g.fdl]; exact ow, y, by rw [if_pos rfl], repV_ext rh x rd⟩
      · rw [if_neg e] at hf
        obtain ⟨b0, v0, b1, b2⟩ := qf f' d' hf
        have nn : S.nm f' ≠ S.nm f := fun z => e (g.inn c f' f (by rw [← g.fdl]; exact b0) ow z)
        rw [g.nm] at b1
        exact ⟨b0, v0, by rw [if_neg nn]; exact b1, repV_ext rh x b2⟩
    · rw [lookup_putF] at hv
      by_cases e : x' = S.nm f
      · exact ⟨f, by rw [g.nm]; exact e.symm, by rw [lookup_setFl, if_pos rfl]; rfl⟩
      · rw [if_neg e] at hv
        obtain ⟨f0, e1, e2⟩ := q2 x' v' hv
        refine ⟨f0, e1, ?_⟩
        rw [lookup_setFl]
        split
        · rfl
        · exact e2
  · rw [g.sl, sl] at z; cases z
theorem ps_fldZ {X : Cx} {W : WX} {o value : Expr} {n : Nat} {fo fv : Loc → PHeap → R PV} {pos pos' : Pos} (g : Glob S G C k X) (ho : PE X o (tEv G W fo)) (hv : PE X value (tEv G W fv)) (hs : swapsWith value (some (.Attribute o (S.nm n) pos')) pos.line X.env = pure false) :
    PS X (.Assign [.Attribute o (S.nm n) pos'] value pos) (tEvS G W fun l h => (fv l h).toS l fun v h1 => (fo l h1).toS l fun x h2 => match fldF C.ct x n v h2 with | some h3 => .nx l h3 | none => .stuck) := by
  refine ⟨fun pins s σ H D I q => ?_⟩
  obtain ⟨φ, l, h, rh, rl, p⟩ := q
  have p : PostS G φ H ((fv l h).toS l fun v h1 => (fo l h1).toS l fun x h2 => match fldF C.ct x n v h2 with | some h3 => .nx l h3 | none => .stuck) D W := p
  -- which kind of class
  by_cases sl : ∃ v h1 i h2 c fs, fv l h = .ok v h1 ∧ fo l h1 = .ok (.ref i) h2 ∧ h2[i]? = some (.ins c fs) ∧ C.ct.isSl c = true
  · obtain ⟨v0, h10, i0, h20, c0, fs0, ev, eo, ex, sl⟩ := sl
    refine (SlX.ps_sl ho hv hs).run pins s σ H D I ⟨φ, l, h, rh, rl, ?_⟩
    rw [ev] at p ⊢
    intro φ1 H1 y x1 rh1 ry
    have p1 := PostS.ext x1 p
    simp only [R.toS] at p1
    refine ⟨φ1, l, h10, rh1, repL_ext rh x1 rl, ?_⟩
    rw [eo] at p1 ⊢
    intro φ2 H2 xo x2 rh2 rx
    have p2 := PostS.ext x2 p1
    simp only at p2
    cases e : fldF C.ct (.ref i0) n v0 h20 with
    | none => rw [e] at p2; exact p2.elim
    | some h3 =>
      rw [e] at p2
      obtain ⟨i, c, fs, q1, q2, q3, q4, q5⟩ := fld_inv e
      cases q1
      rw [ex] at q2
      cases q2
      subst q5
      cases rx with
      | ref hr =>
        obtain ⟨D', dx, pp, vs, j, a1, a2, a3, a4⟩ := fld_slot g rh2 hr ex sl q3 (repV_ext rh1 x2 ry) (Q := fun H' => D.nx σ H') fun φ' H' x rh' => p2 φ' H' σ x rh' (repL_ext rh2 x (repL_ext rh1 x2 (repL_ext rh x1 rl)))
        exact ⟨_, D', dx, pp, vs, j, rfl, a1, a2, a3, a4⟩
  · refine (ps_fld ho hv hs).run pins s σ H D I ⟨φ, l, h, rh, rl, ?_⟩
    cases ev : fv l h with
    | stuck => rw [ev] at p; exact p.elim
    | exc c fs h' => rw [ev] at p; exact fun φ' H' cls dd x rh' rx => p φ' H' σ cls dd x rh' (repL_ext rh x rl) rx
    | ok v0 h10 =>
      rw [ev] at p
      intro φ1 H1 y x1 rh1 ry
      have p1 := PostS.ext x1 p
      simp only [R.toS] at p1
      have rl1 := repL_ext rh x1 rl
      refine ⟨φ1, l, h10, rh1, rl1, ?_⟩
      cases eo : fo l h10 with
      | stuck => rw [eo] at p1; exact p1.elim
      | exc c fs h' => rw [eo] at p1; exact fun φ' H' cls dd x rh' rx => p1 φ' H' σ cls dd x rh' (repL_ext rh1 x rl1) rx
      | ok x0 h20 =>
        rw [eo] at p1
        intro φ2 H2 xo x2 rh2 rx
        have p2 := PostS.ext x2 p1
        simp only at p2
        cases e : fldF C.ct x0 n v0 h20 with
        | none => rw [e] at p2; exact p2.elim
        | some h3 =>
          rw [e] at p2
          obtain ⟨i, c, fs, q1, q2, q3, q4, q5⟩ := fld_inv e
          subst q1
          subst q5
          have nsl : C.ct.isSl c = false := by
            cases zz : C.ct.isSl c with
            | false => rfl
            | true => exact absurd ⟨v0, h10, i, h20, c, fs, ev, eo, q2, zz⟩ sl
          cases rx with
          | ref hr =>
            obtain ⟨D', dx, ws, a1, a2, a3, a4, a5⟩ := fld_plain g rh2 hr q2 nsl q3 q4 (repV_ext rh1 x2 ry) (Q := fun H' => D.nx σ H') fun φ' H' x rh' => p2 φ' H' σ x rh' (repL_ext rh2 x (repL_ext rh1 x2 rl1))
            exact ⟨_, D', dx, ws, rfl, a1, a2, a3, a4, a5⟩
theorem ps_augZ {X : Cx} {W : WX} {o value : Expr} {n : Nat} {fo fv : Loc → PHeap → R PV} {pos pos' : Pos} (g : Glob S G C k X) (ho : PE X o (tEv G W fo)) (hv : PE X value (tEv G W fv)) :
    PS X (.AugAssign (.Attribute o (S.nm n) pos') .Add value pos) (tEvS G W fun l h => (fo l h).toS l fun x h1 => augK C.ct n x l h1 (fv l h1)) := by
  refine ⟨fun pins s σ H D I q => (ps_fldaug ho hv in_add).run pins s σ H D I ?_⟩
  obtain ⟨φ, l, h, rh, rl, p⟩ := q
  refine ⟨φ, l, h, rh, rl, ?_⟩
  have p : PostS G φ H ((fo l h).toS l fun x h1 => augK C.ct n x l h1 (fv l h1)) D W := p
  cases eo : fo l h with
  | stuck => rw [eo] at p; exact p.elim
  | exc c fs h' => rw [eo] at p; exact fun φ' H' cls dd x rh' rx => p φ' H' σ cls dd x rh' (repL_ext rh x rl) rx
  | ok x0 h10 =>
    rw [eo] at p
    intro φ1 H1 xo x1 rh1 rx
    have p1 := PostS.ext x1 p
    simp only [R.toS] at p1
    have rl1 := repL_ext rh x1 rl
    unfold augK at p1
    cases en : numF C.ct n x0 h10 with
    | none => rw [en] at p1; exact p1.elim
    | some i0 =>
      rw [en] at p1
      simp only at p1
      unfold numF at en
      split at en
      · rename_i i
        split at en
        · rename_i c fs hx
          split at en
          · cases en
          · rename_i sl0
            have sl : C.ct.isSl c = false := by simpa using sl0
            split at en
            · rename_i m hl
              cases en
              cases rx with
              | ref hr =>
                obtain ⟨nd, D0, dx, hD, ⟨z, ws, a0, al, qf, q2⟩ | ⟨z, _⟩⟩ := rh1.obj _ _ _ hx hr
                · obtain ⟨fo1, v, lv, rv⟩ := qf n _ hl
                  cases rv
                  have hD' := hD
                  rw [g.mg, g.nm] at hD'
                  rw [g.fdl] at fo1
                  obtain ⟨c1, c2⟩ := g.pcl c n D0 sl fo1 hD'
                  rw [g.nm] at lv
                  refine ⟨_, D0, dx, ws, .int m, rfl, a0, c1, c2, lv, φ1, l, h10, rh1, rl1, ?_⟩
                  cases ev : fv l h10 with
                  | stuck => rw [ev] at p1; exact p1.elim
                  | exc c' fs' h' => rw [ev] at p1; exact fun φ' H' cls dd x rh' rx => p1 φ' H' σ cls dd x rh' (repL_ext rh1 x rl1) rx
                  | ok y0 h20 =>
                    rw [ev] at p1
                    intro φ2 H2 y x2 rh2 ry
                    have p2 := PostS.ext x2 p1
                    simp only [R.toS] at p2
                    split at p2
                    · rename_i j
                      cases ry
                      refine ⟨m, j, rfl, rfl, ?_⟩
                      cases en2 : numF C.ct n (.ref i) h20 with
                      | none => rw [en2] at p2; exact p2.elim
                      | some i9 =>
                      obtain ⟨c9, n9⟩ := i9
                      rw [en2] at p2
                      simp only at p2
                      refine (Decidable.em (c9 = c)).elim (fun ec => ?_) (fun ec => by rw [if_neg ec] at p2; exact p2.elim)
                      rw [if_pos ec] at p2
                      subst ec
                      cases e : fldF C.ct (.ref i) n (.int (m + j)) h20 with
                      | none => rw [e] at p2; exact p2.elim
                      | some h3 =>
                        rw [e] at p2
                        obtain ⟨i', c', fs', q1, q3, q4, q5, q6⟩ := fld_inv e
                        cases q1
                        subst q6
                        have hr2 := pre_get x2.pre hr
                        simp only [numF, q3] at en2
                        split at en2
                        · cases en2
                        · rename_i nsl0
                          have nsl : C.ct.isSl c' = false := by simpa using nsl0
                          split at en2
                          · cases en2
                            obtain ⟨D', dx', ws', a1, a2, a3, a4, a5⟩ := fld_plain g rh2 hr2 q3 nsl q4 q5 (.int (m + j)) (Q := fun H' => D.nx σ H') fun φ' H' x rh' => p2 φ' H' σ x rh' (repL_ext rh2 x (repL_ext rh1 x2 rl1))
                            obtain ⟨_, D1, dx1, hD1, ⟨_, ws1, b0, _⟩ | ⟨z, _⟩⟩ := rh2.obj _ _ _ q3 hr2
                            · rw [a1] at b0
                              cases b0
                              rw [hD] at hD1
                              cases hD1
                              exact ⟨_, _, a1, a4, a5⟩
                            · rw [g.sl] at z
                              rw [z] at nsl; cases nsl
                          · cases en2
                    · exact p2.elim
                · rw [g.sl] at z
                  rw [z] at sl; cases sl
            · cases en
        · cases en
      · cases en
end
end Zed
end
section
set_option Elab.async false
set_option linter.all false
set_option maxRecDepth 100000
set_option maxHeartbeats 4000000
namespace Zed
open PySem L2
/-! ### assignments: which form the machine takes -/
def isStar : Expr → Bool
  | .Starred .. => true
  | _ => false
def swpO (sc : Scope) (targets : List Expr) (value : Expr) : Option (Option (List Str)) :=
  match (match targets, value with
    | [.Tuple ts _ _], .Tuple vs _ _ | [.List ts _], .Tuple vs _ _ => some (ts, vs)
    | _, _ => none) with
  | none => some none
  | some (ts, vs) =>
    if (!(ts.length == 2 || ts.length == 3) || vs.length != ts.length) = true then some none
    else if (vs.any isStar) = true then some none
    else
      let names := ts.filterMap fun
        | .Name id pos => if (sc.names.lookup id == some .local && pos.line == (ts.head?.map (·.pos.line)).getD 0) = true then some id else none
        | _ => none
      if (names.length != ts.length || names.eraseDups.length != names.length) = true then some none
      else if (vs.all (foldedForSure 8)) = true then some none
      else if (vs.all (constantsAlone 8)) = true then none
      else some (some names)
theorem blockKind_fn {env : Env} (h : env.scope.kind = .function) : (env.blockKind != .function) = false ∧ (env.blockKind == .function) = true := by
  have : env.blockKind = .function := by
    unfold Env.blockKind
    rw [h]; rfl
  rw [this]; exact ⟨rfl, rfl⟩
theorem swp_core {env : Env} {ts vs : List Expr} {r : Option (List Str)} (h : (if (!(ts.length == 2 || ts.length == 3) || vs.length != ts.length) = true then some none
    else if (vs.any isStar) = true then some none
    else
      let names := ts.filterMap fun
        | .Name id pos => if (env.scope.names.lookup id == some .local && pos.line == (ts.head?.map (·.pos.line)).getD 0) = true then some id else none
        | _ => none
      if (names.length != ts.length || names.eraseDups.length != names.length) = true then some none
      else if (vs.all (foldedForSure 8)) = true then some none
      else if (vs.all (constantsAlone 8)) = true then none
      else some (some names)) = some r) {M : Sem (Option (List Str))}
    (hM : M = (if (!(ts.length == 2 || ts.length == 3) || vs.length != ts.length) = true then pure none
    else if (vs.any isStar) = true then pure none
    else
      let names := ts.filterMap fun
        | .Name id pos => if (env.scope.names.lookup id == some .local && pos.line == (ts.head?.map (·.pos.line)).getD 0) = true then some id else none
        | _ => none
      if (names.length != ts.length || names.eraseDups.length != names.length) = true then pure none
      else if (vs.all (foldedForSure 8)) = true then pure none
      else if (vs.all (constantsAlone 8)) = true then (do unsupported "assign.tuple-of-constant-expressions:order-of-the-stores"; pure (some names))
      else pure (some names))) : M = pure r := by
  rw [hM]
  split at h
  · rename_i c; cases h; rw [if_pos c]
  · rename_i c1
    rw [if_neg c1]
    split at h
    · rename_i c; cases h; rw [if_pos c]
    · rename_i c2
      rw [if_neg c2]
      simp only at h ⊢
      split at h
      · rename_i c; cases h; rw [if_pos c]
      · rename_i c3
        rw [if_neg c3]
        split at h
        · rename_i c; cases h; rw [if_pos c]
        · rename_i c4
          rw [if_neg c4]
          split at h
          · cases h
          · rename_i c5; cases h; rw [if_neg c5]
theorem swp_ok {env : Env} {ts : List Expr} {v : Expr} {r : Option (List Str)} (hk : env.scope.kind = .function) (h : swpO env.scope ts v = some r) : swappedStores ts v env = pure r := by
  have bk := (blockKind_fn hk).1
  unfold swpO at h
  split at h
  · rename_i hm
    cases h
    split at hm
    · cases hm
    · cases hm
    · rename_i n1 n2
      unfold swappedStores
      split
      · rename_i hq
        split at hq
        · exact absurd rfl (n1 _ _ _ _ _ _ rfl)
        · exact absurd rfl (n2 _ _ _ _ _ rfl)
        · cases hq
      · rfl
  · rename_i as vs hm
    split at hm
    · cases hm
      refine swp_core h ?_
      unfold swappedStores
      simp only [bk, Bool.or_false]
      rfl
    · cases hm
      refine swp_core h ?_
      unfold swappedStores
      simp only [bk, Bool.or_false]
      rfl
    · cases hm
def swO (sc : Scope) (tg value : Expr) : Bool :=
  match value with
  | .ListComp _ _ s vp => (match tg with
    | .Name t pos => sc.names.lookup t == some .local && pos.line == vp.line && !(s.names.any fun (n, k) => n == t && (k == .local || k == .cell))
    | _ => false)
  | .SetComp _ _ s vp => (match tg with
    | .Name t pos => sc.names.lookup t == some .local && pos.line == vp.line && !(s.names.any fun (n, k) => n == t && (k == .local || k == .cell))
    | _ => false)
  | .DictComp _ _ _ s vp => (match tg with
    | .Name t pos => sc.names.lookup t == some .local && pos.line == vp.line && !(s.names.any fun (n, k) => n == t && (k == .local || k == .cell))
    | _ => false)
  | _ => false
theorem sw_ok {env : Env} {tg v : Expr} {line : Nat} (hk : env.scope.kind = .function) : swapsWith v (some tg) line env = pure (swO env.scope tg v) := by
  have bk := (blockKind_fn hk).2
  unfold swapsWith swO
  cases v <;> first | rfl | (cases tg <;> first | rfl | (simp only [bk, Bool.true_and]; rfl))
mutual
def chkS (S : Sg) (N : List Str) (sc : Scope) : Sx → Stmt → Bool
  | .ex e, st => match st with
    | .Expr v _ => noComp v && chkE S N sc e v
    | _ => false
  | .asg t e, st => match st with
    | .Assign [tg] v _ =>
      if swO sc tg v then
        match t, e, tg, v with
        | .nm i, .lc _ _ _ _ _ _, .Name x _, .ListComp .. => (N[i]? == some x) && isK sc.names x .local && chkE S N sc e v
        | _, _, _, _ => false
      else match swpO sc [tg] v with
        | some none => chkG N sc.names t tg && chkE S N sc e v
        | some (some [x, y]) => (match t, e, tg, v with
          | .tp (.cons (.nm i) (.cons (.nm j) .nil)), .tup es, .Tuple [.Name x' _, .Name y' _] _ _, .Tuple [a, b] _ _ =>
            (x == x') && (y == y') && (N[i]? == some x) && (N[j]? == some y) && (i != j) && isK sc.names x .local && isK sc.names y .local && chkA S N sc es [a, b]
          | _, _, _, _ => false)
        | some (some [x, y, z]) => (match t, e, tg, v with
          | .tp (.cons (.nm i) (.cons (.nm j) (.cons (.nm m) .nil))), .tup es, .Tuple [.Name x' _, .Name y' _, .Name z' _] _ _, .Tuple [a, b, c] _ _ =>
            (x == x') && (y == y') && (z == z') && (N[i]? == some x) && (N[j]? == some y) && (N[m]? == some z) && (i != j) && (i != m) && (j != m) && isK sc.names x .local && isK sc.names y .local && isK sc.names z .local && chkA S N sc es [a, b, c]
          | _, _, _, _ => false)
        | _ => false
    | _ => false
  | .put o i e, st => match st with
    | .Assign [.Subscript o' i' _] v _ => noSlice i' && chkE S N sc e v && chkE S N sc o o' && chkE S N sc i i'
    | _ => false
  | .fld o f e, st => match st with
    | .Assign [.Attribute o' x _] v _ => (x == S.nm f) && !swO sc (.Attribute o' x ⟨0, 0, 0, 0⟩) v && chkE S N sc e v && chkE S N sc o o'
    | _ => false
  | .ret e, st => match st with
    | .Return (some v) _ => chkE S N sc e v
    | _ => false
  | .ret0, st => match st with
    | .Return none _ => true
    | _ => false
  | .iff c a b, st => match st with
    | .If c' a' b' _ => chkE S N sc c c' && chkSs S N sc a a' && chkSs S N sc b b'
    | _ => false
  | .for_ t it b, st => match st with
    | .For tg it' b' [] _ => chkI S N sc it tg it' && chkG N sc.names t tg && noSet it' && chkSs S N sc b b'
    | _ => false
  | .whl c b, st => match st with
    | .While c' b' [] _ => chkE S N sc c c' && chkSs S N sc b b'
    | _ => false
  | .pass, st => match st with
    | .Pass _ => true
    | _ => false
  | .brk, st => match st with
    | .Break _ => true
    | _ => false
  | .cnt, st => match st with
    | .Continue _ => true
    | _ => false
  | .rai c m, st => match st with
    | .Raise (some (.Call (.Name x _) [.Constant (.str m') _ _] [] _)) none _ => (x == S.nm c) && S.exc c && isK sc.names x .globalImplicit && okNm x && (m == m')
    | _ => false
  | .stk, _ => true
  | .raf c f e, st => match st with
    | .Raise (some (.Call (.Name x _) [a] [] _)) none _ => (x == S.nm c) && isK sc.names x .globalImplicit && okNm x && noStar a && chkE S N sc e a
    | _ => false
  | .augf o f e, st => match st with
    | .AugAssign (.Attribute o' x _) .Add v _ => (x == S.nm f) && chkE S N sc o o' && chkE S N sc e v
    | _ => false
def chkSs (S : Sg) (N : List Str) (sc : Scope) : Sxs → List Stmt → Bool
  | .nil, l => match l with
    | [] => true
    | _ => false
  | .cons s r, l => match l with
    | st :: sts => chkS S N sc s st && chkSs S N sc r sts
    | _ => false
end
section
variable {S : Sg} {G : Gc} {C : Orc} {k : Nat}
theorem chkG_noStar {N : List Str} {ns : Nms} {t : Tg} {e : Expr} (h : chkG N ns t e = true) : noStar e = true := by
  unfold chkG at h
  split at h
  · rfl
  · rfl
  · cases h
/-- a statement, then what is at a slot is locked -/
theorem ps_lkNx {X : Cx} {st : Stmt} {t : TS} (h : PS X st t) : PS X st (fun D σ H => t { D with nx := fun σ' H' => ∃ d u, H' d = some u ∧ Mut (some u) ∧ ∀ od, D.nx σ' (upd H' d (.frz od u)) } σ H) := by
  refine ⟨fun pins s σ H D I hw => ?_⟩
  refine thn (h.run pins s σ H _ I hw) fun f s1 q => ?_
  cases f with
  | next =>
    obtain ⟨σ', H', I2, d, u, e, mu, q⟩ := q
    obtain ⟨od, I3⟩ := I2.lock e mu
    exact ⟨σ', _, I3, q od⟩
  | brk => exact q
  | cont => exact q
  | ret v => exact q
/-- .. or not -/
def lkNx (z : Bool) (D : Ends) : Ends := match z with
  | true => { D with nx := fun σ' H' => ∃ d u, H' d = some u ∧ Mut (some u) ∧ ∀ od, D.nx σ' (upd H' d (.frz od u)) }
  | false => D
theorem ps_zNx {X : Cx} {st : Stmt} {t : TS} {z : Bool} (h : PS X st t) : PS X st (fun D σ H => t (lkNx z D) σ H) := by
  cases z with
  | false => exact h
  | true => exact ps_lkNx h
theorem zQ_nx {z : Bool} {D : Ends} {σ : St} {i : Nat} (v : V) (H' : Hp) (q : zQ z (fun v H1 => D.nx (σ.set i (some v)) H1) v H') : (lkNx z D).nx (σ.set i (some v)) H' := by
  cases z with
  | false => exact q
  | true => obtain ⟨d, u, e1, e2, mu, q⟩ := q; exact ⟨d, u, e2, mu, q⟩
theorem soundLc {z : Bool} {elt : Ex} {tg : Tg} {it : Itr} {ifs : Op} {own : List Nat} {X : Cx} {W : WX} {sc : Scope} {e : Expr} {i : Nat} {x : Str} {px spos : Pos} (g : Glob S G C k X) (sp : Scp sc.names X) (tk : Takes X W)
    (c : chkE S X.N sc (.lc z elt tg it ifs own) e = true) (hi : X.N[i]? = some x) (hl : X.env.scope.names.lookup x = some .local) (sw : swapsWith e (some (.Name x px)) spos.line X.env = pure true) :
    PS X (.Assign [.Name x px] e spos) (tAsg (tEv G W (evE C (.lc z elt tg it ifs own))) (gName i)) := by
  simp only [chkE] at c
  split at c
  · simp only [Bool.and_eq_true, beq_iff_eq] at c
    obtain ⟨⟨⟨⟨⟨⟨⟨c1, c2⟩, c3⟩, c4⟩, c5⟩, c6⟩, c7⟩, c8⟩ := c
    have ok0 := blkOk_by c2
    have ok : BlkOk X.N X.env.scope _ (ownOf X.N own) := ⟨ok0.kind, ok0.uniq, ok0.ix, fun y hy e => sp.cf y.1 (ok0.free y hy e), ok0.own⟩
    have gB := fun (s : Shared) (H : Hp) (A : Addr) (cl : List (Str × Addr)) (fp : List Addr) => g.blk (s := s) (H := H) (cl := cl) (A := A) (fp := fp) ok.kind
    have hs : ∀ i, i ∈ slotsT tg → i ∈ own := fun i hi => by
      have := List.all_eq_true.mp c5 i hi
      simpa using this
    refine ps_imp (t := fun D σ H => tAsg (tLc (iEv G W (evI C it)) (gEv G tg) (tEvT G W0 (evT1 C ifs)) (tEv G W0 (evE C elt)) own) (gName i) (lkNx z D) σ H) ?_ fun D σ H t => tLc_ev hs σ H (fun v H1 => D.nx (σ.set i (some v)) H1) _ zQ_nx (by unfold tAsg at t; rw [evE_lc] at t; exact t)
    rw [← c3]
    refine ps_zNx (ps_setLc g.calm g.nd hi hl sw (soundI it g sp tk c1) ok (fun s H A cl fp => soundG tg g.K g.nd g.calm .blk c4) (fun s H A cl fp => ?_) (fun s H A cl fp => soundE elt (gB s H A cl fp) .blk takes0 c8) (foldedSet c6))
    split at c7
    · split at c7
      · refine ⟨fun pins s σ H Q I q => pts_nil.run pins s σ H Q I ?_⟩
        obtain ⟨φ, l, h, rh, rl, p⟩ := q
        unfold evT1 at p
        exact p φ H .refl rh
      · cases c7
    · simp only [Bool.and_eq_true] at c7
      cases ifs with
      | no => simp at c7
      | yes cd =>
        simp only [chkOp] at c7
        have := pts_one (soundT cd (gB s H A cl fp) .blk (takes0 (X := X.blk s H _ (compEnvC _ cl A X.env) fp)) c7.2)
        refine ⟨fun pins s σ H Q I q => this.run pins s σ H Q I ?_⟩
        obtain ⟨φ, l, h, rh, rl, p⟩ := q
        unfold evT1 at p
        exact ⟨φ, l, h, rh, rl, p⟩
    · cases c7
  · cases c
theorem gName_ev {t : Nat} {W : WX} {e : Ex} (D : Ends) (σ : St) (H : Hp) (q : tEvS G W (exS C (.asg (.nm t) e)) D σ H) : tAsg (tEv G W (evE C e)) (gName t) D σ H := by
  have z := tAsg_ev D σ H q
  obtain ⟨φ, l, h, rh, rl, p⟩ := z
  refine ⟨φ, l, h, rh, rl, Post.mono p fun v H1 ⟨φ1, h1, l1, d1, l2, rh1, rl1, rv1, eb, k⟩ => ?_⟩
  simp only [bindT] at eb
  split at eb
  · cases eb
    refine k _ (rl1.set rv1) ⟨by simp, fun j hj => ?_⟩
    have : t ≠ j := fun z => hj (by simp [slotsT, z])
    exact List.getElem?_set_ne this
  · cases eb
theorem postA_of_tup {W : WX} {es : Exs} {t : Tg} {φ : List Addr} {H : Hp} {l : Loc} {h : PHeap} {σ : St} {D : Ends} (rh : RelH G φ h H) (rl : RepL G φ H l σ) (p : PostS G φ H (exS C (.asg t (.tup es)) l h) D W) :
    PostA G φ H (evA C es l h) (fun vs H1 => ∃ φ1 h1 ds l1, RelH G φ1 h1 H1 ∧ RepVs G φ1 H1 ds vs ∧ RepL G φ1 H1 l σ ∧ bindT t (.tup ds) l = some l1 ∧ ∀ σ', RepL G φ1 H1 l1 σ' → D.nx σ' H1) (fun c d H' => W c d σ H') := by
  unfold exS at p
  unfold evE at p
  cases z : evA C es l h with
  | ok ds h1 =>
    rw [z] at p
    simp only [R.bind_ok] at p
    intro φ1 H1 vs x1 rh1 rv
    split at p
    · simp only [R.toS] at p
      cases z2 : bindT t (.tup ds) l with
      | none => rw [z2] at p; exact p.elim
      | some l1 => rw [z2] at p; exact ⟨φ1, h1, ds, l1, rh1, rv, repL_ext rh x1 rl, z2, fun σ' rl' => p φ1 H1 σ' x1 rh1 rl'⟩
    · exact p.elim
  | exc c fs h' => rw [z] at p; exact fun φ' H' cls dd x rh' rx => p φ' H' σ cls dd x rh' (repL_ext rh x rl) rx
  | stuck => rw [z] at p; exact p.elim
theorem repVs_three {φ : List Addr} {H : Hp} {ds : List PV} {v w x : V} (q : RepVs G φ H ds [v, w, x]) : ∃ a b c, ds = [a, b, c] ∧ RepV G φ H a v ∧ RepV G φ H b w ∧ RepV G φ H c x := by
  cases q with
  | cons r1 q => cases q with
    | cons r2 q => cases q with
      | cons r3 q => cases q; exact ⟨_, _, _, rfl, r1, r2, r3⟩
theorem tPar_ev {W : WX} {i j : Nat} {es : Exs} (D : Ends) (σ : St) (H : Hp) (q : tEvS G W (exS C (.asg (.tp (.cons (.nm i) (.cons (.nm j) .nil))) (.tup es))) D σ H) : tPar i j (tEvA G W (evA C es)) D σ H := by
  obtain ⟨φ, l, h, rh, rl, p⟩ := q
  refine ⟨φ, l, h, rh, rl, PostA.mono (postA_of_tup rh rl p) fun vs H1 ⟨φ1, h1, ds, l1, rh1, rv, rl1, eb, k⟩ => ?_⟩
  simp only [bindT] at eb
  cases rv with
  | nil => simp [bindTs] at eb
  | cons r1 rv =>
    cases rv with
    | nil => simp only [bindTs] at eb; split at eb <;> cases eb
    | cons r2 rv =>
      cases rv with
      | cons r3 rv =>
        simp only [bindTs, bindT] at eb
        split at eb
        · split at eb
          · cases eb
          · cases eb
        · cases eb
      | nil =>
        simp only [bindTs, bindT] at eb
        split at eb
        · rename_i l2 e2
          split at e2
          · cases e2
            split at eb
            · rename_i l3 e3
              split at e3
              · cases e3
                cases eb
                exact ⟨_, _, rfl, k _ ((rl1.set r1).set r2)⟩
              · cases e3
            · cases eb
          · cases e2
        · cases eb
theorem tPar3_ev {W : WX} {i j m : Nat} {es : Exs} (D : Ends) (σ : St) (H : Hp) (q : tEvS G W (exS C (.asg (.tp (.cons (.nm i) (.cons (.nm j) (.cons (.nm m) .nil)))) (.tup es))) D σ H) : tPar3 i j m (tEvA G W (evA C es)) D σ H := by
  obtain ⟨φ, l, h, rh, rl, p⟩ := q
  refine ⟨φ, l, h, rh, rl, PostA.mono (postA_of_tup rh rl p) fun vs H1 ⟨φ1, h1, ds, l1, rh1, rv, rl1, eb, k⟩ => ?_⟩
  simp only [bindT] at eb
  match ds, rv, eb with
  | [a, b, c], .cons r1 (.cons r2 (.cons r3 .nil)), eb =>
    simp only [bindTs, bindT] at eb
    split at eb
    · rename_i l2 e2
      split at e2
      · cases e2
        split at eb
        · rename_i l3 e3
          split at e3
          · cases e3
            split at eb
            · rename_i l4 e4
              split at e4
              · cases e4
                cases eb
                exact ⟨_, _, _, rfl, k _ (((rl1.set r1).set r2).set r3)⟩
              · cases e4
            · cases eb
          · cases e3
        · cases eb
      · cases e2
    · cases eb
  | [], _, eb => simp [bindTs] at eb
  | [a], _, eb => simp only [bindTs] at eb; split at eb <;> cases eb
  | [a, b], _, eb =>
    simp only [bindTs] at eb
    split at eb
    · split at eb <;> cases eb
    · cases eb
  | a :: b :: c :: d :: r, _, eb =>
    simp only [bindTs] at eb
    split at eb
    · split at eb
      · split at eb <;> cases eb
      · cases eb
    · cases eb
end
end Zed
end
section
set_option Elab.async false
set_option linter.all false
set_option maxRecDepth 100000
set_option maxHeartbeats 1000000
namespace Zed
open PySem L2
/-! ### what leaves a def is locked, what was made inside is gone -/
def Frzs : List Addr → Hp → (Hp → Prop) → Prop
  | [], H, R => R H
  | d :: r, H, R => ∃ u, H d = some u ∧ Mut (some u) ∧ ∀ od, Frzs r (upd H d (.frz od u)) R
/-- locked at L -/
structure LkR (L : List Addr) (H H' : Hp) : Prop where
  out : ∀ a, a ∉ L → H' a = H a
  at_ : ∀ a, a ∈ L → ∃ od u, H a = some u ∧ Mut (some u) ∧ H' a = some (.frz od u)
theorem frzs_of : ∀ (L : List Addr) (H : Hp) (R : Hp → Prop), L.Nodup → (∀ a ∈ L, ∃ u, H a = some u ∧ Mut (some u)) → (∀ H', LkR L H H' → R H') → Frzs L H R
  | [], H, R, _, _, k => k H ⟨fun _ _ => rfl, fun a h => nomatch h⟩
  | d :: L, H, R, nd, hm, k => by
    obtain ⟨u, e, mu⟩ := hm d List.mem_cons_self
    obtain ⟨n1, n2⟩ := List.nodup_cons.mp nd
    refine ⟨u, e, mu, fun od => frzs_of L _ R n2 (fun a ha => ?_) fun H' l => k H' ⟨fun a ha => ?_, fun a ha => ?_⟩⟩
    · have ne : a ≠ d := fun z => n1 (z ▸ ha)
      rw [upd_ne ne]
      exact hm a (List.mem_cons_of_mem _ ha)
    · rw [List.mem_cons, not_or] at ha
      rw [l.out a ha.2, upd_ne ha.1]
    · by_cases z : a = d
      · subst z
        exact ⟨od, u, e, mu, by rw [l.out a n1, upd_same]⟩
      · have ha := (List.mem_cons.mp ha).resolve_left z
        obtain ⟨od', u', e1, mu', e2⟩ := l.at_ a ha
        rw [upd_ne z] at e1
        exact ⟨od', u', e1, mu', e2⟩
section
variable {G : Gc} {φ : List Addr} {h : PHeap} {H : Hp}
/-! closed values -/
theorem pd_mem {α β : Type} {F : α → β → Prop} : ∀ {l : List α} {m : List β}, Paired F l m → ∀ {p : α}, p ∈ l → ∃ x, F p x
  | _, _, .nil, _, hp => nomatch hp
  | _, _, .cons a b, p, hp => by
    rcases List.mem_cons.mp hp with e | hp
    · subst e; exact ⟨_, a⟩
    · exact pd_mem b hp
theorem strs_cl {n : Nat} : ∀ xs : List Str, clVs n (xs.map PV.str) = true
  | [] => rfl
  | x :: r => by simp only [List.map_cons, clVs, strs_cl r, clV]; rfl
theorem key_cl {n : Nat} {k : PV} (h : (keyOf k).isSome = true) : clV n k = true := by
  cases k <;> first | rfl | (simp [keyOf] at h)
theorem lookup_mem' {fs : List (Nat × PV)} {f : Nat} {d : PV} (h : fs.lookup f = some d) : (f, d) ∈ fs := by
  induction fs with
  | nil => cases h
  | cons p r ih =>
    obtain ⟨g, e⟩ := p
    rw [List.lookup_cons] at h
    cases z : f == g with
    | true => rw [z] at h; cases h; rw [beq_iff_eq.mp z]; exact List.mem_cons_self
    | false => rw [z] at h; exact List.mem_cons_of_mem _ (ih h)
mutual
theorem repV_cl : ∀ (d : PV) {v : V}, RepV G φ H d v → clV φ.length d = true
  | .non, _, _ => rfl
  | .bl _, _, _ => rfl
  | .int _, _, _ => rfl
  | .str _, _, _ => rfl
  | .ty _, _, _ => rfl
  | .gl _, _, _ => rfl
  | .scr _, _, _ => rfl
  | .tup ds, _, r => by
    cases r with
    | tup s q => simp only [clV]; exact repVs_cl ds q
  | .ref i, _, r => by
    cases r with
    | ref e => simp only [clV]; exact decide_eq_true (List.getElem?_eq_some_iff.mp e).1
  | .fz (.lst ds), _, r => by
    cases r with
    | fl s q => simp only [clV, clO]; exact repVs_cl ds q
  | .fz (.dic kvs), _, r => by
    simp only [clV, clO]
    cases r with
    | fdK z e q => exact repK_cl kvs (fun p hp => .inl (let ⟨x, hx⟩ := pd_mem q.pd hp; by rw [hx.1]; rfl)) fun p hp => let ⟨x, hx⟩ := pd_mem q.pd hp; ⟨_, hx.2⟩
    | fdN z ne e m nd q => exact repK_cl kvs (fun p hp => .inr (let ⟨x, hx⟩ := pd_mem q.pd hp; ⟨_, hx.2.2.1⟩)) fun p hp => let ⟨x, hx⟩ := pd_mem q.pd hp; let ⟨v, hv⟩ := hx.2.2.2; ⟨v, hv.2⟩
  | .fz (.set ds), _, r => by
    cases r with
    | fset z e p l => simp only [clV, clO]; rw [z]; exact strs_cl _
  | .fz (.ins c fs), _, r => by
    simp only [clV, clO]
    cases r with
    | fiP vs u n m s e l k q w => exact repF_cl fs u fun f d hf => ⟨_, q f d hf⟩
    | fiS vs u n m s e l k q => exact repF_cl fs u fun f d hf => ⟨_, q f d hf⟩
theorem repVs_cl : ∀ (ds : List PV) {vs : List V}, RepVs G φ H ds vs → clVs φ.length ds = true
  | [], _, _ => rfl
  | d :: ds, _, r => by
    cases r with
    | cons a b => simp only [clVs, repV_cl d a, repVs_cl ds b]; rfl
theorem repK_cl : ∀ (l : List (PV × PV)), (∀ p ∈ l, (keyOf p.1).isSome = true ∨ ∃ v, RepV G φ H p.1 v) → (∀ p ∈ l, ∃ v, RepV G φ H p.2 v) → clKs φ.length l = true
  | [], _, _ => rfl
  | (k, v) :: r, a, b => by
    obtain ⟨w, hw⟩ := b _ List.mem_cons_self
    have hk : clV φ.length k = true := by
      rcases a _ List.mem_cons_self with z | ⟨u, hu⟩
      · exact key_cl z
      · exact repV_cl k hu
    simp only [clKs, hk, repV_cl v hw, repK_cl r (fun p hp => a p (List.mem_cons_of_mem _ hp)) (fun p hp => b p (List.mem_cons_of_mem _ hp))]; rfl
theorem repF_cl : ∀ (fs : List (Nat × PV)), (fs.map (·.1)).Nodup → (∀ f d, fs.lookup f = some d → ∃ v, RepV G φ H d v) → clFs φ.length fs = true
  | [], _, _ => rfl
  | (f, d) :: r, nd, a => by
    obtain ⟨w, hw⟩ := a f d (by simp)
    rw [List.map_cons, List.nodup_cons] at nd
    simp only [clFs, repV_cl d hw, repF_cl r nd.2 (fun g e hg => a g e (by
      have ne : (g == f) = false := by
        rw [beq_eq_false_iff_ne]
        rintro rfl
        exact nd.1 (List.mem_map.mpr ⟨_, lookup_mem' hg, rfl⟩)
      rw [List.lookup_cons, ne]; exact hg))]; rfl
end
end
/-! ### the cut -/
def notIns : PObj → Bool
  | .ins _ _ => false
  | _ => true
structure CutR (G : Gc) (φ φ1 : List Addr) (n : Nat) (h' : PHeap) (H1 H2 : Hp) (L : List Addr) : Prop where
  pre : φ = φ1.take n
  rel : RelH G φ1 h' H1
  lk : LkR L H1 H2
  l1 : ∀ a ∈ L, ∃ i o, n ≤ i ∧ φ1[i]? = some a ∧ h'[i]? = some o ∧ notIns o = true
section
variable {G : Gc} {φ φ1 : List Addr} {n : Nat} {h' : PHeap} {H1 H2 : Hp} {L : List Addr} {a : Addr}
theorem CutR.sub (c : CutR G φ φ1 n h' H1 H2 L) (hm : a ∉ φ1) : a ∉ φ := fun z => hm (by rw [c.pre] at z; exact List.mem_of_mem_take z)
theorem CutR.inL (c : CutR G φ φ1 n h' H1 H2 L) (hm : a ∈ L) : a ∈ φ1 := by
  obtain ⟨i, o, _, e, _⟩ := c.l1 a hm
  exact List.mem_of_getElem? e
theorem CutR.keep (c : CutR G φ φ1 n h' H1 H2 L) {o : HO} (e : H1 a = some o) (nm : ¬ Mut (some o)) : H2 a = some o := by
  rw [c.lk.out a fun hm => ?_]
  · exact e
  · obtain ⟨od, u, e1, mu, _⟩ := c.lk.at_ a hm
    rw [e] at e1
    cases e1
    exact nm mu
theorem CutR.keep' (c : CutR G φ φ1 n h' H1 H2 L) (nm : a ∉ φ1) : H2 a = H1 a := c.lk.out a fun hm => nm (c.inL hm)
theorem CutR.below (c : CutR G φ φ1 n h' H1 H2 L) {i : Nat} (e : φ1[i]? = some a) (hi : i < n) : φ[i]? = some a ∧ H2 a = H1 a := by
  refine ⟨by rw [c.pre, List.getElem?_take_of_lt hi]; exact e, c.lk.out a fun hm => ?_⟩
  obtain ⟨j, o, hj, e1, _⟩ := c.l1 a hm
  have := nodup_get c.rel.nd e e1
  omega
theorem CutR.above (c : CutR G φ φ1 n h' H1 H2 L) {i : Nat} (e : φ1[i]? = some a) (hi : n ≤ i) : a ∉ φ := fun hm => by
  rw [c.pre] at hm
  obtain ⟨j, hj, e1⟩ := List.mem_iff_getElem.mp hm
  have hj' : j < n := by rw [List.length_take] at hj; omega
  have e2 : φ1[j]? = some a := by
    rw [← List.getElem?_take_of_lt hj', List.getElem?_eq_getElem hj, e1]
  have := nodup_get c.rel.nd e e2
  omega
theorem CutR.sqT (c : CutR G φ φ1 n h' H1 H2 L) {vs : List V} (s : SqT G.K H1 a vs) : SqT G.K H2 a vs := by
  rcases s with (s | ⟨o, s⟩) | s
  · exact .inl (.inl (c.keep s id))
  · exact .inl (.inr ⟨o, c.keep s id⟩)
  · exact .inr s
theorem CutR.slt (c : CutR G φ φ1 n h' H1 H2 L) (nm : H2 a = H1 a) {C dx : Addr} {ws : List (Option V)} (s : SlX.Slt H1 a C dx ws) : SlX.Slt H2 a C dx ws := by
  rcases s with ⟨h1, h2⟩ | ⟨h1, h2⟩
  · exact .inl ⟨nm.trans h1, h2⟩
  · exact .inr ⟨nm.trans h1, c.keep h2 id⟩
theorem CutR.slw (c : CutR G φ φ1 n h' H1 H2 L) {dx : Addr} (s : SlW H1 a dx) : SlW H2 a dx := ⟨s.1, s.2.imp (fun q => c.keep q id) (fun q => c.keep q id)⟩
mutual
theorem cut_V (c : CutR G φ φ1 n h' H1 H2 L) : ∀ (d : PV) {v : V}, clV n d = true → RepV G φ1 H1 d v → RepV G φ H2 d v
  | .non, _, _, r => by cases r; exact .non
  | .bl _, _, _, r => by cases r; exact .bl _
  | .int _, _, _, r => by cases r; exact .int _
  | .str _, _, _, r => by cases r; exact .str _
  | .ty _, _, _, r => by cases r; exact .ty _
  | .gl _, _, _, r => by cases r with | gl e => exact .gl e
  | .scr _, _, _, r => by cases r with | scr e => exact .scr (e.imp (fun ⟨o, s⟩ => ⟨o, c.keep s id⟩) id)
  | .tup ds, _, k, r => by
    cases r with
    | tup s q => exact .tup (c.sqT s) (cut_Vs c ds (by simpa only [clV] using k) q)
  | .ref i, _, k, r => by
    cases r with
    | ref e => exact .ref (c.below e (by simpa only [clV, decide_eq_true_eq] using k)).1
  | .fz (.lst ds), _, k, r => by
    cases r with
    | fl s q =>
      obtain ⟨o, s⟩ := s
      exact .fl ⟨o, c.keep s id⟩ (cut_Vs c ds (by simpa only [clV, clO] using k) q)
  | .fz (.dic kvs), _, k, r => by
    cases r with
    | fdK z e q => exact .fdK z (c.keep e id) (cut_K c kvs (by simpa only [clV, clO] using k) q)
    | fdN z ne e m nd q => exact .fdN z ne (c.keep e id) m nd (cut_E c kvs (by simpa only [clV, clO] using k) q)
  | .fz (.set ds), _, k, r => by
    cases r with
    | fset z e p l => exact .fset z (c.keep e id) p l
  | .fz (.ins _ fs), _, k, r => by
    have kf : clFs n fs = true := by simpa only [clV, clO] using k
    cases r with
    | fiP vs u nn m s e l k q w => exact .fiP vs u (c.sub nn) m s ((c.keep' nn).trans e) l k (fun f d hf => cut_F c fs kf f d hf (q f d hf)) w
    | fiS vs u nn m s e l k q => exact .fiS vs u (c.sub nn) m s (c.slt (c.keep' nn) e) (c.slw l) k (fun f d hf => cut_F c fs kf f d hf (q f d hf))
theorem cut_Vs (c : CutR G φ φ1 n h' H1 H2 L) : ∀ (ds : List PV) {vs : List V}, clVs n ds = true → RepVs G φ1 H1 ds vs → RepVs G φ H2 ds vs
  | [], _, _, r => by cases r; exact .nil
  | d :: ds, _, k, r => by
    simp only [clVs, Bool.and_eq_true] at k
    cases r with
    | cons a b => exact .cons (cut_V c d k.1 a) (cut_Vs c ds k.2 b)
theorem cut_K (c : CutR G φ φ1 n h' H1 H2 L) : ∀ (l : List (PV × PV)) {m : List (Key × V)}, clKs n l = true → RepKs G φ1 H1 l m → RepKs G φ H2 l m
  | [], _, _, r => by cases r; exact .nil
  | (x, y) :: l, _, k, r => by
    simp only [clKs, Bool.and_eq_true] at k
    cases r with
    | cons e a b => exact .cons e (cut_V c y k.1.2 a) (cut_K c l k.2 b)
theorem cut_E (c : CutR G φ φ1 n h' H1 H2 L) : ∀ (l : List (PV × PV)) {m : List (NestedKey × Addr × Value)}, clKs n l = true → RepEs G φ1 H1 l m → RepEs G φ H2 l m
  | [], _, _, r => by cases r; exact .nil
  | (x, y) :: l, _, k, r => by
    simp only [clKs, Bool.and_eq_true] at k
    cases r with
    | cons e1 e2 e3 e4 e5 b => exact .cons e1 e2 (cut_V c x k.1.1 e3) e4 (cut_V c y k.1.2 e5) (cut_E c l k.2 b)
theorem cut_F (c : CutR G φ φ1 n h' H1 H2 L) : ∀ (fs : List (Nat × PV)), clFs n fs = true → ∀ f d {v : V}, fs.lookup f = some d → RepV G φ1 H1 d v → RepV G φ H2 d v
  | [], _, _, _, _, e, _ => by cases e
  | (g, x) :: l, k, f, d, v, e, r => by
    simp only [clFs, Bool.and_eq_true] at k
    rw [List.lookup_cons] at e
    cases z : f == g with
    | true =>
      rw [z] at e
      have e : x = d := by simpa using e
      have r' : RepV G φ1 H1 x v := e ▸ r
      exact e ▸ cut_V c x k.1 r'
    | false => rw [z] at e; exact cut_F c l k.2 f d e r
end
theorem cut_O (c : CutR G φ φ1 n h' H1 H2 L) {o : PObj} (e : H2 a = H1 a) (k : clO n o = true) (r : RepO G φ1 H1 a o) : RepO G φ H2 a o := by
  cases o with
  | lst ds => obtain ⟨vs, e1, q⟩ := r; exact ⟨vs, e.trans e1, cut_Vs c ds (by simpa only [clO] using k) q⟩
  | dic kvs =>
    obtain ⟨z, ⟨ks, e1, q⟩ | ⟨xs, ne, e1, q1, q2, q⟩⟩ := r
    · exact ⟨z, .inl ⟨ks, e.trans e1, (cut_K c kvs (by simpa only [clO] using k) (.of q)).pd⟩⟩
    · exact ⟨z, .inr ⟨xs, ne, e.trans e1, q1, q2, (cut_E c kvs (by simpa only [clO] using k) (.of q)).pd⟩⟩
  | set ds => obtain ⟨xs, ks, e0, e1, q⟩ := r; exact ⟨xs, ks, e0, e.trans e1, q⟩
  | ins cc fs =>
    have kf : clFs n fs = true := by simpa only [clO] using k
    obtain ⟨nd, C, dx, hC, ⟨z, ws, e1, ql, q, q2⟩ | ⟨z, vs, hs, hw, q⟩⟩ := r
    · exact ⟨nd, C, dx, hC, .inl ⟨z, ws, e.trans e1, ql, fun f d hf => let ⟨a0, v, a1, a2⟩ := q f d hf; ⟨a0, v, a1, cut_F c fs kf f d hf a2⟩, q2⟩⟩
    · exact ⟨nd, C, dx, hC, .inr ⟨z, vs, c.slt e hs, c.slw hw, fun f d hf => let ⟨i, v, a1, a2, a3⟩ := q f d hf; ⟨i, v, a1, a2, cut_F c fs kf f d hf a3⟩⟩⟩
theorem repO_cl {φ : List Addr} {H : Hp} {o : PObj} (r : RepO G φ H a o) : clO φ.length o = true := by
  cases o with
  | lst ds => obtain ⟨vs, e1, q⟩ := r; simp only [clO]; exact repVs_cl ds q
  | dic kvs =>
    simp only [clO]
    obtain ⟨z, ⟨ks, e1, q⟩ | ⟨xs, ne, e1, q1, q2, q⟩⟩ := r
    · exact repK_cl kvs (fun p hp => .inl (let ⟨x, hx⟩ := pd_mem q hp; by rw [hx.1]; rfl)) fun p hp => let ⟨x, hx⟩ := pd_mem q hp; ⟨_, hx.2⟩
    · exact repK_cl kvs (fun p hp => .inr (let ⟨x, hx⟩ := pd_mem q hp; ⟨_, hx.2.2.1⟩)) fun p hp => let ⟨x, hx⟩ := pd_mem q hp; let ⟨v, hv⟩ := hx.2.2.2; ⟨v, hv.2⟩
  | set ds => obtain ⟨xs, ks, e0, e1, q⟩ := r; simp only [clO]; rw [e0]; exact strs_cl _
  | ins cc fs =>
    simp only [clO]
    obtain ⟨nd, C, dx, hC, ⟨z, ws, e1, ql, q, q2⟩ | ⟨z, vs, hs, hw, q⟩⟩ := r
    · exact repF_cl fs nd fun f d hf => let ⟨_, v, _, a2⟩ := q f d hf; ⟨v, a2⟩
    · exact repF_cl fs nd fun f d hf => let ⟨_, v, _, _, a3⟩ := q f d hf; ⟨v, a3⟩
mutual
theorem nk_cl : ∀ (d : PV) {k : NestedKey}, nkOf d = some k → clV n d = true
  | .non, _, _ => rfl
  | .bl _, _, _ => rfl
  | .int _, _, _ => rfl
  | .str _, _, _ => rfl
  | .ty _, _, _ => rfl
  | .gl _, _, _ => rfl
  | .scr _, _, _ => rfl
  | .tup ds, _, e => by
    simp only [nkOf] at e
    cases z : nkOfs ds with
    | none => rw [z] at e; cases e
    | some ks => simp only [clV]; exact nks_cl ds z
  | .ref i, _, e => by simp [nkOf] at e
  | .fz _, _, e => by simp [nkOf] at e
theorem nks_cl : ∀ (ds : List PV) {ks : List NestedKey}, nkOfs ds = some ks → clVs n ds = true
  | [], _, _ => rfl
  | d :: ds, _, e => by
    obtain ⟨k, ks, e1, e2, _⟩ := nkOfs_cons e
    simp only [clVs, nk_cl d e1, nks_cl ds e2]; rfl
end
section
variable {f : PV → Option PV}
theorem frz_Vs (P : ∀ {d d' : PV} {v : V}, f d = some d' → RepV G φ1 H1 d v → RepV G φ H2 d' v) : ∀ {ds ds' : List PV} {vs : List V}, mapO f ds = some ds' → RepVs G φ1 H1 ds vs → RepVs G φ H2 ds' vs
  | _, _, _, e, .nil => by simp only [mapO] at e; cases e; exact .nil
  | _, _, _, e, .cons a b => by
    obtain ⟨y, ys, e1, e2, rfl⟩ := mapO_cons e
    exact .cons (P e1 a) (frz_Vs P e2 b)
def frzP (f : PV → Option PV) (p : PV × PV) : Option (PV × PV) := if (nkOf p.1).isSome then (f p.2).map fun v => (p.1, v) else none
theorem frzP_ok {p q : PV × PV} (e : frzP f p = some q) : (nkOf p.1).isSome = true ∧ q.1 = p.1 ∧ f p.2 = some q.2 := by
  unfold frzP at e
  split at e
  · rename_i z
    obtain ⟨y, e1, e2⟩ := omap e
    subst e2
    exact ⟨z, rfl, e1⟩
  · cases e
theorem frz_K (P : ∀ {d d' : PV} {v : V}, f d = some d' → RepV G φ1 H1 d v → RepV G φ H2 d' v) : ∀ {l l' : List (PV × PV)} {m : List (Key × V)}, mapO (frzP f) l = some l' → RepKs G φ1 H1 l m → RepKs G φ H2 l' m ∧ l'.length = l.length
  | _, _, _, e, .nil => by simp only [mapO] at e; cases e; exact ⟨.nil, rfl⟩
  | _, _, _, e, .cons e0 a b => by
    obtain ⟨y, ys, e1, e2, rfl⟩ := mapO_cons e
    obtain ⟨_, q1, q2⟩ := frzP_ok e1
    obtain ⟨i1, i2⟩ := frz_K P e2 b
    exact ⟨.cons (by rw [q1]; exact e0) (P q2 a) i1, by simp [i2]⟩
theorem frz_E (c : CutR G φ φ1 n h' H1 H2 L) (P : ∀ {d d' : PV} {v : V}, f d = some d' → RepV G φ1 H1 d v → RepV G φ H2 d' v) : ∀ {l l' : List (PV × PV)} {m : List (NestedKey × Addr × Value)}, mapO (frzP f) l = some l' → RepEs G φ1 H1 l m → RepEs G φ H2 l' m ∧ l'.length = l.length
  | _, _, _, e, .nil => by simp only [mapO] at e; cases e; exact ⟨.nil, rfl⟩
  | _, _, _, e, .cons e0 d0 k0 r0 a b => by
    obtain ⟨y, ys, e1, e2, rfl⟩ := mapO_cons e
    obtain ⟨q0, q1, q2⟩ := frzP_ok e1
    obtain ⟨i1, i2⟩ := frz_E c P e2 b
    exact ⟨.cons (by rw [q1]; exact e0) d0 (by rw [q1]; exact cut_V c _ (nk_cl _ e0) k0) r0 (P q2 a) i1, by simp [i2]⟩
def frzQ (f : PV → Option PV) (p : Nat × PV) : Option (Nat × PV) := (f p.2).map fun v => (p.1, v)
theorem frz_F : ∀ {l l' : List (Nat × PV)}, mapO (frzQ f) l = some l' → l'.map (·.1) = l.map (·.1) ∧ (∀ g d', l'.lookup g = some d' → ∃ d, l.lookup g = some d ∧ f d = some d') ∧ ∀ g, (l'.lookup g).isSome = (l.lookup g).isSome
  | [], _, e => by simp only [mapO] at e; cases e; exact ⟨rfl, (fun g d' h => by cases h), fun _ => rfl⟩
  | (g0, d0) :: l, _, e => by
    obtain ⟨y, ys, e1, e2, rfl⟩ := mapO_cons e
    obtain ⟨w, q1, q2⟩ := omap e1
    subst q2
    obtain ⟨i1, i2, i3⟩ := frz_F e2
    refine ⟨by simp [i1], fun g d' hg => ?_, fun g => ?_⟩
    · rw [List.lookup_cons] at hg ⊢
      cases z : g == g0 with
      | true => rw [z] at hg; cases hg; exact ⟨d0, rfl, q1⟩
      | false => rw [z] at hg; exact i2 g d' hg
    · rw [List.lookup_cons, List.lookup_cons]
      cases g == g0 with
      | true => rfl
      | false => exact i3 g
end
theorem frzO_eq {f : PV → Option PV} {kvs : List (PV × PV)} : frzO f (.dic kvs) = (mapO (frzP f) kvs).map .dic := rfl
theorem frzO_eq' {f : PV → Option PV} {c : Nat} {fs : List (Nat × PV)} : frzO f (.ins c fs) = (mapO (frzQ f) fs).map (.ins c) := rfl
theorem ne_nil_len {α : Type} {l l' : List α} (h : l'.length = l.length) (ne : l ≠ []) : l' ≠ [] := fun e => ne (List.eq_nil_of_length_eq_zero (by rw [← h, e]; rfl))
theorem cut_frz (c : CutR G φ φ1 n h' H1 H2 L) (l2 : ∀ i o a, n ≤ i → φ1[i]? = some a → h'[i]? = some o → notIns o = true → a ∈ L) : ∀ (k : Nat) {d d' : PV} {v : V}, frzV h' n k d = some d' → RepV G φ1 H1 d v → RepV G φ H2 d' v
  | 0, d, d', v, e, r => by
    unfold frzV at e
    split at e
    · rename_i z; cases e; exact cut_V c d z r
    · cases e
  | k + 1, d, d', v, e, r => by
    unfold frzV at e
    split at e
    · rename_i z; cases e; exact cut_V c d z r
    · rename_i z
      have P : ∀ {d d' : PV} {v : V}, frzV h' n k d = some d' → RepV G φ1 H1 d v → RepV G φ H2 d' v := fun e r => cut_frz c l2 k e r
      split at e
      · obtain ⟨ds', e1, e2⟩ := omap e
        subst e2
        cases r with
        | tup s q => exact .tup (c.sqT s) (frz_Vs P e1 q)
      · obtain ⟨o', e1, e2⟩ := omap e
        subst e2
        cases r with
        | fl s q =>
          obtain ⟨ds', e3, e4⟩ := omap e1
          subst e4
          obtain ⟨o, s⟩ := s
          exact .fl ⟨o, c.keep s id⟩ (frz_Vs P e3 q)
        | fdK zz e5 q =>
          rw [frzO_eq] at e1
          obtain ⟨ds', e3, e4⟩ := omap e1
          subst e4
          obtain ⟨i1, i2⟩ := frz_K P e3 q
          exact .fdK (by omega) (c.keep e5 id) i1
        | fdN zz ne e5 m nd q =>
          rw [frzO_eq] at e1
          obtain ⟨ds', e3, e4⟩ := omap e1
          subst e4
          obtain ⟨i1, i2⟩ := frz_E c P e3 q
          exact .fdN (by omega) (ne_nil_len i2 ne) (c.keep e5 id) m nd i1
        | fset zz e5 p l =>
          simp only [frzO] at e1
          cases e1
          exact .fset zz (c.keep e5 id) p l
        | fiP vs u nn m s e5 l kk q w =>
          rw [frzO_eq'] at e1
          obtain ⟨fs', e3, e4⟩ := omap e1
          subst e4
          obtain ⟨i1, i2, i3⟩ := frz_F e3
          have hl := congrArg List.length i1
          simp only [List.length_map] at hl
          exact .fiP vs (by rw [i1]; exact u) (c.sub nn) m s ((c.keep' nn).trans e5) (by omega) (fun g d' hg => let ⟨d, g1, _⟩ := i2 g d' hg; kk g d g1) (fun g d' hg => let ⟨d, g1, g2⟩ := i2 g d' hg; P g2 (q g d g1)) fun x v hx => let ⟨g, g1, g2⟩ := w x v hx; ⟨g, g1, by rw [i3]; exact g2⟩
        | fiS vs u nn m s e5 l kk q =>
          rw [frzO_eq'] at e1
          obtain ⟨fs', e3, e4⟩ := omap e1
          subst e4
          obtain ⟨i1, i2, i3⟩ := frz_F e3
          exact .fiS vs (by rw [i1]; exact u) (c.sub nn) m s (c.slt (c.keep' nn) e5) (c.slw l) (fun g d' hg => let ⟨d, g1, _⟩ := i2 g d' hg; kk g d g1) (fun g d' hg => let ⟨d, g1, g2⟩ := i2 g d' hg; P g2 (q g d g1))
      · rename_i i
        have hi : n ≤ i := by
          simp only [clV, decide_eq_true_eq] at z
          omega
        cases r with
        | ref er =>
          rename_i a
          have na := c.above er hi
          split at e
          · rename_i o ho
            obtain ⟨o', e1, e2⟩ := omap e
            subst e2
            have ro := c.rel.obj i o a ho er
            cases o with
            | lst ds =>
              obtain ⟨vs, e3, q⟩ := ro
              obtain ⟨ds', e4, e5⟩ := omap e1
              subst e5
              obtain ⟨od, u, e6, _, e7⟩ := c.lk.at_ a (l2 i _ a hi er ho rfl)
              rw [e3] at e6
              cases e6
              exact .fl ⟨od, e7⟩ (frz_Vs P e4 q)
            | dic kvs =>
              rw [frzO_eq] at e1
              obtain ⟨ds', e4, e5⟩ := omap e1
              subst e5
              obtain ⟨od, u, e6, _, e7⟩ := c.lk.at_ a (l2 i _ a hi er ho rfl)
              obtain ⟨zz, ⟨ks, e3, q⟩ | ⟨xs, ne, e3, q1, q2, q⟩⟩ := ro
              · rw [e3] at e6
                cases e6
                obtain ⟨i1, i2⟩ := frz_K P e4 (.of q)
                exact .fdK (by omega) e7 i1
              · rw [e3] at e6
                cases e6
                obtain ⟨i1, i2⟩ := frz_E c P e4 (.of q)
                exact .fdN (by omega) (ne_nil_len i2 ne) e7 q1 q2 i1
            | set ds =>
              simp only [frzO] at e1
              cases e1
              obtain ⟨xs, ks, e0, e3, q1, q2⟩ := ro
              obtain ⟨od, u, e6, _, e7⟩ := c.lk.at_ a (l2 i _ a hi er ho rfl)
              rw [e3] at e6
              cases e6
              exact .fset e0 e7 q1 q2
            | ins cc fs =>
              rw [frzO_eq'] at e1
              obtain ⟨fs', e3, e4⟩ := omap e1
              subst e4
              obtain ⟨i1, i2, i3⟩ := frz_F e3
              have hl : fs'.length = fs.length := by have := congrArg List.length i1; simpa using this
              have eH : H2 a = H1 a := c.lk.out a fun hm => by
                obtain ⟨j, o, _, e5, e6, e7⟩ := c.l1 a hm
                have := nodup_get c.rel.nd er e5
                subst this
                rw [ho] at e6
                cases e6
                cases e7
              obtain ⟨nd, C, dx, hC, ⟨z, ws, e5, ql, q, q2⟩ | ⟨z, vs, hs, hw, q⟩⟩ := ro
              · have q' : ∀ f, ∃ w, ∀ d, fs.lookup f = some d → G.fld cc f = true ∧ ws.lookup (G.nm f) = some w ∧ RepV G φ1 H1 d w := fun f => by
                  cases hf : fs.lookup f with
                  | none => exact ⟨.non, fun d hd => by cases hd⟩
                  | some d => obtain ⟨a0, w, a1, a2⟩ := q f d hf; exact ⟨w, fun d' hd => by cases hd; exact ⟨a0, a1, a2⟩⟩
                obtain ⟨vs, hv⟩ := Classical.axiomOfChoice q'
                exact .fiP vs (by rw [i1]; exact nd) na hC z (eH.trans e5) (by omega) (fun g d' hg => let ⟨d, g1, _⟩ := i2 g d' hg; ⟨(hv g d g1).1, (hv g d g1).2.1⟩) (fun g d' hg => let ⟨d, g1, g2⟩ := i2 g d' hg; P g2 (hv g d g1).2.2) fun x v hx => let ⟨g, g1, g2⟩ := q2 x v hx; ⟨g, g1, by rw [i3]; exact g2⟩
              · have q' : ∀ f, ∃ w, ∀ d, fs.lookup f = some d → (∃ i, G.slot cc f = some i ∧ vs[i]? = some (some w)) ∧ RepV G φ1 H1 d w := fun f => by
                  cases hf : fs.lookup f with
                  | none => exact ⟨.non, fun d hd => by cases hd⟩
                  | some d => obtain ⟨i, w, a1, a2, a3⟩ := q f d hf; exact ⟨w, fun d' hd => by cases hd; exact ⟨⟨i, a1, a2⟩, a3⟩⟩
                obtain ⟨us, hv⟩ := Classical.axiomOfChoice q'
                exact .fiS us (by rw [i1]; exact nd) na hC z (c.slt eH hs) (c.slw hw) (fun g d' hg => let ⟨d, g1, _⟩ := i2 g d' hg; (hv g d g1).1) (fun g d' hg => let ⟨d, g1, g2⟩ := i2 g d' hg; P g2 (hv g d g1).2)
          · cases e
      · cases e
end
theorem sealH_ok {n : Nat} : ∀ {h h' h1 : PHeap}, sealH n h h' = some h1 → h1.length = h.length ∧ ∀ (j : Nat) (o : PObj), h1[j]? = some o → h'[j]? = some o ∧ (h[j]? = some o ∨ clO n o = true)
  | [], h', h1, e => by simp only [sealH] at e; cases e; exact ⟨rfl, fun j o h => by simp at h⟩
  | o :: r, [], h1, e => by simp only [sealH] at e; cases e
  | o :: r, o' :: r', h1, e => by
    simp only [sealH] at e
    split at e
    · rename_i z
      obtain ⟨h2, e1, e2⟩ := omap e
      subst e2
      obtain ⟨i1, i2⟩ := sealH_ok e1
      refine ⟨by simp [i1], fun j ob hj => ?_⟩
      cases j with
      | zero =>
        simp only [List.getElem?_cons_zero, Option.some.injEq] at hj ⊢
        subst hj
        refine ⟨rfl, ?_⟩
        rw [Bool.or_eq_true] at z
        rcases z with z | z
        · exact .inl (PObj.same_eq _ _ z)
        · exact .inr z
      | succ j => simpa using i2 j ob (by simpa using hj)
    · cases e
section
variable {G : Gc} {φ φ1 : List Addr} {h h' h1 : PHeap} {H H1 H2 : Hp} {L : List Addr}
theorem cut_rel (rh : RelH G φ h H) (c : CutR G φ φ1 h.length h' H1 H2 L) (e : sealH h.length h h' = some h1) : RelH G φ h1 H2 where
  tab := fun p hp => by
    obtain ⟨ps, e1, k, f⟩ := c.rel.tab p hp
    refine ⟨ps, c.keep e1 id, k, fun pos cv hc => ?_⟩
    obtain ⟨cc, e2, n, e3⟩ := f pos cv hc
    exact ⟨cc, e2, c.sub n, (c.keep' n).trans e3⟩
  len := by rw [(sealH_ok e).1, rh.len]
  nd := rh.nd
  obj := fun i o a hi ha => by
    obtain ⟨e1, e2⟩ := (sealH_ok e).2 i o hi
    have hl : i < h.length := by rw [← rh.len]; exact (List.getElem?_eq_some_iff.mp ha).1
    have ha1 : φ1[i]? = some a := by rw [c.pre, List.getElem?_take_of_lt hl] at ha; exact ha
    have cl : clO h.length o = true := by
      rcases e2 with e2 | e2
      · rw [← rh.len]; exact repO_cl (rh.obj i o a e2 ha)
      · exact e2
    exact cut_O c (c.below ha1 hl).2 cl (c.rel.obj i o a e1 ha1)
theorem cut_ext (x : Ext φ H φ1 H1) (c : CutR G φ φ1 h.length h' H1 H2 L) (rh : RelH G φ h H) : Ext φ H φ H2 where
  pre := List.prefix_refl _
  new := fun a hm nm => absurd hm nm
  keep := fun a o e n s => (c.keep' (x.nin e n (Stays.nt s))).trans (x.keep a o e n s)
  own := fun a y e n => by rw [c.keep' (x.nin e n fun _ z => nomatch z)]; exact x.own a y e n
open Classical in
theorem cut_locks (rh : RelH G φ h H) (x : Ext φ H φ1 H1) (r1 : RelH G φ1 h' H1) {R : Hp → Prop}
    (k : ∀ L H2, CutR G φ φ1 h.length h' H1 H2 L → (∀ i o a, h.length ≤ i → φ1[i]? = some a → h'[i]? = some o → notIns o = true → a ∈ L) → R H2) : ∃ L, Frzs L H1 R := by
  have pre : φ = φ1.take h.length := by
    obtain ⟨t, rfl⟩ := x.pre
    rw [← rh.len, List.take_left]
  let L := φ1.filter fun a => decide (∃ i o, h.length ≤ i ∧ φ1[i]? = some a ∧ h'[i]? = some o ∧ notIns o = true)
  have hL : ∀ a ∈ L, ∃ i o, h.length ≤ i ∧ φ1[i]? = some a ∧ h'[i]? = some o ∧ notIns o = true := fun a ha => of_decide_eq_true (List.mem_filter.mp ha).2
  refine ⟨L, frzs_of L H1 R (r1.nd.filter _) (fun a ha => ?_) fun H2 lk => k L H2 ⟨pre, r1, lk, hL⟩ fun i o a hi ha ho no => List.mem_filter.mpr ⟨List.mem_of_getElem? ha, decide_eq_true ⟨i, o, hi, ha, ho, no⟩⟩⟩
  obtain ⟨i, o, hi, ea, eo, no⟩ := hL a ha
  have ro := r1.obj i o a eo ea
  cases o with
  | lst ds => obtain ⟨vs, e, _⟩ := ro; exact ⟨_, e, trivial⟩
  | dic kvs =>
    obtain ⟨_, ⟨ks, e, _⟩ | ⟨xs, _, e, _⟩⟩ := ro
    · exact ⟨_, e, trivial⟩
    · exact ⟨_, e, trivial⟩
  | set ds => obtain ⟨xs, ks, _, e, _⟩ := ro; exact ⟨_, e, trivial⟩
  | ins => cases no
theorem seal_post {r : R PV} {Q : VK} {E : XK} (rh : RelH G φ h H) (p : Post G φ H (sealF h r) Q E) : Post G φ H r (fun v H' => ∃ L, Frzs L H' (Q v)) E := by
  cases r with
  | ok d h' =>
    intro φ1 H1 v x r1 rv
    simp only [sealF] at p
    cases e1 : frzV h' h.length 6 d with
    | none => rw [e1] at p; exact p.elim
    | some d1 =>
      cases e2 : sealH h.length h h' with
      | none => rw [e1, e2] at p; exact p.elim
      | some h1 =>
        rw [e1, e2] at p
        exact cut_locks rh x r1 fun L H2 c l2 => p φ H2 v (cut_ext x c rh) (cut_rel rh c e2) (cut_frz c l2 6 e1 rv)
  | exc c fs h' =>
    intro φ1 H1 cls dd x r1 rx
    simp only [sealF] at p
    split at p
    · rename_i z
      rw [Bool.and_eq_true] at z
      cases e2 : sealH h.length h h' with
      | none => rw [e2] at p; exact p.elim
      | some h1 =>
        rw [e2] at p
        have pre : φ = φ1.take h.length := by
          obtain ⟨t, rfl⟩ := x.pre
          rw [← rh.len, List.take_left]
        have c : CutR G φ φ1 h.length h' H1 H1 [] := ⟨pre, r1, ⟨fun _ _ => rfl, fun a ha => nomatch ha⟩, fun a ha => nomatch ha⟩
        refine p φ H1 cls dd (cut_ext x c rh) (cut_rel rh c e2) ⟨rx.1, rx.2.imp id fun ⟨da, ws, q1, q2, q3⟩ => ⟨da, ws, q1, q2, fun f e hf => ?_⟩⟩
        obtain ⟨w, w1, w2⟩ := q3 f e hf
        exact ⟨w, w1, cut_F c fs z.2 f e hf w2⟩
    · exact p.elim
  | stuck => exact p
end
end Zed
end
section
set_option Elab.async false
set_option linter.all false
set_option maxRecDepth 100000
set_option maxHeartbeats 4000000
namespace Zed
open PySem L2
section
variable {S : Sg} {G : Gc} {C : Orc} {k : Nat}
theorem exS_for {t : Tg} {it : Itr} {b : Sxs} : exS C (.for_ t it b) = fun l h => (evI C it l h).toS l fun src h1 => forLoop t src (exSs C b) (srcLen h1 src + 1) 0 l h1 := by funext l h; simp only [exS]
theorem exS_fld {o : Ex} {f : Nat} {e : Ex} : exS C (.fld o f e) = fun l h => (evE C e l h).toS l fun v h1 => (evE C o l h1).toS l fun x h2 => match fldF C.ct x f v h2 with | some h3 => .nx l h3 | none => .stuck := by funext l h; first | (simp only [exS]; done) | (simp only [exS]; rfl)
theorem exS_augf {o : Ex} {f : Nat} {e : Ex} : exS C (.augf o f e) = fun l h => (evE C o l h).toS l fun x h1 => augK C.ct f x l h1 (evE C e l h1) := by funext l h; first | (simp only [exS]; done) | (simp only [exS]; rfl)
theorem exS_whl {c : Ex} {b : Sxs} : exS C (.whl c b) = whlLoop (fun l h => truthR (evE C c l h)) (exSs C b) 1000000 := by funext l h; simp only [exS]
theorem noComp_sw {e : Expr} {line : Nat} {env : Env} (h : noComp e = true) : swapsWith e none line env = pure false := by
  cases e <;> first | rfl | (cases h)
theorem tRaf_ev {X : Cx} {W : WX} {d f : Nat} {e : Ex} {Da : Addr} (g : Glob S G C k X) (hx : C.ct.xfl d = some f) (m1 : X.mg (S.nm d) = some (.ref Da)) (D : Ends) (σ : L2.St) (H : Hp) (q : tEvS G W (exS C (.raf d f e)) D σ H) :
    tMkR Da (S.nm f) (tEv G W (evE C e)) σ H (fun cls dd H' => W cls dd σ H') := by
  obtain ⟨φ, l, h, rh, rl, p⟩ := q
  unfold exS at p
  rw [if_pos hx] at p
  refine ⟨φ, l, h, rh, rl, Post.mono (Post.toS rh rl p) fun v H1 ⟨φ1, h1, d1, x1, rh1, rv1, rl1, p1⟩ => ?_⟩
  refine ⟨v, rfl, fun dx hdx => ?_⟩
  have e2 : Ext φ1 H1 φ1 (upd H1 dx (.xd [(S.nm f, v)])) := ext_tup hdx
  refine p1 φ1 _ σ _ (some dx) e2 (rh1.tup (u := .xd [(S.nm f, v)]) hdx) (repL_ext rh1 e2 rl1) ⟨.inl ⟨d, Da, rfl, by rw [g.mg, g.nm]; exact m1, rfl⟩, .inr ⟨dx, _, rfl, upd_same, fun f' e' he => ?_⟩⟩
  rw [List.lookup_cons] at he
  split at he
  · rename_i z
    cases he
    have z : f' = f := by simpa using z
    subst z
    exact ⟨v, by rw [g.nm]; simp [List.lookup], repV_ext rh1 e2 rv1⟩
  · cases he
mutual
theorem soundS : ∀ (ir : Sx) {X : Cx} {W : WX} {sc : Scope} {st : Stmt}, Glob S G C k X → X.env.scope = sc → Scp sc.names X → Takes X W → PassesOwn (model X.prog X.w) X.A X.env X.xe → chkS S X.N sc ir st = true → PS X st (tEvS G W (exS C ir))
  | .ex e, X, W, sc, st, g, es, sp, tk, po, c => by
    simp only [chkS] at c
    split at c
    · simp only [Bool.and_eq_true] at c
      exact ps_imp (ps_expr (soundE e g sp tk c.2) (noComp_sw c.1)) tDrop_ev
    · cases c
  | .asg t e, X, W, sc, st, g, es, sp, tk, po, c => by
    have hk := g.kind
    simp only [chkS] at c
    split at c
    · rename_i tg v pos
      split at c
      · rename_i sw
        split at c
        · rename_i sw1
          simp only [Bool.and_eq_true, beq_iff_eq] at c
          subst es
          refine ps_imp (soundLc g sp tk c.2 c.1.1 (sp.loc _ c.1.2) ?_) gName_ev
          rw [sw_ok hk, sw]
        · cases c
      · rename_i sw
        have sw' : swapsWithSole [tg] v pos.line X.env = pure false := by
          show swapsWith v (some tg) pos.line X.env = pure false
          rw [sw_ok hk, es]
          simp only [Bool.not_eq_true] at sw
          rw [sw]
        split at c
        · rename_i so
          simp only [Bool.and_eq_true] at c
          exact ps_imp (ps_asg (soundE e g sp tk c.2) (soundG t g.K g.nd g.calm sp c.1) sw' (swp_ok hk (by rw [es]; exact so)) (by rw [assignEach_cons (chkG_noStar c.1)]; rfl)) tAsg_ev
        · rename_i x y so
          split at c
          · simp only [Bool.and_eq_true, beq_iff_eq, bne_iff_ne] at c
            obtain ⟨⟨⟨⟨⟨⟨⟨c1, c2⟩, c3⟩, c4⟩, c5⟩, c6⟩, c7⟩, c8⟩ := c
            subst c1; subst c2
            exact ps_imp (ps_par g.calm g.nd c3 c4 c5 (sp.loc _ c6) (sp.loc _ c7) (soundA _ g sp tk c8) (swp_ok hk (by rw [es]; exact so)) sw') tPar_ev
          · cases c
        · rename_i x y z so
          split at c
          · simp only [Bool.and_eq_true, beq_iff_eq, bne_iff_ne] at c
            obtain ⟨⟨⟨⟨⟨⟨⟨⟨⟨⟨⟨⟨c1, c2⟩, c3⟩, c4⟩, c5⟩, c6⟩, c7⟩, c8⟩, c9⟩, c10⟩, c11⟩, c12⟩, c13⟩ := c
            subst c1; subst c2; subst c3
            exact ps_imp (ps_par3 g.calm g.nd c4 c5 c6 c7 c8 c9 (sp.loc _ c10) (sp.loc _ c11) (sp.loc _ c12) (soundA _ g sp tk c13) (swp_ok hk (by rw [es]; exact so)) sw') tPar3_ev
          · cases c
        · cases c
    · cases c
  | .put o i e, X, W, sc, st, g, es, sp, tk, po, c => by
    have hk := g.kind
    simp only [chkS] at c
    split at c
    · rename_i o' i' p1 v pos
      simp only [Bool.and_eq_true] at c
      refine ps_imp (ps_asg (soundE e g sp tk c.1.1.2) (pg_sub (soundE o g sp tk c.1.2) (soundE i g sp tk c.2) (set_Z g.K g.P g.w g.room.units) ?_) ?_ ?_ rfl) tPut_ev
      · intro u
        have c1 := c.1.1.1
        cases i' <;> first | rfl | (cases c1)
      · show swapsWith v (some (o'.Subscript i' p1)) pos.line X.env = pure false
        rw [sw_ok hk]
        unfold swO
        cases v <;> rfl
      · exact swp_ok hk rfl
    · cases c
  | .fld o f e, X, W, sc, st, g, es, sp, tk, po, c => by
    have hk := g.kind
    simp only [chkS] at c
    split at c
    · simp only [Bool.and_eq_true, beq_iff_eq, Bool.not_eq_true'] at c
      obtain ⟨⟨⟨c1, c2⟩, c3⟩, c4⟩ := c
      subst c1
      rename_i o' p1 v pos
      have := ps_fldZ (pos := pos) (pos' := p1) g (soundE o g sp tk c4) (soundE e g sp tk c3) (by
        rw [sw_ok hk, es]
        have z : swO sc (.Attribute o' (S.nm f) p1) v = swO sc (.Attribute o' (S.nm f) ⟨0, 0, 0, 0⟩) v := by cases v <;> rfl
        rw [z, c2])
      exact ps_imp this fun D σ H q => by rw [exS_fld] at q; exact q
    · cases c
  | .ret e, X, W, sc, st, g, es, sp, tk, po, c => by
    simp only [chkS] at c
    split at c
    · exact ps_imp (ps_ret (soundE e g sp tk c)) tRet_ev
    · cases c
  | .ret0, X, W, sc, st, g, es, sp, tk, po, c => by
    simp only [chkS] at c
    split at c
    · exact ps_imp ps_retN tRetN_ev
    · cases c
  | .iff d a b, X, W, sc, st, g, es, sp, tk, po, c => by
    simp only [chkS] at c
    split at c
    · simp only [Bool.and_eq_true] at c
      exact ps_imp (ps_if (soundT d g sp tk c.1.1) (soundSs a g es sp tk po c.1.2) (soundSs b g es sp tk po c.2)) tIff_ev
    · cases c
  | .for_ t it b, X, W, sc, st, g, es, sp, tk, po, c => by
    simp only [chkS] at c
    split at c
    · simp only [Bool.and_eq_true] at c
      exact ps_imp (ps_for po g.calm (soundI it g sp tk c.1.1.1) (soundG t g.K g.nd g.calm sp c.1.1.2) (soundSs b g es sp tk po c.2) (foldedSet c.1.2)) fun D σ H q => tFor_ev D σ H (by rw [exS_for] at q; exact q)
    · cases c
  | .whl d b, X, W, sc, st, g, es, sp, tk, po, c => by
    simp only [chkS] at c
    split at c
    · simp only [Bool.and_eq_true] at c
      exact ps_imp (ps_while po (soundT d g sp tk c.1) (soundSs b g es sp tk po c.2)) fun D σ H q => tWhl_ev D σ H (by rw [exS_whl] at q; exact q)
    · cases c
  | .pass, X, W, sc, st, g, es, sp, tk, po, c => by
    simp only [chkS] at c
    split at c
    · refine ps_imp ps_pass fun D σ H q => ?_
      obtain ⟨φ, l, h, rh, rl, p⟩ := q
      unfold exS at p
      exact p φ H σ .refl rh rl
    · cases c
  | .brk, X, W, sc, st, g, es, sp, tk, po, c => by
    simp only [chkS] at c
    split at c
    · refine ps_imp ps_break fun D σ H q => ?_
      obtain ⟨φ, l, h, rh, rl, p⟩ := q
      unfold exS at p
      exact p φ H σ .refl rh rl
    · cases c
  | .cnt, X, W, sc, st, g, es, sp, tk, po, c => by
    simp only [chkS] at c
    split at c
    · refine ps_imp ps_continue fun D σ H q => ?_
      obtain ⟨φ, l, h, rh, rl, p⟩ := q
      unfold exS at p
      exact p φ H σ .refl rh rl
    · cases c
  | .rai d m, X, W, sc, st, g, es, sp, tk, po, c => by
    simp only [chkS] at c
    split at c
    · simp only [Bool.and_eq_true, beq_iff_eq] at c
      obtain ⟨⟨⟨⟨c1, c2⟩, c3⟩, c4⟩, c5⟩ := c
      subst c1
      obtain ⟨D, e1, e2, e3, e4, e5⟩ := g.exc d c2
      refine ps_imp (ps_raise g.calm tk (pmk_own PySem.F.excBase_ValueError e3 e1 e2 (raises_own e4 e5) (sp.gl _ c3) (okNm_dbg c4).1)) fun D' σ H q => ?_
      obtain ⟨φ, l, h, rh, rl, p⟩ := q
      unfold exS at p
      exact p φ H σ _ none .refl rh rl ⟨.inl ⟨d, D, rfl, by rw [g.mg, g.nm]; exact e1, rfl⟩, .inl rfl⟩
    · cases c
  | .raf d f e, X, W, sc, st, g, es, sp, tk, po, c => by
    simp only [chkS] at c
    split at c
    · simp only [Bool.and_eq_true, beq_iff_eq] at c
      obtain ⟨⟨⟨⟨c1, c3⟩, c4⟩, c5⟩, c6⟩ := c
      subst c1
      by_cases hx : C.ct.xfl d = some f
      · obtain ⟨D, B, n, i, bm, m1, bo, ec, _, _⟩ := g.raf d f hx
        refine ps_imp (ps_raise g.calm tk (pmk_raf bo.fb ec g.room (sp.gl _ c3) m1 (soundE e g sp tk c6) (okNm_dbg c4).1 (starEach_cons c5))) fun D' σ H q => ?_
        exact tRaf_ev g hx m1 D' σ H q
      · exact ⟨fun pins s σ H D I q => by
          obtain ⟨φ, l, h, rh, rl, p⟩ := q
          unfold exS at p
          rw [if_neg hx] at p
          exact p.elim⟩
    · cases c
  | .augf o f e, X, W, sc, st, g, es, sp, tk, po, c => by
    simp only [chkS] at c
    split at c
    · simp only [Bool.and_eq_true, beq_iff_eq] at c
      obtain ⟨⟨c1, c2⟩, c3⟩ := c
      subst c1
      exact ps_imp (ps_augZ g (soundE o g sp tk c2) (soundE e g sp tk c3)) fun D σ H q => by rw [exS_augf] at q; exact q
    · cases c
  | .stk, X, W, sc, st, g, es, sp, tk, po, c => ⟨fun pins s σ H D I q => by
      obtain ⟨φ, l, h, rh, rl, p⟩ := q
      unfold exS at p
      exact p.elim⟩
theorem soundSs : ∀ (ir : Sxs) {X : Cx} {W : WX} {sc : Scope} {sts : List Stmt}, Glob S G C k X → X.env.scope = sc → Scp sc.names X → Takes X W → PassesOwn (model X.prog X.w) X.A X.env X.xe → chkSs S X.N sc ir sts = true → PSs X sts (tEvS G W (exSs C ir))
  | .nil, X, W, sc, sts, g, es, sp, tk, po, c => by
    simp only [chkSs] at c
    split at c
    · exact pss_imp pss_nil tNext_ev
    · cases c
  | .cons s r, X, W, sc, sts, g, es, sp, tk, po, c => by
    simp only [chkSs] at c
    split at c
    · simp only [Bool.and_eq_true] at c
      exact pss_imp (pss_cons (soundS s g es sp tk po c.1) (soundSs r g es sp tk po c.2)) tSeq_ev
    · cases c
end
/-! ### defs -/
/-- here, in the def f -/
def Sg.at_ (S : Sg) (f : Nat) : Sg := { S with gdH := S.rp f, lamH := S.lam f }
/-- a lambda's qualified name in a def -/
def lamQ (qual : Str) : Str := (qual ++ ".<locals>.") ++ "<lambda>"
/-- the def as a class's method, __eq__, classmethod -/
structure MthAt (S : Sg) (ct : Ct) (K : PySem.W.Frag) (mg : Str → Option Value) (f : Nat) (a : Addr) : Prop where
  mt : ∀ c m, ct.mth c m = some f → ∃ D, mg (S.nm c) = some (.ref D) ∧ Cls K D ∧ Meth K D (S.nm m) a ∧ ∀ g, ct.fld c g = true → S.nm g ≠ S.nm m
  eq : ∀ c, ct.eqm c = some f → ∃ D, mg (S.nm c) = some (.ref D) ∧ PySem.W.findIn K (.ref D) "__eq__" = some (some (.ref a)) ∧ PySem.W.isFn K (.ref a) = true ∧
    PySem.W.findIn K (.ref D) "__ne__" = some (some (.builtin "object.__ne__")) ∧ PySem.W.subIn K (.ref D) (.type "object") = some true ∧ (∀ t, t ∈ ["NoneType", "bool", "int", "str", "tuple", "list", "dict"] → PySem.W.notFirst K D (.type t) = true)
  pr : ∀ c m, ct.prp c m = some f → ∃ D p, mg (S.nm c) = some (.ref D) ∧ Cls K D ∧ PropOf K D (S.nm m) p a
  cm : ∀ c m, ct.cmt c m = some f → ∃ D mc p, mg (S.nm c) = some (.ref D) ∧ ClX.CRead K D mc ∧ ClX.CMet K D mc (S.nm m) p a
/-- what is written of a def -/
structure DefOk (S : Sg) (T : List (Addr × Str)) (cs : List (Addr × Addr)) (ct : Ct) (K : PySem.W.Frag) (mg : Str → Option Value) (f : Nat) (ps : List Str) (fd : Fd) (N : List Str) (st : Stmt) : Prop where
  nm : ∃ a fdt name qual, (S.glo f = true → mg (S.nm f) = some (.ref a)) ∧ (∀ c, S.init c = some f → ∃ D, mg (S.nm c) = some (.ref D) ∧ Mk K D a) ∧ MthAt S ct K mg f a ∧
    FunD K name qual (defArgs st) (defBody st) (defScope st) [] [] a fdt ∧ (∀ (s : Shared) (us : List Value), us.length = ps.length → BindsTo s fdt ⟨us, []⟩ (ps.zip us)) ∧
    (S.lam f = true → ∃ c P, fdt.code = .ref c ∧ (c, P) ∈ cs ∧ (P, lamQ qual) ∈ T ∧ ∀ p ∈ T, p.1 = P → p.2 = lamQ qual)
  sc : FnScope N ps (defScope st)
  np : fd.np = ps.length
  n : fd.n = N.length
  chk : chkSs (S.at_ f) N (defScope st) fd.body (defBody st) = true
theorem spF_len {F : List PV → PHeap → R PV} {m : Nat} (h : ∀ ds h, ds.length ≠ m → F ds h = .stuck) {vs : List V} {H : Hp} {Q : VK} {E : XK} (q : spF G F vs H Q E) : vs.length = m := by
  obtain ⟨φ, h0, ds, rh, rv, p⟩ := q
  rw [← rv.length]
  by_cases e : ds.length = m
  · exact e
  · rw [h ds h0 e] at p; exact p.elim
theorem Scp.self {X : Cx} (hf : ∀ x, X.fn x = true) : Scp X.env.scope.names X where
  loc := fun x h => by simpa [isK] using h
  cel := fun x h => ⟨by simpa [isK] using h, hf x⟩
  vis := fun x h => by
    simp only [isVis, isK, Bool.or_eq_true, beq_iff_eq] at h
    rcases h with (h | h) | h
    · exact .inl h
    · exact .inr (.inl h)
    · exact .inr (.inr h)
  gl := fun x h => by
    have z : X.env.scope.names.lookup x = some .globalImplicit := by simpa [isK] using h
    exact z
  cf := fun x h => h
/-- what is written of the text -/
structure TxtOk (S : Sg) (G : Gc) (cs : List (Addr × Addr)) (ct : Ct) (P : Program) (w : World) (K : PySem.W.Frag) (mg : Str → Option Value) : Prop where
  hP : G.P = P
  hw : G.w = w
  hK : G.K = K
  hmg : G.mg = mg
  nm : G.nm = S.nm
  sl : G.isSl = ct.isSl
  slo : G.slot = ct.slot
  fdl : G.fld = ct.fld
  fns : ∀ f ps fd, S.fn f = some (ps, fd) → ∃ N st, DefOk S G.T cs ct K mg f ps fd N st
  scl : ∀ c D, ct.isSl c = true → mg (S.nm c) = some (.ref D) → SlX.SCls K D
  sls : ∀ c f i D, ct.slot c f = some i → mg (S.nm c) = some (.ref D) → ∃ p, SlX.Slot1 K D (S.nm f) p i
  pcl : ∀ c f D, ct.isSl c = false → ct.fld c f = true → mg (S.nm c) = some (.ref D) → Cls K D ∧ NoAttr K D (S.nm f)
  inj : ∀ c f g i, ct.slot c f = some i → ct.slot c g = some i → f = g
  inn : ∀ c f g, ct.fld c f = true → ct.fld c g = true → S.nm f = S.nm g → f = g
  cst : ∀ x d, S.cst.lookup x = some d → ∃ u v, mg x = some u ∧ RelV v u ∧ ∀ φ H, RepV G φ H d v
  blt : ∀ x, S.blts.contains x = true → mg x = none
  exc : ∀ c, S.exc c = true → ∃ D, mg (S.nm c) = some (.ref D) ∧ PySem.W.keepIn K (.ref D) = true ∧ PySem.W.excIn K D [.type "ValueError", .type "Exception", .type "BaseException", .type "object"] "ValueError.__new__" = true ∧
    PySem.W.subIn K (.ref D) (.type "BaseException") = some true ∧ PySem.W.typeIn K (.ref D) = some (.type "type")
  exm : ∀ c d b, ct.exm c d = some b → ∃ D E, mg (S.nm c) = some (.ref D) ∧ mg (S.nm d) = some (.ref E) ∧ PySem.W.exmOne K (.ref D) (.ref E) = some b
  met : ∀ m, S.met m = true → ∃ hs last g fdt st a Ng, ct.met m = some (hs, last) ∧ mg (S.nm m) = some (.ref g) ∧ FunD K (S.nm m) (S.nm m) (defArgs st) (defBody st) (defScope st) [] [] g fdt ∧ Binds K fdt [a] [] ∧ FnScope Ng [a] (defScope st) ∧
    metB S.nm S.blts (S.rp m) Ng (defScope st).names a hs last (defBody st) = true ∧ ∀ p ∈ hs, ∃ E, mg (S.nm p.1) = some (.ref E)
  raf : ∀ c f, ct.xfl c = some f → ∃ D B n i bm, mg (S.nm c) = some (.ref D) ∧ BaseOk B n i bm ∧ ErrC P w K mg D (S.nm f) n bm ∧ XfC K D ∧ PySem.W.findIn K (.ref D) (S.nm f) = some none
  cls : ∀ c, S.cls c = true → ∃ D, mg (S.nm c) = some (.ref D)
  mf : ∀ f, ((∃ c m, ct.mth c m = some f) ∨ (∃ c, ct.eqm c = some f) ∨ (∃ c m, ct.cmt c m = some f) ∨ ∃ c m, ct.prp c m = some f) → (∃ ps fd, S.fn f = some (ps, fd)) ∧ S.rp f = false
  mfn : ∀ c m f D a, ct.mth c m = some f → mg (S.nm c) = some (.ref D) → Meth K D (S.nm m) a → PySem.W.fnIn K a = true
  sub : ∀ d c b, ct.sub d c = some b → ∃ D E, mg (S.nm d) = some (.ref D) ∧ mg (S.nm c) = some (.ref E) ∧ SlX.SIsi K D ∧ (ct.isSl d = false → Cls K D) ∧ PySem.W.kitOne K (.ref D) (.ref E) = some b
  isb : ∀ c t, (ct.sub c c).isSome = true → t ∈ ["NoneType", "bool", "int", "str", "tuple", "list", "dict"] → ∃ E, mg (S.nm c) = some (.ref E) ∧ PySem.W.kitOne K (.type t) (.ref E) = some false
/-- a def by its body; what leaves it may be locked -/
theorem Inv.frzs {X : Cx} {pins : List (Addr × Obj)} {σ : St} {s : Shared} {R : Hp → Prop} : ∀ {L : List Addr} {H : Hp}, Inv X pins σ H s → Frzs L H R → ∃ H', Inv X pins σ H' s ∧ R H'
  | [], H, I, q => ⟨H, I, q⟩
  | d :: L, H, I, ⟨u, e, mu, q⟩ => by
    obtain ⟨od, I'⟩ := I.lock e mu
    exact Inv.frzs I' (q od)
/-- behind the body: the call's end -/
theorem end_of {CX : CXT} {P : Program} {w : World} {K : PySem.W.Frag} {mg : Str → Option Value} {base : Heap} {N : List Str} {qual : Str} {scope : Scope} {f : Addr} {cdv : Value} {A : Around} {outer : List Env} {s s' : Shared} {H : Hp} {Q : VK} {E : XK} {fl : Flow}
    (q : SP (cxOf CX P w K mg base N qual scope f cdv A outer s H E) [] { nx := fun _ H' => ∃ L, Frzs L H' (Q .non), rt := fun v H' => ∃ L, Frzs L H' (Q v) } fl s') :
    ∃ u, (fl = .ret u ∨ (fl = .next ∧ u = .none)) ∧ CE outer P w H s Q u s' := by
  have done : ∀ {τ : L2.St} {H' : Hp} {v : V} {u : Value}, Inv (cxOf CX P w K mg base N qual scope f cdv A outer s H E) [] τ H' s' → RelV v u → (∃ L, Frzs L H' (Q v)) → CE outer P w H s Q u s' := fun J rv ⟨L, k⟩ =>
    let ⟨H2, J2, k2⟩ := Inv.frzs J k
    ⟨_, H2, J2.os, J2.bare, J2.base, J2.hok, rv, k2⟩
  match fl, q with
  | .ret u, ⟨v, τ, H', J, rv, k⟩ => exact ⟨u, .inl rfl, done J rv k⟩
  | .next, ⟨τ, H', J, k⟩ => exact ⟨.none, .inr ⟨rfl, rfl⟩, done (v := V.non) J rfl k⟩
  | .brk, ⟨_, _, _, k⟩ => exact k.elim
  | .cont, ⟨_, _, _, k⟩ => exact k.elim
open PySem.Spec PyProof.Rows in
theorem fn_ofZ {gz : Bool} {CX : CXT} {P : Program} {w : World} {K : PySem.W.Frag} {mg : Str → Option Value} {base : Heap} {k : Nat} {f : Addr} {fd : FuncData} {name qual : Str} {params : Arguments} {body : List Stmt} {scope : Scope} {N ps : List Str} {sp : Sp}
    (F : FunD K name qual params body scope [] [] f fd) (S : FnScope N ps scope) (len : ∀ vs H Q E, sp vs H Q E → vs.length = ps.length)
    (bd : ∀ (cdv : Value) (A : Around) (outer : List Env) (s : Shared) (H : Hp) (vs : List V) (Q : VK) (E : XK), fd.code = cdv → (gz = true → (cxOf CX P w K mg base N qual scope f cdv A outer s H E).A.guards = some []) → Room k (A.deeper (envOfC qual scope s.heap.objs.size f cdv)) → sp vs H Q E →
      ∃ t, PSs (cxOf CX P w K mg base N qual scope f cdv A outer s H E) body t ∧ t { nx := fun _ H' => ∃ L, Frzs L H' (Q .non), rt := fun v H' => ∃ L, Frzs L H' (Q v) } (start N vs) H) :
    FnOkZ gz P w K mg base CX (k + 1) f fd ps sp where
  len := len
  run := fun A outer s H args us vs Q E hgd room e0 bind rv hsp => by
    obtain ⟨_, _, _, _, _, _, _, cdv, _, _, rfl, at_, code, _, _⟩ := F.ex
    have old : ∀ b o, base.get? b = some o → s.heap.get? b = some o := fun b o e => (e0.bs b o e).1
    have kin := e0.mod.kin.keeps old
    have known : ∀ y ∈ ps.zip us, scope.names.lookup y.1 = some .local ∨ (scope.names.lookup y.1 = some .cell ∧ ((cellsFrom (s.heap.objs.size + 1) scope.names []).lookup y.1).isSome = true) :=
      fun y hy => (S.par y.1 (List.of_mem_zip hy).1).imp id fun c => ⟨c, PySem.W.cellsFrom_some _ _ _ (.inl c)⟩
    obtain ⟨t, runs, start⟩ := bd cdv A outer s H vs Q E rfl hgd (room.deeper _) hsp
    apply codeAny_call_function room.depth (kin _ _ at_) rfl S.co S.gen rfl (PySem.W.codeRec_of kin code)
    apply bind
    apply wpAny_newFunctionEnv_cells S.kind known
    rintro env rfl s1 x
    refine ⟨(e0.mod.nolimit.keeps old).keeps x.toInCall.keep, codeAny_func (wpAny_mono (runs.run [] s1 _ H _ (inv_start S room.hd e0 (len _ _ _ _ hsp) rv x) start) (fun fl s' q => ?_) fun _ _ q => q)⟩
    obtain ⟨u, rfl | ⟨rfl, rfl⟩, ce⟩ := end_of q
    · exact ce
    · exact ce
def tabOf (S : Sg) : Nat → Option Fd := fun f => (S.fn f).map (·.2)
theorem rep_start {φ : List Addr} {H : Hp} {ds : List PV} {vs : List V} {n m : Nat} (q : RepVs G φ H ds vs) (hm : m = ds.length) (N : List Str) (hn : n = N.length) : RepL G φ H (ds.map some ++ List.replicate (n - m) none) (L2.start N vs) := by
  have l1 := q.length
  subst hm
  subst hn
  refine ⟨by simp [L2.start, l1], fun i d e => ?_⟩
  by_cases hi : i < ds.length
  · rw [List.getElem?_append_left (by simpa using hi), List.getElem?_map] at e
    cases z : ds[i]? with
    | none => rw [z] at e; cases e
    | some d' =>
      rw [z] at e
      cases e
      obtain ⟨v, e1, r⟩ := q.get z
      refine ⟨v, ?_, r⟩
      unfold L2.start
      rw [List.getElem?_append_left (by simp; omega), List.getElem?_map, e1]
      rfl
  · rw [List.getElem?_append_right (by simpa using hi), List.getElem?_replicate] at e
    split at e <;> cases e
theorem binds_of {K : PySem.W.Frag} {fdt : FuncData} {ps : List Str} (b : ∀ (s : Shared) (us : List Value), us.length = ps.length → BindsTo s fdt ⟨us, []⟩ (ps.zip us)) : Binds K fdt ps [] := fun s us _ hl => by
  rw [List.append_nil] at hl ⊢
  exact b s us hl
theorem runFs_len {fd : Fd} {C : Orc} {ds : List PV} {h : PHeap} (hl : ds.length ≠ fd.np) : runFs fd C ds h = .stuck := by
  unfold runFs runFn
  rw [if_neg hl]
  cases fd.fz <;> rfl
theorem all_sound {P : Program} {w : World} {K : PySem.W.Frag} {mg : Str → Option Value} {ct : Ct} {cs : List (Addr × Addr)} (T : TxtOk S G cs ct P w K mg) : ∀ (n : Nat) (f : Nat) (ps : List Str) (fd : Fd), S.fn f = some (ps, fd) →
    ∃ a fdt, (S.glo f = true → mg (S.nm f) = some (.ref a)) ∧ (∀ c, S.init c = some f → ∃ D, mg (S.nm c) = some (.ref D) ∧ Mk K D a) ∧ MthAt S ct K mg f a ∧ PySem.W.keepIn K (.ref a) = true ∧
      (∀ (s : Shared) (us : List Value), us.length = ps.length → BindsTo s fdt ⟨us, []⟩ (ps.zip us)) ∧ ∀ base : Heap, (∀ p ∈ cs, LamX.TabB base mg p.1 p.2) → FnOkZ (S.rp f) P w K mg base (L2.CX P w) (4 * n) a fdt ps (spF G (callN ct (tabOf S) n f))
  | 0, f, ps, fd, hf => by
    obtain ⟨N, st, D⟩ := T.fns f ps fd hf
    obtain ⟨a, fdt, name, qual, e1, e2, em, F, b, _⟩ := D.nm
    have no : ∀ {vs H Q E}, ¬ spF G (callN ct (tabOf S) 0 f) vs H Q E := fun ⟨φ, h0, ds, rh, rv, p⟩ => p
    exact ⟨a, fdt, e1, e2, em, F.kp, b, fun base _ => ⟨fun vs H Q E q => (no q).elim, fun A outer s H args us vs Q E hgd hr he hb hv hs => (no hs).elim⟩⟩
  | n + 1, f, ps, fd, hf => by
    obtain ⟨N, st, D⟩ := T.fns f ps fd hf
    obtain ⟨a, fdt, name, qual, e1, e2, em, F, b, lm⟩ := D.nm
    refine ⟨a, fdt, e1, e2, em, F.kp, b, fun base TB => ?_⟩
    have ht : tabOf S f = some fd := by unfold tabOf; rw [hf]; rfl
    refine fn_ofZ (CX := L2.CX P w) (k := 4 * n + 3) F D.sc (fun vs H Q E q => ?_) (fun cdv A outer s H vs Q E hcd hgd hr q => ?_)
    · refine spF_len (fun ds h hne => ?_) q
      simp only [callN, ht]
      exact runFs_len (by rw [D.np]; exact hne)
    · have ih := all_sound T n
      have g : Glob (S.at_ f) G ⟨callN ct (tabOf S) n, ct⟩ (4 * n) (cxOf (L2.CX P w) P w K mg base N qual (defScope st) a cdv A outer s H E) :=
        { K := T.hK, mg := T.hmg, nm := T.nm, P := T.hP, w := T.hw, sl := T.sl, slo := T.slo, fdl := T.fdl, nd := D.sc.nd, calm := rfl, room := hr.mono (by omega), gd := hgd, kind := D.sc.kind,
          fns := fun f' ps' fd' hf' hg => (let ⟨a, fdt, e1, _, _, e2, e3, e4⟩ := ih f' ps' fd' hf'; ⟨a, fdt, e1 hg, e2, binds_of e3, e4 base TB⟩),
          mks := fun c f' ps' fd' hf' hc => (let ⟨a, fdt, _, e1, _, e2, e3, e4⟩ := ih f' ps' fd' hf'; let ⟨D, d1, d2⟩ := e1 c hc; ⟨D, a, fdt, d1, d2, binds_of e3, e4 base TB⟩),
          scl := T.scl, sls := T.sls, pcl := T.pcl, inj := T.inj, inn := T.inn, cst := T.cst, blt := T.blt, exc := T.exc, exm := T.exm, met := T.met, raf := T.raf, cls := T.cls, sub := T.sub, isb := T.isb,
          mts := fun c m f' hc => (let ⟨⟨ps', fd', hf'⟩, hrp⟩ := T.mf f' (.inl ⟨c, m, hc⟩); let ⟨a, fdt, _, _, M, e2, e3, e4⟩ := ih f' ps' fd' hf'; let ⟨D, d1, d2, d3, d4⟩ := M.mt c m hc; ⟨ps', fd', D, a, fdt, hf', d1, d2, d3, d4, binds_of e3, hrp ▸ e4 base TB⟩),
          eqs := fun c f' hc => (let ⟨⟨ps', fd', hf'⟩, hrp⟩ := T.mf f' (.inr (.inl ⟨c, hc⟩)); let ⟨a, fdt, _, _, M, e2, e3, e4⟩ := ih f' ps' fd' hf'; let ⟨D, d1, d2, d3, d4, d5, d6⟩ := M.eq c hc; ⟨ps', fd', D, a, fdt, hf', d1, d2, d3, d4, d5, d6, binds_of e3, hrp ▸ e4 base TB⟩),
          cms := fun c m f' hc => (let ⟨⟨ps', fd', hf'⟩, hrp⟩ := T.mf f' (.inr (.inr (.inl ⟨c, m, hc⟩))); let ⟨a, fdt, _, _, M, e2, e3, e4⟩ := ih f' ps' fd' hf'; let ⟨D, mc, p, d1, d2, d3⟩ := M.cm c m hc; ⟨ps', fd', D, mc, p, a, fdt, hf', d1, d2, d3, binds_of e3, hrp ▸ e4 base TB⟩),
          mfn := T.mfn,
          prs := fun c m f' hc => (let ⟨⟨ps', fd', hf'⟩, hrp⟩ := T.mf f' (.inr (.inr (.inr ⟨c, m, hc⟩))); let ⟨a, fdt, _, _, M, e2, e3, e4⟩ := ih f' ps' fd' hf'; let ⟨D, p, d1, d2, d3⟩ := M.pr c m hc; ⟨ps', fd', D, p, a, fdt, hf', d1, d2, d3, binds_of e3, hrp ▸ e4 base TB⟩), lam := fun z => ⟨hr, by
            obtain ⟨c, P, l1, l2, l3, l4⟩ := lm z
            refine ⟨c, P, ?_, TB _ l2, ?_, ?_⟩
            · exact hcd.symm.trans l1
            · exact l3
            · exact l4⟩ }
      refine ⟨_, soundSs fd.body g rfl (Scp.self fun _ => rfl) (takes_of rfl rfl rfl rfl) (passes_of rfl) D.chk, ?_⟩
      obtain ⟨φ, h, ds, rh, rv, p⟩ := q
      simp only [callN, ht] at p
      have p : Post G φ H (runFn fd ⟨callN ct (tabOf S) n, ct⟩ ds h) (fun v H' => ∃ L, Frzs L H' (Q v)) E := by
        unfold runFs at p
        split at p
        · exact seal_post rh p
        · exact Post.mono p fun v H' q => ⟨[], q⟩
      unfold runFn at p
      split at p
      · rename_i hl
        refine ⟨φ, _, h, rh, rep_start rv hl.symm N D.n, ?_⟩
        cases z : exSs ⟨callN ct (tabOf S) n, ct⟩ fd.body (ds.map some ++ List.replicate (fd.n - fd.np) none) h with
        | nx l1 h1 => rw [z] at p; exact fun φ' H' σ' x rh' rl' => p φ' H' _ x rh' .non
        | rt d h1 => rw [z] at p; exact p
        | bk l1 h1 => rw [z] at p; exact p.elim
        | ct l1 h1 => rw [z] at p; exact p.elim
        | exc c fs l1 h1 => rw [z] at p; exact fun φ' H' σ' cls dd x rh' rl' rx => p φ' H' cls dd x rh' rx
        | stuck => rw [z] at p; exact p.elim
      · exact p.elim
/-- the law: the script goes in, True comes out -/
theorem law_post {F : List PV → PHeap → R PV} {K : PySem.W.Frag} {H : Hp} {a : Addr} {ns : List Int} (hK : G.K = K) (hT : ∀ p ∈ G.T, TabZ [] H p.1 p.2) (hS : FzK K H a (ns.map V.int)) (h : ∃ h', F [.scr ns] [] = .ok (.bl true) h') :
    spF G F [.ref a] H (fun v _ => v = .bl true) (fun _ _ _ => False) := by
  obtain ⟨h', e⟩ := h
  refine ⟨[], [], [.scr ns], ⟨hT, rfl, List.nodup_nil, fun i o a h1 => by simp at h1⟩, .cons (.scr (hK ▸ hS)) .nil, ?_⟩
  rw [e]
  intro φ' H' v x rh rv
  cases rv
  rfl
end
end Zed
end
section
set_option Elab.async false
set_option linter.all false
set_option maxRecDepth 100000
set_option maxHeartbeats 1000000
/-! ZedG: from the head to the law's call; the law's def may want to know that no repr is under way -/
namespace Zed
open PySem PySem.Spec PyProof.Rows L2
def tabO : Obj := { cls := .none, data := .fields #[] }
/-- what is tracked at first: the script, unless it is written; the tables -/
def H0 (K : PySem.W.Frag) (a : Addr) (ob : Obj) (xs : List V) (T : List Addr) : Hp := fun b => if b ∈ T then some (.tbl #[]) else if (K.lookup a).isNone = true ∧ b = a then some (.frz ob (.lst xs)) else none
section
variable {K : PySem.W.Frag} {a b : Addr} {ob o : Obj} {xs : List V} {T : List Addr} {u : HO} {h : Heap}
theorem h0_tab (hb : b ∈ T) : H0 K a ob xs T b = some (.tbl #[]) := if_pos hb
theorem h0_cases (e : H0 K a ob xs T b = some u) : (b ∈ T ∧ u = .tbl #[]) ∨ (K.lookup a = none ∧ b = a ∧ u = .frz ob (.lst xs)) := by
  unfold H0 at e
  split at e
  · rename_i z; cases e; exact .inl ⟨z, rfl⟩
  · split at e
    · rename_i z; cases e; exact .inr ⟨by simpa using z.1, z.2, rfl⟩
    · cases e
/-- where something else stands, nothing is tracked -/
theorem h0_none (isT : ∀ p ∈ T, h.get? p = some tabO) (isA : h.get? a = some ob) (e : h.get? b = some o) (n1 : o ≠ tabO) (n2 : o ≠ ob) : H0 K a ob xs T b = none := by
  cases z : H0 K a ob xs T b with
  | none => rfl
  | some u =>
    rcases h0_cases z with ⟨hb, _⟩ | ⟨_, rfl, _⟩
    · rw [isT b hb] at e; exact absurd (Option.some.inj e).symm n1
    · rw [isA] at e; exact absurd (Option.some.inj e).symm n2
end
theorem law_callZ {gz : Bool} {P : Program} {w : World} {K : PySem.W.Frag} {mg mb : Str → Option Value} {k : Nat} {fa a : Addr} {cs : List (Addr × Addr)} {fd : FuncData} {x : Str} {sp : Sp} {s : Shared} {vs : List Value} {ns : List Int}
    (KX : K.In s.heap) (glob : s.heap.Ns mainGlobals mg) (bns : s.heap.Ns builtinsNs mb) (boot : ∀ x : Str, x ≠ "__name__" → mb x = bootBuiltins x) (lim : s.heap.NoLimit) (gens : s.gens = #[])
    (isT : ∀ p ∈ cs, s.heap.get? p.2 = some tabO) (nT : ∀ p ∈ cs, K.lookup p.2 = none) (hd : ∀ p ∈ cs, PySem.W.codeHdIn K p.1 p.2 = true)
    (bm : ∃ (bm : Addr) (ob : Obj), mg "__builtins__" = some (.ref bm) ∧ bm ≠ builtinsNs ∧ s.heap.get? bm = some ob ∧ ob.cls = .type "module" ∧ ob.dict = some builtinsNs ∧ ob.data = .plain)
    (isA : s.heap.get? a = some { cls := .type "list", data := .seq vs.toArray }) (hints : IntsAre vs ns) (len : ns.length ≤ sizeLine) (room : Room k callerA)
    (F : ∀ base : Heap, (∀ p ∈ cs, LamX.TabB base mg p.1 p.2) → FnOkZ gz P w K mg base (L2.CX P w) k fa fd [x] sp) (bind : ∀ (s : Shared) (u : Value), BindsTo s fd ⟨[u], []⟩ [(x, u)])
    (want : ∀ H : Hp, (∀ p ∈ cs, H p.2 = some (.tbl #[])) → FzK K H a (ns.map V.int) → sp [.ref a] H (fun v _ => v = .bl true) fun _ _ _ => False) :
    codeAny (model P w) callerA (.call (.ref fa) ⟨[.ref a], []⟩) (fun r s' => r = .ok (.ret (.bool true)) ∧ OldK s.heap s'.heap ∧ s'.os = s.os ∧ AllBare s'.gens) s := by
  let ob : Obj := { cls := .type "list", data := .seq vs.toArray }
  let T : List Addr := cs.map (·.2)
  let H : Hp := H0 K a ob (ns.map V.int) T
  have vals := vals_ints hints
  have tT : ∀ p ∈ T, s.heap.get? p = some tabO := fun p hp => by
    obtain ⟨q, hq, e⟩ := List.mem_map.mp hp
    rw [← e]; exact isT q hq
  have free : ∀ {b : Addr} {o : Obj}, s.heap.get? b = some o → o.data ≠ tabO.data → o.data ≠ ob.data → H b = none := fun e n1 n2 => h0_none tT isA e (fun z => n1 (by rw [z])) fun z => n2 (by rw [z])
  have stays : ∀ {b : Addr} {o : Obj}, s.heap.get? b = some o → H b = none → (hidT s.heap H).get? b = some o := fun e n => hidT_get e n
  have spaces : ∀ {b : Addr} {m : Str → Option Value}, s.heap.Ns b m → (hidT s.heap H).Ns b m := fun ⟨o, es, ep, e, d, r⟩ =>
    ⟨o, es, ep, stays e (free e (fun z => by rw [d] at z; cases z) fun z => by rw [d] at z; cases z), d, r⟩
  have kin : K.In (hidT s.heap H) := fun b o e => stays (KX b o e) <| by
    cases z : H b with
    | none => rfl
    | some u =>
      exfalso
      rcases h0_cases z with ⟨hb, _⟩ | ⟨na, rfl, _⟩
      · obtain ⟨q, hq, e2⟩ := List.mem_map.mp hb
        rw [← e2, nT q hq] at e; cases e
      · rw [na] at e; cases e
  have modu : L2.Mod K mg (hidT s.heap H) := ⟨kin, spaces glob, ⟨mb, spaces bns, boot⟩, let ⟨mc, l1, l2⟩ := lim; ⟨mc, spaces l1, l2⟩⟩
  have tabs : ∀ p ∈ cs, LamX.TabB (hidT s.heap H) mg p.1 p.2 := fun p hp => by
    obtain ⟨m, om, b1, b2, b3, b4, b5, b6⟩ := bm
    obtain ⟨og, es, ep, g1, g2, _⟩ := glob
    refine ⟨PySem.W.codeHd_of_K kin (hd p hp), ⟨m, om, b1, b2, fun z => ?_, fun z => ?_, stays b3 (free b3 (fun z => ?_) fun z => ?_), b4, b5, b6⟩, fun z => ?_⟩
    · rw [z, g1] at b3; cases b3; rw [g2] at b6; cases b6
    · rw [z, isT p hp] at b3; cases b3; cases b6
    · rw [b6] at z; cases z
    · rw [b6] at z; cases z
    · rw [z, isT p hp] at g1; cases g1; cases g2
  have holds : HOk P w H s.heap := fun b u e => by
    rcases h0_cases e with ⟨hb, rfl⟩ | ⟨_, rfl, rfl⟩
    · exact tT b hb
    · exact ⟨isA, by simpa using len, vs, _, vals, isA⟩
  have scr : FzK K H a (ns.map V.int) := by
    cases z : K.lookup a with
    | some o =>
      have e := KX a o z
      rw [isA] at e
      cases e
      exact .inr ⟨_, vs.toArray, _, z, rfl, rfl, rfl, by have := vals.length; simp at this; simp; omega, by simpa using vals⟩
    | none =>
      refine .inl ⟨ob, ?_⟩
      have na : a ∉ T := fun hm => by
        have := tT a hm
        rw [isA] at this; cases this
      show (if a ∈ T then _ else _) = _
      rw [if_neg na, if_pos ⟨by rw [z]; rfl, rfl⟩]
  have e0 : Env0 P w K mg (hidT s.heap H) callerA [] s H := ⟨rfl, modu, fun b o e => of_hidT e, Nat.le_of_eq (hidT_size _ _), trivial, (fun b hb => nomatch hb), holds, .of_eq gens⟩
  refine codeAny_mono ((F _ tabs).run callerA [] s H ⟨[.ref a], []⟩ [.ref a] [.ref a] _ _ (fun _ => rfl) room e0 (bind s (.ref a)) (.cons rfl .nil) (want H (fun p hp => h0_tab (List.mem_map.mpr ⟨p, hp, rfl⟩)) scr)) fun r s' end_ => ?_
  match r, end_ with
  | .error e, z => exact (by obtain ⟨_, _, _, _, _, _, _, _, _, _, _, _, q⟩ := z; exact q.elim)
  | .ok (.ret u), ⟨v, H', os, bare, un, ok', rel, q⟩ =>
    have q : v = .bl true := q
    subst q
    obtain rfl : u = Value.bool true := rel
    have same : ∀ b o, b ∉ T → s.heap.get? b = some o → s'.heap.get? b = some o := fun b o nb e => by
      cases z : H b with
      | none => exact un.keep b o e z (fun hm => nomatch hm) (fun hm => nomatch hm)
      | some t =>
        rcases h0_cases z with ⟨hb, _⟩ | ⟨_, rfl, rfl⟩
        · exact absurd hb nb
        · obtain ⟨k1, _⟩ := holds _ _ z
          obtain ⟨k2, _⟩ := ok' _ _ (un.frzs _ _ _ z)
          rw [e] at k1; cases k1; exact k2
    have grew : ∀ b, b ∈ T → ∃ more : Array Value, s'.heap.get? b = some { cls := .none, data := .fields more } := fun b hb => by
      obtain ⟨more, z⟩ := un.tbls b #[] (h0_tab hb)
      exact ⟨_, ok' b _ z⟩
    refine ⟨rfl, ⟨fun b o e => ?_, fun b o e => ?_⟩, os, bare⟩
    · by_cases hb : b ∈ T
      · obtain ⟨p, hp, rfl⟩ := List.mem_map.mp hb
        obtain ⟨more, e2⟩ := grew _ hb
        rw [isT p hp] at e
        cases e
        have code := PySem.W.codeHd_of_K KX (hd p hp)
        exact .inr (.inl ⟨(code.tab (isT p hp)).isCodeTable, rfl, #[], more, rfl, by rw [Array.empty_append]; exact e2⟩)
      · exact .inl (same b o hb e)
    · by_cases hb : b ∈ T
      · obtain ⟨more, e2⟩ := grew b hb
        exact ⟨_, e2⟩
      · exact ⟨o, same b o hb e⟩
end Zed
end
section
set_option Elab.async false
set_option linter.all false
set_option maxRecDepth 100000
/-! ZedH: one look at the laid heap, with defs that stand in records (classmethods, properties). -/
namespace HeZ
open PySem L2 He He5
def asY (g : Addr → Option Obj) (n : Nat) : List Addr := asD g n ++ [cStatics]
abbrev frY (g : Addr → Option Obj) (n : Nat) : PySem.W.Frag := frT g (asY g n)
abbrev AlY : Type := AlX × AlD
def obsY (n : Nat) (fa : List Fa) (fn : List DefD) (tf : List Defn) (ex : PySem.W.Frag → Bool) (fw : List DefA) (g : Addr → Option Obj) : AlY :=
  ((obsT fa fn [] (frY g n), ex (frY g n) && tabsB g tf (frY g n)), obsA [] fw (frY g n))
def valY (fn : List DefD) (fw : List DefA) (w : World) : AlY := (valX fn [] w, valA fw)
structure SaysY (fa : List Fa) (fn : List DefD) (tf : List Defn) (ex : PySem.W.Frag → Bool) (fw : List DefA) (w : World) (h : Heap) (K : PySem.W.Frag) : Prop where
  x : SaysX fa fn [] tf ex w h K
  a : SaysA [] fw K
theorem saysY_of {n : Nat} {fa : List Fa} {fn : List DefD} {tf : List Defn} {ex : PySem.W.Frag → Bool} {fw : List DefA} {w : World} {h : Heap} (e : obsY n fa fn tf ex fw h.get? = valY fn fw w) : SaysY fa fn tf ex fw w h (frY h.get? n) := by
  have e0 : (obsT fa fn [] (frY h.get? n), ex (frY h.get? n) && tabsB h.get? tf (frY h.get? n)) = valX fn [] w := congrArg (fun z : AlY => z.1) e
  have e3 : obsA [] fw (frY h.get? n) = valA fw := congrArg (fun z : AlY => z.2) e
  have e1 : obsT fa fn [] (frY h.get? n) = valT fn [] w := congrArg (fun z : AlX => z.1) e0
  have e2 : (ex (frY h.get? n) && tabsB h.get? tf (frY h.get? n)) = true := congrArg (fun z : AlX => z.2) e0
  obtain ⟨h1, h2⟩ := ba e2
  have key : ∀ p ∈ tf, PySem.W.codeHdIn (frY h.get? n) (cT (frY h.get? n) p).1 (cT (frY h.get? n) p).2 = true ∧ ∃ o, h.get? (cT (frY h.get? n) p).2 = some o ∧ emptyTab o = true := fun p hp => by
    obtain ⟨h3, h4⟩ := ba (List.all_eq_true.mp h2 p hp)
    refine ⟨h3, ?_⟩
    cases q : h.get? (cT (frY h.get? n) p).2 with
    | none =>
      rw [q] at h4
      cases h4
    | some o =>
      rw [q] at h4
      exact ⟨o, rfl, h4⟩
  exact ⟨⟨e1, h1, fun p hp => (key p hp).1, fun p hp => by
    obtain ⟨_, o, q, z⟩ := key p hp
    exact frT_none q z, fun p hp => by
    obtain ⟨_, o, q, z⟩ := key p hp
    rw [q, emptyTab_eq z]⟩, e3⟩
def hookY (n : Nat) (fa : List Fa) (fn : List DefD) (tf : List Defn) (ex : PySem.W.Frag → Bool) (fw : List DefA) : PySem.W.Hook where
  α := AlY
  obs := fun s => obsY n fa fn tf ex fw s.heap.get?
  val := fun w => valY fn fw w
  says := fun w h => ∃ K : PySem.W.Frag, K.In h ∧ SaysY fa fn tf ex fw w h K
  of := fun _ _ e => ⟨_, frT_in, saysY_of e⟩
  keeps := fun _ _ _ ⟨K, hK, c⟩ k => ⟨K, PySem.W.Frag.In.keeps hK k, ⟨⟨c.x.t, c.x.more, c.x.hd, c.x.out, fun p hp => k _ _ (c.x.empty p hp)⟩, c.a⟩⟩
theorem obsY_eq {n : Nat} {fa : List Fa} {fn : List DefD} {tf : List Defn} {ex : PySem.W.Frag → Bool} {fw : List DefA} {g : Addr → Option Obj} {s : Shared} (h : ∀ a, g a = s.heap.get? a) : obsY n fa fn tf ex fw g = (hookY n fa fn tf ex fw).obs s := by
  have e : g = s.heap.get? := funext h
  rw [e] <;> rfl
end HeZ
end
section
set_option Elab.async false
set_option linter.all false
set_option maxRecDepth 100000
set_option maxHeartbeats 4000000
namespace Zed
open PySem L2
/-! ### a law's table -/
/-- a def: its number, where it stands (a module's name; a class and its method), its name, qualified name, parameters, body, slots, text -/
structure Row where
  id : Nat
  at_ : Str × Option Str
  name : Str
  qual : Str
  ps : List Str
  fd : Fd
  N : List Str
  st : Stmt
  /-- in a classmethod's record; pr: in a property's -/
  wr : Bool := false
  pr : Bool := false
/-- a class: its number, name, __init__'s number; with slots: the attributes' places; else the plain attributes -/
structure CRow where
  id : Nat
  name : Str
  init : Option Nat
  isSl : Bool
  slots : List (Nat × Nat)
  flds : List Nat
/-- a def that calls a lambda and tells how it ended: its number, parameter, slots, text, what it tells -/
structure MRow where
  id : Nat
  a : Str
  N : List Str
  st : Stmt
  hs : List (Nat × Hx)
  bk : Bk
/-- a law's text -/
structure Tx where
  nms : List (Nat × Str)
  rows : List Row
  crs : List CRow
  cst : List (Str × PV)
  blts : List Str
  /-- own errors; true: made with a text -/
  errs : List (Nat × Bool)
  exms : List (Nat × Nat × Bool)
  mets : List MRow
  rps : List Nat
  lams : List Nat
  /-- methods: class, name, def; __eq__: class, def; classmethods; classes of classes -/
  mths : List (Nat × Nat × Nat) := []
  eqms : List (Nat × Nat) := []
  cmts : List (Nat × Nat × Nat) := []
  subs : List (Nat × Nat × Bool) := []
  prps : List (Nat × Nat × Nat) := []
  /-- own errors that keep a value: class, field, built-in base; the program's file -/
  rafs : List (Nat × Nat × String) := []
  file : Str := ""
def Tx.nm (t : Tx) (k : Nat) : Str := (t.nms.lookup k).getD ""
def sgOf (t : Tx) : Sg where
  nm := t.nm
  fn := fun k => (t.rows.find? (fun r => r.id == k)).map fun r => (r.ps, r.fd)
  glo := fun k => match t.rows.find? (fun r => r.id == k) with
    | some r => r.at_.2.isNone
    | none => false
  init := fun c => match t.crs.find? (fun r => r.id == c) with
    | some r => r.init
    | none => none
  cst := t.cst
  blts := t.blts
  rp := t.rps.contains
  exc := fun c => t.errs.contains (c, true)
  met := fun k => (t.mets.find? (fun r => r.id == k)).isSome
  lam := t.lams.contains
  cls := fun c => (t.crs.find? (fun r => r.id == c)).isSome
  gdH := false
  lamH := false
def ctOf (t : Tx) : Ct where
  isSl := fun c => match t.crs.find? (fun r => r.id == c) with
    | some r => r.isSl
    | none => false
  slot := fun c f => match t.crs.find? (fun r => r.id == c) with
    | some r => if r.isSl then r.slots.lookup f else none
    | none => none
  fld := fun c f => match t.crs.find? (fun r => r.id == c) with
    | some r => r.flds.contains f
    | none => false
  met := fun k => (t.mets.find? (fun r => r.id == k)).map fun r => (r.hs, r.bk)
  exm := fun c d => (t.exms.find? (fun p => p.1 == c && p.2.1 == d)).map fun p => p.2.2
  mth := fun c m => (t.mths.find? (fun p => p.1 == c && p.2.1 == m)).map fun p => p.2.2
  sub := fun c d => (t.subs.find? (fun p => p.1 == c && p.2.1 == d)).map fun p => p.2.2
  eqm := fun c => (t.eqms.find? (fun p => p.1 == c)).map fun p => p.2
  cmt := fun c m => (t.cmts.find? (fun p => p.1 == c && p.2.1 == m)).map fun p => p.2.2
  prp := fun c m => (t.prps.find? (fun p => p.1 == c && p.2.1 == m)).map fun p => p.2.2
  xfl := fun c => (t.rafs.find? (fun p => p.1 == c)).map fun p => p.2.1
def nodupB : List Str → Bool
  | [] => true
  | x :: r => !r.contains x && nodupB r
theorem nodupB_ok : ∀ {l : List Str}, nodupB l = true → l.Nodup
  | [], _ => List.nodup_nil
  | x :: r, h => by
    simp only [nodupB, Bool.and_eq_true, Bool.not_eq_true'] at h
    have nx : x ∉ r := fun q => by
      have z : r.contains x = true := by simpa using q
      rw [z] at h
      exact Bool.noConfusion h.1
    exact List.nodup_cons.mpr ⟨nx, nodupB_ok h.2⟩
def nodupN : List Nat → Bool
  | [] => true
  | x :: r => !r.contains x && nodupN r
theorem slots_inj : ∀ {l : List (Nat × Nat)}, nodupN (l.map (·.2)) = true → ∀ {f g i : Nat}, l.lookup f = some i → l.lookup g = some i → f = g
  | [], _, f, g, i, h1, _ => by cases h1
  | (k, j) :: r, h, f, g, i, h1, h2 => by
    simp only [List.map_cons, nodupN, Bool.and_eq_true, Bool.not_eq_true'] at h
    have mem : ∀ {x : Nat}, r.lookup x = some j → False := fun {x} hx => by
      have : j ∈ r.map (·.2) := by
        clear h h1 h2
        induction r with
        | nil => cases hx
        | cons p t ih =>
          rw [List.lookup_cons] at hx
          cases z : x == p.1 with
          | true => rw [z] at hx; cases hx; exact List.mem_cons_self
          | false => rw [z] at hx; exact List.mem_cons_of_mem _ (ih hx)
      have z : (r.map (·.2)).contains j = true := by simpa using this
      rw [z] at h; cases h.1
    rw [List.lookup_cons] at h1 h2
    cases z1 : f == k with
    | true =>
      rw [z1] at h1
      cases h1
      cases z2 : g == k with
      | true => rw [beq_iff_eq.mp z1, beq_iff_eq.mp z2]
      | false => rw [z2] at h2; exact (mem h2).elim
    | false =>
      rw [z1] at h1
      cases z2 : g == k with
      | true => rw [z2] at h2; cases h2; exact (mem h1).elim
      | false => rw [z2] at h2; exact slots_inj h.2 h1 h2
theorem map_inj {F : Nat → Str} : ∀ {l : List Nat}, nodupB (l.map F) = true → ∀ {f g : Nat}, f ∈ l → g ∈ l → F f = F g → f = g
  | [], _, f, g, h1, _, _ => by cases h1
  | k :: r, h, f, g, h1, h2, e => by
    simp only [List.map_cons, nodupB, Bool.and_eq_true, Bool.not_eq_true'] at h
    have no : ∀ {x : Nat}, x ∈ r → F x = F k → False := fun {x} hx q => by
      have z : (r.map F).contains (F k) = true := by
        have : F k ∈ r.map F := List.mem_map.mpr ⟨x, hx, q⟩
        simpa using this
      rw [z] at h; cases h.1
    rcases List.mem_cons.mp h1 with a | a
    · rcases List.mem_cons.mp h2 with b | b
      · rw [a, b]
      · subst a; exact (no b e.symm).elim
    · rcases List.mem_cons.mp h2 with b | b
      · subst b; exact (no a e).elim
      · exact map_inj h.2 a b e
def scopeB (N ps : List Str) (sc : Scope) : Bool :=
  (sc.kind == .function) && !sc.isCoroutine && !sc.isGenerator && nodupB N && (N.take ps.length == ps) &&
  (ps.all fun x => sc.names.lookup x == some .local || sc.names.lookup x == some .cell) && sc.names.all fun y => y.2 != .free
theorem scopeB_ok {N ps : List Str} {sc : Scope} (h : scopeB N ps sc = true) : FnScope N ps sc := by
  simp only [scopeB, Bool.and_eq_true, beq_iff_eq, Bool.not_eq_true', List.all_eq_true, Bool.or_eq_true, bne_iff_ne] at h
  obtain ⟨⟨⟨⟨⟨⟨h1, h2⟩, h3⟩, h4⟩, h5⟩, h6⟩, h7⟩ := h
  exact ⟨h1, h2, h3, nodupB_ok h4, h5, h6, h7⟩
/-- a row's own look: a def of the module under its name; a method __init__ that its class names -/
def rowB (S : Sg) (crs : List CRow) (r : Row) : Bool := scopeB r.N r.ps (defScope r.st) && (r.fd.np == r.ps.length) && (r.fd.n == r.N.length) && chkSs (S.at_ r.id) r.N (defScope r.st) r.fd.body (defBody r.st) && (!r.wr || !S.lam r.id) && (!r.wr || crs.all fun c => c.init != some r.id) && (!r.wr || r.at_.2.isSome) &&
  (match r.at_.2 with
    | none => (r.at_.1 == S.nm r.id) && crs.all fun c => c.init != some r.id
    | some m => crs.all fun c => c.init != some r.id || ((m == ("__init__" : Str)) && (r.at_.1 == c.name)))
def mrB (S : Sg) (r : MRow) : Bool := scopeB r.N [r.a] (defScope r.st) && metB S.nm S.blts (S.rp r.id) r.N (defScope r.st).names r.a r.hs r.bk (defBody r.st)
def crB (S : Sg) (c : CRow) : Bool := (S.nm c.id == c.name) && nodupN (c.slots.map (·.2)) && nodupB (c.flds.map S.nm)
def BindOk (r : Row) : Prop := ∀ (kV doc pm : Value) (an : Option Addr) (cdv ct : Value) (us : List Value), us.length = r.ps.length → bindArgs (PySem.W.fnOf r.name r.qual (defArgs r.st) (defBody r.st) (defScope r.st) .none kV doc pm an cdv ct) ⟨us, []⟩ = pure (r.ps.zip us)
def BindsAll : List Row → Prop
  | [] => True
  | r :: rs => BindOk r ∧ BindsAll rs
theorem BindsAll.mem : ∀ {rs : List Row}, BindsAll rs → ∀ {r : Row}, r ∈ rs → BindOk r
  | _ :: _, ⟨a, _⟩, _, .head _ => a
  | _ :: _, ⟨_, b⟩, _, .tail _ h => BindsAll.mem b h
/-! ### constants of the module -/
mutual
def relP (K : PySem.W.Frag) : PV → Value → Bool
  | .non, .none => true
  | .bl b, .bool c => b == c
  | .int i, .int j _ => i == j
  | .str x, .str y _ => x == y
  | .tup ds, .ref a => match K.lookup a with
    | some o => (match o.cls, o.data with
      | .type t, .seq its _ => (t == "tuple") && decide (its.size ≤ sizeLine) && relPs K ds its.toList
      | _, _ => false)
    | none => false
  | _, _ => false
def relPs (K : PySem.W.Frag) : List PV → List Value → Bool
  | [], [] => true
  | d :: ds, u :: us => relP K d u && relPs K ds us
  | _, _ => false
end
mutual
theorem relP_ok {G : Gc} : ∀ (d : PV) (u : Value), relP G.K d u = true → ∃ v, RelV v u ∧ ∀ φ H, RepV G φ H d v
  | .non, u, h => by cases u <;> simp [relP] at h; exact ⟨.non, rfl, fun _ _ => .non⟩
  | .bl b, u, h => by cases u <;> simp [relP] at h; subst h; exact ⟨.bl b, rfl, fun _ _ => .bl b⟩
  | .int b, u, h => by cases u <;> simp [relP] at h; subst h; exact ⟨.int b, ⟨_, rfl⟩, fun _ _ => .int b⟩
  | .str b, u, h => by cases u <;> simp [relP] at h; subst h; exact ⟨.str b, ⟨_, rfl⟩, fun _ _ => .str b⟩
  | .fz _, u, h => by simp [relP] at h
  | .scr _, u, h => by simp [relP] at h
  | .ref _, u, h => by simp [relP] at h
  | .ty _, u, h => by simp [relP] at h
  | .gl _, u, h => by simp [relP] at h
  | .tup ds, u, h => by
    cases u with
    | ref a =>
      simp only [relP] at h
      split at h
      · rename_i o ho
        split at h
        · rename_i t its n e1 e2
          simp only [Bool.and_eq_true, beq_iff_eq, decide_eq_true_eq] at h
          obtain ⟨⟨rfl, h2⟩, h3⟩ := h
          obtain ⟨vs, r1, r2⟩ := relPs_ok ds its.toList h3
          exact ⟨.ref a, rfl, fun φ H => .tup (.inr ⟨o, its, n, ho, e1, e2, h2, r1⟩) (r2 φ H)⟩
        · cases h
      · cases h
    | _ => simp [relP] at h
theorem relPs_ok {G : Gc} : ∀ (ds : List PV) (us : List Value), relPs G.K ds us = true → ∃ vs, Vals vs us ∧ ∀ φ H, RepVs G φ H ds vs
  | [], [], _ => ⟨[], .nil, fun _ _ => .nil⟩
  | [], _ :: _, h => by simp [relPs] at h
  | _ :: _, [], h => by simp [relPs] at h
  | d :: ds, u :: us, h => by
    simp only [relPs, Bool.and_eq_true] at h
    obtain ⟨v, a1, a2⟩ := relP_ok d u h.1
    obtain ⟨vs, b1, b2⟩ := relPs_ok ds us h.2
    exact ⟨v :: vs, .cons a1 b1, fun φ H => .cons (a2 φ H) (b2 φ H)⟩
end
def cstB (K : PySem.W.Frag) (e : Str × PV) : Bool := match PySem.W.nsIn K mainGlobals e.1 with
  | some (some u) => relP K e.2 u
  | _ => false
/-! ### the head: one look -/
def faOf (t : Tx) : List He.Fa := (t.rows.filter fun r => r.at_.2.isNone).map (fun r => He.Fa.glo r.at_.1) ++ t.crs.map (fun c => He.Fa.glo c.name) ++ (t.crs.filter fun c => c.init.isSome).map (fun c => He.Fa.mkr c.name) ++ t.blts.map He.Fa.free ++
  t.errs.map (fun e => He.Fa.glo (t.nm e.1)) ++ t.mets.map fun m => He.Fa.glo (t.nm m.id)
def ddOf (r : Row) : He.DefD := ⟨r.at_, r.name, r.qual, defArgs r.st, defBody r.st, defScope r.st, [], []⟩
def dmOf (t : Tx) (m : MRow) : He.DefD := ⟨(t.nm m.id, none), t.nm m.id, t.nm m.id, defArgs m.st, defBody m.st, defScope m.st, [], []⟩
def daOf (r : Row) : He5.DefA := ⟨fun K => He5.wf K (He.ga K r.at_.1) (if r.pr then "property" else "classmethod") (r.at_.2.getD ""), r.name, r.qual, defArgs r.st, defBody r.st, defScope r.st, [], []⟩
def fnOfR (t : Tx) : List He.DefD := (t.rows.filter fun r => !r.wr).map ddOf ++ t.mets.map (dmOf t)
def fwOf (t : Tx) : List He5.DefA := (t.rows.filter fun r => r.wr).map daOf
/-- where a row's def stands -/
def adOf (K : PySem.W.Frag) (r : Row) : Addr := if r.wr then (daOf r).at_ K else He.fAd K r.at_
/-- the defs that make lambdas -/
def lmOf (t : Tx) : List Row := t.rows.filter fun r => t.lams.contains r.id
def tfOf (t : Tx) : List He.Defn := (lmOf t).map (·.at_)
/-- a class in the written part -/
def slB (K : PySem.W.Frag) (D : Addr) (f : Str) (i : Nat) : Bool :=
  He.eqO (PySem.W.findIn K (.ref D) f) (some (some (.ref (He.ma K D f)))) && He.eqO (PySem.W.specialIn K (.ref (He.ma K D f)) "__get__") (some (some (.builtin "member_descriptor.__get__"))) &&
  decide (PySem.W.takesIn K (.ref (He.ma K D f)) = some true) && decide (PySem.W.typeIn K (.ref (He.ma K D f)) = some (.type "member_descriptor")) && decide (PySem.W.slotIn K (He.ma K D f) D = some i) && decide (i < 1000)
def clB (nm : Nat → Str) (K : PySem.W.Frag) (c : CRow) : Bool :=
  if c.isSl then
    PySem.W.plainGet K (He.ga K c.name) Str.empty && PySem.W.isClsIn K (He.ga K c.name) && PySem.W.plainOver K (He.ga K c.name) && He.eqO (PySem.W.findIn K (.ref (He.ga K c.name)) "__setattr__") (some (some (.builtin "object.__setattr__"))) &&
    c.slots.all fun p => slB K (He.ga K c.name) (nm p.1) p.2
  else (He.Fa.cls c.name).ok K && c.flds.all fun f => (He.Fa.noat c.name (nm f)).ok K
def errB (nm : Nat → Str) (K : PySem.W.Frag) (e : Nat × Bool) : Bool := !e.2 || (PySem.W.keepIn K (.ref (He.ga K (nm e.1))) && PySem.W.excIn K (He.ga K (nm e.1)) [.type "ValueError", .type "Exception", .type "BaseException", .type "object"] "ValueError.__new__" &&
  decide (PySem.W.subIn K (.ref (He.ga K (nm e.1))) (.type "BaseException") = some true) && decide (PySem.W.typeIn K (.ref (He.ga K (nm e.1))) = some (.type "type")))
def exmB (nm : Nat → Str) (K : PySem.W.Frag) (p : Nat × Nat × Bool) : Bool := decide (PySem.W.exmOne K (.ref (He.ga K (nm p.1))) (.ref (He.ga K (nm p.2.1))) = some p.2.2)
/-- the classes' methods, __eq__, classmethods, what isinstance asks -/
def rowAt (t : Tx) (c f : Nat) (m : Str) (wr : Bool) : Bool := match t.crs.find? (fun r => r.id == c), t.rows.find? (fun r => r.id == f) with
  | some cr, some r => (r.at_ == (cr.name, some m)) && (r.wr == wr) && !r.pr && !t.rps.contains f
  | _, _ => false
def rowPr (t : Tx) (c f : Nat) (m : Str) : Bool := match t.crs.find? (fun r => r.id == c), t.rows.find? (fun r => r.id == f) with
  | some cr, some r => (r.at_ == (cr.name, some m)) && r.wr && r.pr && !t.rps.contains f
  | _, _ => false
def noFld (t : Tx) (c : Nat) (m : Str) : Bool := match t.crs.find? (fun r => r.id == c) with
  | some cr => cr.flds.all fun f => t.nm f != m
  | none => false
def mthB (t : Tx) : Bool := (t.mths.all fun p => rowAt t p.1 p.2.2 (t.nm p.2.1) false && noFld t p.1 (t.nm p.2.1)) && (t.eqms.all fun p => rowAt t p.1 p.2 "__eq__" false) && (t.cmts.all fun p => rowAt t p.1 p.2.2 (t.nm p.2.1) true) && (t.prps.all fun p => rowPr t p.1 p.2.2 (t.nm p.2.1)) &&
  t.subs.all fun p => (t.crs.find? (fun r => r.id == p.1)).isSome && (t.crs.find? (fun r => r.id == p.2.1)).isSome
def isiB (K : PySem.W.Frag) (D : Addr) : Bool := He.eqO (PySem.W.findIn K (.ref D) "__class__") (some (some (.builtin "object.__class__"))) && He.eqO (PySem.W.specialIn K (.builtin "object.__class__") "__get__") (some (some (.builtin "getset_descriptor.__get__"))) &&
  decide (PySem.W.takesIn K (.builtin "object.__class__") = some true) && decide (PySem.W.mroIn K D (.type "object") = some true)
def prpB (K : PySem.W.Frag) (D : Addr) (f : Str) : Bool := He.eqO (PySem.W.findIn K (.ref D) f) (some (some (.ref (He.ma K D f)))) && He.eqO (PySem.W.specialIn K (.ref (He.ma K D f)) "__get__") (some (some (.builtin "property.__get__"))) &&
  decide (PySem.W.takesIn K (.ref (He.ma K D f)) = some true) && (match PySem.W.recIn K (He.ma K D f) "property" with
    | some (.ref _ :: _) => true
    | _ => false)
theorem prpB_ok {K : PySem.W.Frag} {D : Addr} {f : Str} (h : prpB K D f = true) : PropOf K D f (He.ma K D f) (He5.wf K D "property" f) := by
  simp only [prpB, Bool.and_eq_true, decide_eq_true_eq] at h
  refine ⟨He.eqO_ok h.1.1.1, He.eqO_ok h.1.1.2, h.1.2, ?_⟩
  have h4 := h.2
  unfold He5.wf
  split at h4
  · rename_i g r e
    exact ⟨r, by rw [e]⟩
  · cases h4
def mtsB (t : Tx) (K : PySem.W.Frag) : Bool := (t.mths.all fun p => (He.Fa.cls (t.nm p.1)).ok K && (He.Fa.meth (t.nm p.1) (t.nm p.2.1)).ok K && PySem.W.fnIn K (He.ma K (He.ga K (t.nm p.1)) (t.nm p.2.1))) &&
  (t.prps.all fun p => (He.Fa.cls (t.nm p.1)).ok K && prpB K (He.ga K (t.nm p.1)) (t.nm p.2.1)) &&
  (t.eqms.all fun p => (He.Fa.meth (t.nm p.1) "__eq__").ok K && He.eqO (PySem.W.findIn K (.ref (He.ga K (t.nm p.1))) "__ne__") (some (some (.builtin "object.__ne__"))) && decide (PySem.W.subIn K (.ref (He.ga K (t.nm p.1))) (.type "object") = some true) && ["NoneType", "bool", "int", "str", "tuple", "list", "dict"].all fun k => PySem.W.notFirst K (He.ga K (t.nm p.1)) (.type k)) &&
  (t.cmts.all fun p => PySem.W.readsIn K (He.ga K (t.nm p.1)) (.type "type") && He5.wrapB K (He.ga K (t.nm p.1)) "classmethod" "classmethod.__get__" (t.nm p.2.1) && PySem.W.fnIn K (He5.wf K (He.ga K (t.nm p.1)) "classmethod" (t.nm p.2.1))) &&
  (t.subs.all fun p => isiB K (He.ga K (t.nm p.1)) && ((ctOf t).isSl p.1 || (He.Fa.cls (t.nm p.1)).ok K) && decide (PySem.W.kitOne K (.ref (He.ga K (t.nm p.1))) (.ref (He.ga K (t.nm p.2.1))) = some p.2.2) &&
    (p.1 != p.2.1 || ["NoneType", "bool", "int", "str", "tuple", "list", "dict"].all fun k => decide (PySem.W.kitOne K (.type k) (.ref (He.ga K (t.nm p.1))) = some false)))
/-- an own error that keeps a value -/
def rafB (t : Tx) (K : PySem.W.Frag) (p : Nat × Nat × String) : Bool := match baseOf p.2.2 with
  | some (n, i, bm) => errFB K (He.ga K (t.nm p.1)) (t.nm p.2.1) p.2.2 n i bm t.file
  | none => false
def rfB (t : Tx) : Bool := (t.rafs.all fun p => t.errs.any fun e => e.1 == p.1) && t.blts.contains "super"
def FileOk (t : Tx) (P : Program) : Prop := t.rafs = [] ∨ (rfB t = true ∧ ((P.main.file : Str) == t.file) = true ∧ (P.main.scope.names.lookup ("super" : Str)).isSome = false)
def exOf (t : Tx) (K : PySem.W.Frag) : Bool := t.rafs.all (rafB t K) && mtsB t K && t.cst.all (cstB K) && t.crs.all (clB t.nm K) && t.errs.all (errB t.nm K) && t.exms.all (exmB t.nm K) && nodupN ((lmOf t).map fun r => (He.cT K r.at_).2)
abbrev hookZ (n : Nat) (t : Tx) : PySem.W.Hook := HeZ.hookY n (faOf t) (fnOfR t) (tfOf t) (exOf t) (fwOf t)
/-- the errors that are asked about are known ones -/
def exB (t : Tx) : Bool := t.exms.all fun p => (t.errs.any fun e => e.1 == p.1) && (t.errs.any fun e => e.1 == p.2.1)
def mtB (t : Tx) : Bool := t.mets.all fun m => mrB (sgOf t) m && m.hs.all fun h => t.errs.any fun e => e.1 == h.1
section
variable {t : Tx} {K : PySem.W.Frag} {h : Heap} {mg : Str → Option Value}
theorem lookup_mem {cst : List (Str × PV)} {x : Str} {d : PV} (h : cst.lookup x = some d) : (x, d) ∈ cst := by
  induction cst with
  | nil => cases h
  | cons p r ih =>
    obtain ⟨y, e⟩ := p
    rw [List.lookup_cons] at h
    cases z : x == y with
    | true =>
      rw [z] at h
      cases h
      rw [beq_iff_eq.mp z]
      exact List.mem_cons_self
    | false => rw [z] at h; exact List.mem_cons_of_mem _ (ih h)
theorem lookup_memN {l : List (Nat × Nat)} {x d : Nat} (h : l.lookup x = some d) : (x, d) ∈ l := by
  induction l with
  | nil => cases h
  | cons p r ih =>
    obtain ⟨y, e⟩ := p
    rw [List.lookup_cons] at h
    cases z : x == y with
    | true =>
      rw [z] at h
      cases h
      rw [beq_iff_eq.mp z]
      exact List.mem_cons_self
    | false => rw [z] at h; exact List.mem_cons_of_mem _ (ih h)
def gcOf (t : Tx) (K : PySem.W.Frag) (mg : Str → Option Value) (P : Program) (w : World) : Gc := ⟨K, mg, t.nm, P, w, (ctOf t).isSl, (ctOf t).slot, (ctOf t).fld, (lmOf t).map fun r => ((He.cT K r.at_).2, lamQ r.qual)⟩
def csOf (t : Tx) (K : PySem.W.Frag) : List (Addr × Addr) := (tfOf t).map (He.cT K)
theorem fa_row {r : Row} (h : r ∈ t.rows) (e : r.at_.2 = none) : He.Fa.glo r.at_.1 ∈ faOf t :=
  List.mem_append_left _ (List.mem_append_left _ (List.mem_append_left _ (List.mem_append_left _ (List.mem_append_left _ (List.mem_map.mpr ⟨r, List.mem_filter.mpr ⟨h, by rw [e]; rfl⟩, rfl⟩)))))
theorem fa_cls {c : CRow} (h : c ∈ t.crs) : He.Fa.glo c.name ∈ faOf t :=
  List.mem_append_left _ (List.mem_append_left _ (List.mem_append_left _ (List.mem_append_left _ (List.mem_append_right _ (List.mem_map.mpr ⟨c, h, rfl⟩)))))
theorem fa_mkr {c : CRow} (h : c ∈ t.crs) (e : c.init.isSome = true) : He.Fa.mkr c.name ∈ faOf t :=
  List.mem_append_left _ (List.mem_append_left _ (List.mem_append_left _ (List.mem_append_right _ (List.mem_map.mpr ⟨c, List.mem_filter.mpr ⟨h, e⟩, rfl⟩))))
theorem fa_free {x : Str} (h : x ∈ t.blts) : He.Fa.free x ∈ faOf t :=
  List.mem_append_left _ (List.mem_append_left _ (List.mem_append_right _ (List.mem_map.mpr ⟨x, h, rfl⟩)))
theorem fa_err {e : Nat × Bool} (h : e ∈ t.errs) : He.Fa.glo (t.nm e.1) ∈ faOf t :=
  List.mem_append_left _ (List.mem_append_right _ (List.mem_map.mpr ⟨e, h, rfl⟩))
theorem fa_met {m : MRow} (h : m ∈ t.mets) : He.Fa.glo (t.nm m.id) ∈ faOf t := List.mem_append_right _ (List.mem_map.mpr ⟨m, h, rfl⟩)
def BindMk (t : Tx) (m : MRow) : Prop := ∀ (kV doc pm : Value) (an : Option Addr) (cdv ct : Value) (us : List Value), us.length = 1 → bindArgs (PySem.W.fnOf (t.nm m.id) (t.nm m.id) (defArgs m.st) (defBody m.st) (defScope m.st) .none kV doc pm an cdv ct) ⟨us, []⟩ = pure ([m.a].zip us)
def BindsM (t : Tx) : List MRow → Prop
  | [] => True
  | r :: rs => BindMk t r ∧ BindsM t rs
theorem BindsM.mem : ∀ {rs : List MRow}, BindsM t rs → ∀ {r : MRow}, r ∈ rs → BindMk t r
  | _ :: _, ⟨a, _⟩, _, .head _ => a
  | _ :: _, ⟨_, b⟩, _, .tail _ h => BindsM.mem b h
theorem nodupN_inj {F : Row → Addr} : ∀ {l : List Row}, nodupN (l.map F) = true → ∀ {r q : Row}, r ∈ l → q ∈ l → F r = F q → r = q
  | [], _, r, q, h1, _, _ => by cases h1
  | k :: l, h, r, q, h1, h2, e => by
    simp only [List.map_cons, nodupN, Bool.and_eq_true, Bool.not_eq_true'] at h
    have no : ∀ {x : Row}, x ∈ l → F x = F k → False := fun {x} hx z => by
      have z : (l.map F).contains (F k) = true := by
        have : F k ∈ l.map F := List.mem_map.mpr ⟨x, hx, z⟩
        simpa using this
      rw [z] at h; cases h.1
    rcases List.mem_cons.mp h1 with a | a
    · rcases List.mem_cons.mp h2 with b | b
      · rw [a, b]
      · subst a; exact (no b e.symm).elim
    · rcases List.mem_cons.mp h2 with b | b
      · subst b; exact (no a e).elim
      · exact nodupN_inj h.2 a b e
theorem cread_ofR {K : PySem.W.Frag} {C : Addr} (h : PySem.W.readsIn K C (.type "type") = true) : ClX.CRead K C (.type "type") := by
  refine ⟨h, ?_⟩
  unfold PySem.W.readsIn at h
  simp only [Bool.and_eq_true] at h
  unfold PySem.W.specialIn
  rw [beq_iff_eq.mp h.1.1.1.2, Option.bind_some]
  exact beq_iff_eq.mp h.1.1.2
theorem rowAt_ok {t : Tx} {c f : Nat} {m : Str} {wr : Bool} (h : rowAt t c f m wr = true) : ∃ cr r, t.crs.find? (fun r => r.id == c) = some cr ∧ t.rows.find? (fun r => r.id == f) = some r ∧ r.at_ = (cr.name, some m) ∧ r.wr = wr ∧ r.pr = false ∧ t.rps.contains f = false := by
  unfold rowAt at h
  split at h
  · rename_i cr r h1 h2
    simp only [Bool.and_eq_true, beq_iff_eq, Bool.not_eq_true'] at h
    exact ⟨cr, r, h1, h2, h.1.1.1, h.1.1.2, h.1.2, h.2⟩
  · cases h
theorem rowPr_ok {t : Tx} {c f : Nat} {m : Str} (h : rowPr t c f m = true) : ∃ cr r, t.crs.find? (fun r => r.id == c) = some cr ∧ t.rows.find? (fun r => r.id == f) = some r ∧ r.at_ = (cr.name, some m) ∧ r.wr = true ∧ r.pr = true ∧ t.rps.contains f = false := by
  unfold rowPr at h
  split at h
  · rename_i cr r h1 h2
    simp only [Bool.and_eq_true, beq_iff_eq, Bool.not_eq_true'] at h
    exact ⟨cr, r, h1, h2, h.1.1.1, h.1.1.2, h.1.2, h.2⟩
  · cases h
theorem txt_of (P : Program) (w : World) (X : K.In h) (Gn : h.Ns mainGlobals mg) (cY : HeZ.SaysY (faOf t) (fnOfR t) (tfOf t) (exOf t) (fwOf t) w h K) (smt : mthB t = true) (st : t.rows.all (rowB (sgOf t) t.crs) = true) (sc : t.crs.all (crB (sgOf t)) = true) (sx : exB t = true) (sm : mtB t = true) (b : BindsAll t.rows) (bm : BindsM t t.mets) (fo : FileOk t P) :
    TxtOk (sgOf t) (gcOf t K mg P w) (csOf t K) (ctOf t) P w K mg := by
  have c := cY.x
  have c1 : He.SaysD (faOf t) (fnOfR t) K := c.t.d
  have c23 := c.more
  simp only [exOf, Bool.and_eq_true] at c23
  obtain ⟨⟨⟨⟨⟨⟨cr, c0⟩, c2⟩, c3⟩, c4⟩, c5⟩, c6⟩ := c23
  simp only [mtsB, Bool.and_eq_true] at c0
  obtain ⟨⟨⟨⟨c01, c05⟩, c02⟩, c03⟩, c04⟩ := c0
  simp only [mthB, Bool.and_eq_true] at smt
  obtain ⟨⟨⟨⟨s01, s02⟩, s03⟩, s05⟩, s04⟩ := smt
  have fact : ∀ f, f ∈ faOf t → f.ok K = true := fun f hf => by
    obtain ⟨i, hi, e⟩ := List.mem_iff_getElem.mp hf
    exact c1.fact i (by rw [List.getElem?_eq_getElem hi, e])
  -- a class, by its number
  have cls : ∀ (c : Nat) (cr : CRow), t.crs.find? (fun r => r.id == c) = some cr → cr ∈ t.crs ∧ (sgOf t).nm c = cr.name ∧ mg cr.name = some (.ref (He.ga K cr.name)) ∧ clB t.nm K cr = true ∧ crB (sgOf t) cr = true := fun c cr hc => by
    have hm := List.mem_of_find?_eq_some hc
    have hid := List.find?_some hc
    have hb := List.all_eq_true.mp sc cr hm
    have hb0 := hb
    simp only [crB, Bool.and_eq_true, beq_iff_eq] at hb0
    refine ⟨hm, ?_, He.glo_ok X Gn (fact (.glo cr.name) (fa_cls hm)), List.all_eq_true.mp c3 cr hm, hb⟩
    rw [← beq_iff_eq.mp hid]; exact hb0.1.1
  have dEq : ∀ {c : Nat} {cr : CRow} {D : Addr}, t.crs.find? (fun r => r.id == c) = some cr → mg ((sgOf t).nm c) = some (.ref D) → D = He.ga K cr.name := fun {c cr D} hc hD => by
    obtain ⟨_, e1, e2, _⟩ := cls c cr hc
    rw [e1, e2] at hD
    cases hD; rfl
  -- an error, by its number
  have err : ∀ (c : Nat), (t.errs.any fun e => e.1 == c) = true → mg (t.nm c) = some (.ref (He.ga K (t.nm c))) := fun c hc => by
    obtain ⟨e, he, z⟩ := List.any_eq_true.mp hc
    rw [← beq_iff_eq.mp z]
    exact He.glo_ok X Gn (fact _ (fa_err he))
  refine ⟨rfl, rfl, rfl, rfl, rfl, rfl, rfl, rfl, fun f ps fd hf => ?_, fun c D hc hD => ?_, fun c f i D hc hD => ?_, fun c f D hs hc hD => ?_, fun c f g i h1 h2 => ?_, fun c f g h1 h2 e => ?_, fun x d hx => ?_, fun x hx => ?_, fun c hc => ?_, fun c d v hv => ?_, fun m hm => ?_, fun c f hc => ?_, fun c hc => ?_, fun f hf => ?_, fun c m f D a hc hD hm => ?_, fun d c b hb => ?_, fun c k hc hk => ?_⟩
  · have hf0 : (t.rows.find? (fun r => r.id == f)).map (fun r => (r.ps, r.fd)) = some (ps, fd) := hf
    obtain ⟨r, hr, e⟩ := omap hf0
    cases e
    have hm := List.mem_of_find?_eq_some hr
    have hid0 := List.find?_some hr
    have hid : r.id = f := beq_iff_eq.mp hid0
    have hb := List.all_eq_true.mp st r hm
    simp only [rowB, Bool.and_eq_true, beq_iff_eq] at hb
    obtain ⟨⟨⟨⟨⟨⟨⟨b1, b2⟩, b3⟩, b4⟩, bw1⟩, bw2⟩, bw3⟩, b5⟩ := hb
    rw [hid] at b4
    refine ⟨r.N, r.st, ⟨?_, scopeB_ok b1, b2, b3, b4⟩⟩
    obtain ⟨fdt, F⟩ : ∃ fdt, FunD K r.name r.qual (defArgs r.st) (defBody r.st) (defScope r.st) [] [] (adOf K r) fdt := by
      cases hw : r.wr with
      | false =>
        obtain ⟨fdt, F0⟩ := c1.defs (d := ddOf r) (List.mem_append_left _ (List.mem_map.mpr ⟨r, List.mem_filter.mpr ⟨hm, by rw [hw]; rfl⟩, rfl⟩))
        exact ⟨fdt, by unfold adOf; rw [hw]; exact F0⟩
      | true =>
        obtain ⟨i, hi, e⟩ := List.mem_iff_getElem.mp (show daOf r ∈ fwOf t from List.mem_map.mpr ⟨r, List.mem_filter.mpr ⟨hm, hw⟩, rfl⟩)
        obtain ⟨fdt, F0⟩ := cY.a.def_ i (d := daOf r) (by rw [List.getElem?_eq_getElem hi, e])
        exact ⟨fdt, by unfold adOf; rw [hw]; exact F0⟩
    have same : ∀ r' : Row, t.rows.find? (fun r => r.id == f) = some r' → r' = r := fun r' h' => by rw [hr] at h'; exact (Option.some.inj h').symm
    have mthAt : MthAt (sgOf t) (ctOf t) K mg f (adOf K r) := by
      refine ⟨fun c m hc => ?_, fun c hc => ?_, fun c m hc => ?_, fun c m hc => ?_⟩
      · have hc0 : (t.mths.find? (fun p => p.1 == c && p.2.1 == m)).map (fun p => p.2.2) = some f := hc
        obtain ⟨p, hp, e⟩ := omap hc0
        have hpm := List.mem_of_find?_eq_some hp
        have hq := List.find?_some hp
        simp only [Bool.and_eq_true, beq_iff_eq] at hq
        obtain ⟨rfl, rfl⟩ := hq
        have k1 := List.all_eq_true.mp s01 p hpm
        have k2 := List.all_eq_true.mp c01 p hpm
        simp only [Bool.and_eq_true] at k1 k2
        obtain ⟨cr, r', h1, h2, h3, h4, hpr, h5⟩ := rowAt_ok k1.1
        rw [e] at h2
        have := same r' h2
        subst this
        obtain ⟨m1, m2, m3, m4, m5⟩ := cls p.1 cr h1
        have m2 : t.nm p.1 = cr.name := m2
        have ea : adOf K r' = He.ma K (He.ga K cr.name) (t.nm p.2.1) := by
          unfold adOf He.fAd
          rw [h4, h3]; rfl
        rw [m2] at k2
        refine ⟨He.ga K cr.name, by show mg (t.nm p.1) = _; rw [m2]; exact m3, He.cls_ok k2.1.1, ?_, fun g hg => ?_⟩
        · rw [ea]; exact He.meth_ok k2.1.2
        · have kf := k1.2
          unfold noFld at kf
          rw [h1] at kf
          have hg0 : (match t.crs.find? (fun r => r.id == p.1) with | some r => r.flds.contains g | none => false) = true := hg
          rw [h1] at hg0
          have hg1 : cr.flds.contains g = true := hg0
          have := List.all_eq_true.mp kf g (by simpa using hg1)
          show t.nm g ≠ t.nm p.2.1
          simpa using this
      · have hc0 : (t.eqms.find? (fun p => p.1 == c)).map (fun p => p.2) = some f := hc
        obtain ⟨p, hp, e⟩ := omap hc0
        have hpm := List.mem_of_find?_eq_some hp
        have hq := List.find?_some hp
        obtain rfl : p.1 = c := beq_iff_eq.mp hq
        have k1 := List.all_eq_true.mp s02 p hpm
        have k2 := List.all_eq_true.mp c02 p hpm
        simp only [Bool.and_eq_true] at k2
        obtain ⟨cr, r', h1, h2, h3, h4, hpr, h5⟩ := rowAt_ok k1
        rw [e] at h2
        have := same r' h2
        subst this
        obtain ⟨m1, m2, m3, m4, m5⟩ := cls p.1 cr h1
        have m2 : t.nm p.1 = cr.name := m2
        have ea : adOf K r' = He.ma K (He.ga K cr.name) "__eq__" := by
          unfold adOf He.fAd
          rw [h4, h3]; rfl
        rw [m2] at k2
        have mt := He.meth_ok k2.1.1.1
        rw [ea]
        exact ⟨He.ga K cr.name, by show mg (t.nm p.1) = _; rw [m2]; exact m3, mt.at_, mt.fn, He.eqO_ok k2.1.1.2, of_decide_eq_true k2.1.2, fun k hk => List.all_eq_true.mp k2.2 k hk⟩
      · have hc0 : (t.prps.find? (fun p => p.1 == c && p.2.1 == m)).map (fun p => p.2.2) = some f := hc
        obtain ⟨p, hp, e⟩ := omap hc0
        have hpm := List.mem_of_find?_eq_some hp
        have hq := List.find?_some hp
        simp only [Bool.and_eq_true, beq_iff_eq] at hq
        obtain ⟨rfl, rfl⟩ := hq
        have k1 := List.all_eq_true.mp s05 p hpm
        have k2 := List.all_eq_true.mp c05 p hpm
        simp only [Bool.and_eq_true] at k2
        obtain ⟨cr, r', h1, h2, h3, h4, hpr, h5⟩ := rowPr_ok k1
        rw [e] at h2
        have := same r' h2
        subst this
        obtain ⟨m1, m2, m3, m4, m5⟩ := cls p.1 cr h1
        have m2 : t.nm p.1 = cr.name := m2
        have ea : adOf K r' = He5.wf K (He.ga K cr.name) "property" (t.nm p.2.1) := by
          unfold adOf daOf
          rw [h4, h3, hpr]; rfl
        rw [m2] at k2
        rw [ea]
        exact ⟨He.ga K cr.name, _, by show mg (t.nm p.1) = _; rw [m2]; exact m3, He.cls_ok k2.1, prpB_ok k2.2⟩
      · have hc0 : (t.cmts.find? (fun p => p.1 == c && p.2.1 == m)).map (fun p => p.2.2) = some f := hc
        obtain ⟨p, hp, e⟩ := omap hc0
        have hpm := List.mem_of_find?_eq_some hp
        have hq := List.find?_some hp
        simp only [Bool.and_eq_true, beq_iff_eq] at hq
        obtain ⟨rfl, rfl⟩ := hq
        have k1 := List.all_eq_true.mp s03 p hpm
        have k2 := List.all_eq_true.mp c03 p hpm
        simp only [Bool.and_eq_true] at k2
        obtain ⟨cr, r', h1, h2, h3, h4, hpr, h5⟩ := rowAt_ok k1
        rw [e] at h2
        have := same r' h2
        subst this
        obtain ⟨m1, m2, m3, m4, m5⟩ := cls p.1 cr h1
        have m2 : t.nm p.1 = cr.name := m2
        have ea : adOf K r' = He5.wf K (He.ga K cr.name) "classmethod" (t.nm p.2.1) := by
          unfold adOf daOf
          rw [h4, h3, hpr]; rfl
        rw [m2] at k2
        rw [ea]
        exact ⟨He.ga K cr.name, .type "type", _, by show mg (t.nm p.1) = _; rw [m2]; exact m3, cread_ofR k2.1.1, He5.cmet_of k2.1.2 k2.2⟩
    refine ⟨_, fdt, r.name, r.qual, fun hg => ?_, fun c hc => ?_, mthAt, F, FunD.bindsA F (b.mem hm), fun hl => ?_⟩
    · have hg0 : (match t.rows.find? (fun r => r.id == f) with | some r => r.at_.2.isNone | none => false) = true := hg
      rw [hr] at hg0
      have hg0 : r.at_.2.isNone = true := hg0
      have hn : r.at_.2 = none := by
        cases z : r.at_.2 with
        | none => rfl
        | some m => rw [z] at hg0; cases hg0
      rw [hn] at b5
      simp only [Bool.and_eq_true, beq_iff_eq] at b5
      have g := He.glo_ok X Gn (fact (.glo r.at_.1) (fa_row hm hn))
      have hw : r.wr = false := by
        cases z : r.wr with
        | false => rfl
        | true => rw [z, hn] at bw3; cases bw3
      have e0 : adOf K r = He.ga K r.at_.1 := by unfold adOf He.fAd; rw [hw, hn]; rfl
      show mg _ = some (.ref (adOf K r))
      rw [e0, ← hid, ← b5.1]
      exact g
    · have hc0 : (match t.crs.find? (fun r => r.id == c) with | some r => r.init | none => none) = some f := hc
      cases hcr : t.crs.find? (fun r => r.id == c) with
      | none => rw [hcr] at hc0; cases hc0
      | some cr =>
        rw [hcr] at hc0
        obtain ⟨m1, m2, m3, m4, m5⟩ := cls c cr hcr
        have hin : cr.init = some r.id := by rw [hid]; exact hc0
        cases z : r.at_.2 with
        | none =>
          rw [z] at b5
          simp only [Bool.and_eq_true] at b5
          have := List.all_eq_true.mp b5.2 cr m1
          rw [hin] at this
          simp at this
        | some m =>
          rw [z] at b5
          simp only at b5
          have := List.all_eq_true.mp b5 cr m1
          rw [hin] at this
          simp only [bne_self_eq_false, Bool.false_or, Bool.and_eq_true, beq_iff_eq] at this
          have mk := He.mkr_ok (fact (.mkr cr.name) (fa_mkr m1 (by rw [hin]; rfl)))
          have hw : r.wr = false := by
            cases zw : r.wr with
            | false => rfl
            | true =>
              rw [zw, Bool.not_true, Bool.false_or] at bw2
              have := List.all_eq_true.mp bw2 cr m1
              rw [hin] at this
              simp at this
          have e0 : adOf K r = He.ma K (He.ga K cr.name) "__init__" := by
            unfold adOf He.fAd
            rw [hw, z, this.2, this.1]; rfl
          refine ⟨He.ga K cr.name, by rw [m2]; exact m3, ?_⟩
          show Mk K _ (adOf K r)
          rw [e0]
          exact mk
    · have hmem : r ∈ lmOf t := List.mem_filter.mpr ⟨hm, by rw [hid]; exact hl⟩
      have hw : r.wr = false := by
        cases zw : r.wr with
        | false => rfl
        | true =>
          rw [zw] at bw1
          have hl' : (sgOf t).lam r.id = true := by rw [hid]; exact hl
          rw [hl'] at bw1
          cases bw1
      have ead : adOf K r = He.fAd K r.at_ := by unfold adOf; rw [hw]; rfl
      rw [ead] at F
      obtain ⟨oc, od, dV, kV, doc, pm, an, cdv, ct, osl, e1, lk, hcd, _, _⟩ := F.ex
      have hc : ∃ cc, cdv = .ref cc := by
        cases cdv <;> first | exact ⟨_, rfl⟩ | (simp [PySem.W.codeIn] at hcd)
      obtain ⟨cc, rfl⟩ := hc
      have ec : fdt.code = .ref cc := by subst e1; rfl
      have eo : He.codeOf K r.at_ = cc := He.codeOf_eq lk ec
      have et : (He.cT K r.at_).1 = cc := eo
      refine ⟨cc, (He.cT K r.at_).2, ec, List.mem_map.mpr ⟨r.at_, List.mem_map.mpr ⟨r, hmem, rfl⟩, by rw [← et]⟩, List.mem_map.mpr ⟨r, hmem, rfl⟩, fun p hp e => ?_⟩
      obtain ⟨q, hq, rfl⟩ := List.mem_map.mp hp
      rw [nodupN_inj c6 hq hmem e]
  · have hc0 : (match t.crs.find? (fun r => r.id == c) with | some r => r.isSl | none => false) = true := hc
    cases hcr : t.crs.find? (fun r => r.id == c) with
    | none => rw [hcr] at hc0; cases hc0
    | some cr =>
      rw [hcr] at hc0
      obtain ⟨m1, m2, m3, m4, m5⟩ := cls c cr hcr
      have hc1 : cr.isSl = true := hc0
      unfold clB at m4
      rw [if_pos hc1] at m4
      simp only [Bool.and_eq_true] at m4
      rw [dEq hcr hD]
      exact ⟨m4.1.1.1.1, m4.1.1.1.2, m4.1.1.2, He.eqO_ok m4.1.2⟩
  · have hc0 : (match t.crs.find? (fun r => r.id == c) with | some r => if r.isSl then r.slots.lookup f else none | none => none) = some i := hc
    cases hcr : t.crs.find? (fun r => r.id == c) with
    | none => rw [hcr] at hc0; cases hc0
    | some cr =>
      rw [hcr] at hc0
      simp only at hc0
      split at hc0
      · rename_i sl
        obtain ⟨m1, m2, m3, m4, m5⟩ := cls c cr hcr
        unfold clB at m4
        rw [if_pos sl] at m4
        simp only [Bool.and_eq_true] at m4
        have s1 := List.all_eq_true.mp m4.2 (f, i) (lookup_memN hc0)
        simp only [slB, Bool.and_eq_true] at s1
        rw [dEq hcr hD]
        exact ⟨_, He.eqO_ok s1.1.1.1.1.1, He.eqO_ok s1.1.1.1.1.2, of_decide_eq_true s1.1.1.1.2, of_decide_eq_true s1.1.1.2, of_decide_eq_true s1.1.2, of_decide_eq_true s1.2⟩
      · cases hc0
  · have hc0 : (match t.crs.find? (fun r => r.id == c) with | some r => r.flds.contains f | none => false) = true := hc
    have hs0 : (match t.crs.find? (fun r => r.id == c) with | some r => r.isSl | none => false) = false := hs
    cases hcr : t.crs.find? (fun r => r.id == c) with
    | none => rw [hcr] at hc0; cases hc0
    | some cr =>
      rw [hcr] at hc0 hs0
      have hs1 : cr.isSl = false := hs0
      have hc1 : cr.flds.contains f = true := hc0
      obtain ⟨m1, m2, m3, m4, m5⟩ := cls c cr hcr
      unfold clB at m4
      rw [hs1, if_neg Bool.false_ne_true] at m4
      rw [Bool.and_eq_true] at m4
      rw [dEq hcr hD]
      exact ⟨He.cls_ok m4.1, He.noat_ok (List.all_eq_true.mp m4.2 f (by simpa using hc1))⟩
  · have h10 : (match t.crs.find? (fun r => r.id == c) with | some r => if r.isSl then r.slots.lookup f else none | none => none) = some i := h1
    have h20 : (match t.crs.find? (fun r => r.id == c) with | some r => if r.isSl then r.slots.lookup g else none | none => none) = some i := h2
    cases hcr : t.crs.find? (fun r => r.id == c) with
    | none => rw [hcr] at h10; cases h10
    | some cr =>
      rw [hcr] at h10 h20
      simp only at h10 h20
      split at h10
      · rename_i sl
        rw [if_pos sl] at h20
        obtain ⟨m1, m2, m3, m4, m5⟩ := cls c cr hcr
        simp only [crB, Bool.and_eq_true] at m5
        exact slots_inj m5.1.2 h10 h20
      · cases h10
  · have h10 : (match t.crs.find? (fun r => r.id == c) with | some r => r.flds.contains f | none => false) = true := h1
    have h20 : (match t.crs.find? (fun r => r.id == c) with | some r => r.flds.contains g | none => false) = true := h2
    cases hcr : t.crs.find? (fun r => r.id == c) with
    | none => rw [hcr] at h10; cases h10
    | some cr =>
      rw [hcr] at h10 h20
      have h11 : cr.flds.contains f = true := h10
      have h21 : cr.flds.contains g = true := h20
      obtain ⟨m1, m2, m3, m4, m5⟩ := cls c cr hcr
      simp only [crB, Bool.and_eq_true] at m5
      exact map_inj m5.2 (by simpa using h11) (by simpa using h21) e
  · have hc := List.all_eq_true.mp c2 _ (lookup_mem hx)
    unfold cstB at hc
    split at hc
    · rename_i u hu
      obtain ⟨v, r1, r2⟩ := relP_ok (G := gcOf t K mg P w) d u hc
      exact ⟨u, v, PySem.W.mg_of X Gn hu, r1, r2⟩
    · cases hc
  · have : x ∈ t.blts := by
      have z : t.blts.contains x = true := hx
      simpa using z
    exact He.free_ok X Gn (fact (.free x) (fa_free this))
  · have hc0 : t.errs.contains (c, true) = true := hc
    have hm : (c, true) ∈ t.errs := by simpa using hc0
    have k := List.all_eq_true.mp c4 _ hm
    simp only [errB, Bool.not_true, Bool.false_or, Bool.and_eq_true, decide_eq_true_eq] at k
    exact ⟨He.ga K (t.nm c), He.glo_ok X Gn (fact _ (fa_err hm)), k.1.1.1, k.1.1.2, k.1.2, k.2⟩
  · have hv0 : (t.exms.find? (fun p => p.1 == c && p.2.1 == d)).map (fun p => p.2.2) = some v := hv
    obtain ⟨p, hp, e⟩ := omap hv0
    have hm := List.mem_of_find?_eq_some hp
    have hq := List.find?_some hp
    simp only [Bool.and_eq_true, beq_iff_eq] at hq
    obtain ⟨rfl, rfl⟩ := hq
    have k := List.all_eq_true.mp c5 _ hm
    have kx := List.all_eq_true.mp sx _ hm
    simp only [Bool.and_eq_true] at kx
    simp only [exmB, decide_eq_true_eq] at k
    exact ⟨_, _, err _ kx.1, err _ kx.2, by rw [← e]; exact k⟩
  · have hm0 : (t.mets.find? (fun r => r.id == m)).isSome = true := hm
    obtain ⟨r, hr⟩ := Option.isSome_iff_exists.mp hm0
    have hmem := List.mem_of_find?_eq_some hr
    have hid0 := List.find?_some hr
    have hid : r.id = m := beq_iff_eq.mp hid0
    have k := List.all_eq_true.mp sm r hmem
    simp only [mrB, Bool.and_eq_true] at k
    obtain ⟨fdt, F0⟩ := c1.defs (d := dmOf t r) (List.mem_append_right _ (List.mem_map.mpr ⟨r, hmem, rfl⟩))
    have F : FunD K (t.nm r.id) (t.nm r.id) (defArgs r.st) (defBody r.st) (defScope r.st) [] [] (He.fAd K (t.nm r.id, none)) fdt := F0
    have e0 : He.fAd K (t.nm r.id, none) = He.ga K (t.nm r.id) := rfl
    rw [e0] at F
    refine ⟨r.hs, r.bk, He.ga K (t.nm r.id), fdt, r.st, r.a, r.N, ?_, ?_, ?_, binds_of (ps := [r.a]) (FunD.bindsA F (bm.mem hmem)), scopeB_ok k.1.1, by have z := k.1.2; rw [hid] at z; exact z, fun p hp => ⟨_, err _ (List.all_eq_true.mp k.2 p hp)⟩⟩
    · show (t.mets.find? (fun r => r.id == m)).map (fun r => (r.hs, r.bk)) = _
      rw [hr]; rfl
    · show mg (t.nm m) = _
      rw [← hid]; exact He.glo_ok X Gn (fact _ (fa_met hmem))
    · show FunD K (t.nm m) (t.nm m) _ _ _ _ _ _ _
      rw [← hid]; exact F
  · have hc0 : (t.rafs.find? (fun p => p.1 == c)).map (fun p => p.2.1) = some f := hc
    obtain ⟨p, hp, e⟩ := omap hc0
    have hmem := List.mem_of_find?_eq_some hp
    have hid := List.find?_some hp
    obtain rfl : p.1 = c := beq_iff_eq.mp hid
    have kr := List.all_eq_true.mp cr p hmem
    unfold rafB at kr
    rcases fo with z | ⟨f1, f2, f3⟩
    · rw [z] at hmem; cases hmem
    · simp only [rfB, Bool.and_eq_true] at f1
      split at kr
      · rename_i n i bmB hb
        have bo := baseOf_ok hb
        have fs : mg "super" = none := He.free_ok X Gn (fact (.free "super") (fa_free (by simpa using f1.2)))
        obtain ⟨e1, e2, e3⟩ := errC_of (prog := P) (w := w) (mg := mg) bo kr fs f2 f3
        rw [e] at e1 e3
        exact ⟨_, p.2.2, n, i, bmB, err _ (List.all_eq_true.mp f1.1 p hmem), bo, e1, e2, e3⟩
      · cases kr
  · have hc0 : (t.crs.find? (fun r => r.id == c)).isSome = true := hc
    obtain ⟨cr, hcr⟩ := Option.isSome_iff_exists.mp hc0
    obtain ⟨m1, m2, m3, m4, m5⟩ := cls c cr hcr
    exact ⟨_, by rw [m2]; exact m3⟩
  · have fin : ∀ {c f : Nat} {m : Str} {wr : Bool}, rowAt t c f m wr = true → (∃ ps fd, (sgOf t).fn f = some (ps, fd)) ∧ (sgOf t).rp f = false := fun {c f m wr} k => by
      obtain ⟨cr, r, h1, h2, h3, h4, hpr, h5⟩ := rowAt_ok k
      refine ⟨⟨r.ps, r.fd, ?_⟩, h5⟩
      show (t.rows.find? (fun r => r.id == f)).map (fun r => (r.ps, r.fd)) = _
      rw [h2]; rfl
    rcases hf with ⟨c, m, hc⟩ | ⟨c, hc⟩ | ⟨c, m, hc⟩ | ⟨c, m, hc⟩
    · have hc0 : (t.mths.find? (fun p => p.1 == c && p.2.1 == m)).map (fun p => p.2.2) = some f := hc
      obtain ⟨p, hp, e⟩ := omap hc0
      have k1 := List.all_eq_true.mp s01 p (List.mem_of_find?_eq_some hp)
      simp only [Bool.and_eq_true] at k1
      rw [e] at k1
      exact fin k1.1
    · have hc0 : (t.eqms.find? (fun p => p.1 == c)).map (fun p => p.2) = some f := hc
      obtain ⟨p, hp, e⟩ := omap hc0
      have k1 := List.all_eq_true.mp s02 p (List.mem_of_find?_eq_some hp)
      rw [e] at k1
      exact fin k1
    · have hc0 : (t.cmts.find? (fun p => p.1 == c && p.2.1 == m)).map (fun p => p.2.2) = some f := hc
      obtain ⟨p, hp, e⟩ := omap hc0
      have k1 := List.all_eq_true.mp s03 p (List.mem_of_find?_eq_some hp)
      rw [e] at k1
      exact fin k1
    · have hc0 : (t.prps.find? (fun p => p.1 == c && p.2.1 == m)).map (fun p => p.2.2) = some f := hc
      obtain ⟨p, hp, e⟩ := omap hc0
      have k1 := List.all_eq_true.mp s05 p (List.mem_of_find?_eq_some hp)
      rw [e] at k1
      obtain ⟨cr, r, h1, h2, h3, h4, hpr, h5⟩ := rowPr_ok k1
      refine ⟨⟨r.ps, r.fd, ?_⟩, h5⟩
      show (t.rows.find? (fun r => r.id == f)).map (fun r => (r.ps, r.fd)) = _
      rw [h2]; rfl
  · have hc0 : (t.mths.find? (fun p => p.1 == c && p.2.1 == m)).map (fun p => p.2.2) = some f := hc
    obtain ⟨p, hp, e⟩ := omap hc0
    have hpm := List.mem_of_find?_eq_some hp
    have hq := List.find?_some hp
    simp only [Bool.and_eq_true, beq_iff_eq] at hq
    obtain ⟨rfl, rfl⟩ := hq
    have k1 := List.all_eq_true.mp s01 p hpm
    have k2 := List.all_eq_true.mp c01 p hpm
    simp only [Bool.and_eq_true] at k1 k2
    obtain ⟨cr, r', h1, h2, h3, h4, hpr, h5⟩ := rowAt_ok k1.1
    obtain ⟨m1, m2, m3, m4, m5⟩ := cls p.1 cr h1
    have m2 : t.nm p.1 = cr.name := m2
    have hD0 : mg (t.nm p.1) = some (.ref D) := hD
    rw [m2, m3] at hD0
    cases hD0
    rw [m2] at k2
    have ha := (He.meth_ok k2.1.2).at_
    have hb := hm.at_
    have hb : PySem.W.findIn K (.ref (He.ga K cr.name)) (t.nm p.2.1) = some (some (.ref a)) := hb
    rw [ha] at hb
    cases hb
    exact k2.2
  · have hb0 : (t.subs.find? (fun p => p.1 == d && p.2.1 == c)).map (fun p => p.2.2) = some b := hb
    obtain ⟨p, hp, e⟩ := omap hb0
    have hpm := List.mem_of_find?_eq_some hp
    have hq := List.find?_some hp
    simp only [Bool.and_eq_true, beq_iff_eq] at hq
    obtain ⟨rfl, rfl⟩ := hq
    have k1 := List.all_eq_true.mp s04 p hpm
    have k2 := List.all_eq_true.mp c04 p hpm
    simp only [Bool.and_eq_true, decide_eq_true_eq] at k1 k2
    obtain ⟨cr, h1⟩ := Option.isSome_iff_exists.mp k1.1
    obtain ⟨cr', h2⟩ := Option.isSome_iff_exists.mp k1.2
    obtain ⟨_, m2, m3, _⟩ := cls _ cr h1
    obtain ⟨_, n2, n3, _⟩ := cls _ cr' h2
    have m2 : t.nm p.1 = cr.name := m2
    have n2 : t.nm p.2.1 = cr'.name := n2
    rw [m2, n2] at k2
    have ki := k2.1.1.1
    simp only [isiB, Bool.and_eq_true, decide_eq_true_eq] at ki
    refine ⟨_, _, by show mg (t.nm p.1) = _; rw [m2]; exact m3, by show mg (t.nm p.2.1) = _; rw [n2]; exact n3, ⟨He.eqO_ok ki.1.1.1, He.eqO_ok ki.1.1.2, ki.1.2, ki.2⟩, fun sl => ?_, by rw [← e]; exact k2.1.2⟩
    have kc := k2.1.1.2
    rw [sl] at kc
    exact He.cls_ok (by simpa using kc)
  · obtain ⟨b, hb⟩ := Option.isSome_iff_exists.mp hc
    have hb0 : (t.subs.find? (fun p => p.1 == c && p.2.1 == c)).map (fun p => p.2.2) = some b := hb
    obtain ⟨p, hp, e⟩ := omap hb0
    have hpm := List.mem_of_find?_eq_some hp
    have hq := List.find?_some hp
    simp only [Bool.and_eq_true, beq_iff_eq] at hq
    obtain ⟨q1, q2⟩ := hq
    have k1 := List.all_eq_true.mp s04 p hpm
    have k2 := List.all_eq_true.mp c04 p hpm
    simp only [Bool.and_eq_true] at k1 k2
    obtain ⟨cr, h1⟩ := Option.isSome_iff_exists.mp k1.1
    obtain ⟨_, m2, m3, _⟩ := cls _ cr h1
    have m2 : t.nm p.1 = cr.name := m2
    have ka := k2.2
    rw [q1, q2] at ka
    simp only [bne_self_eq_false, Bool.false_or] at ka
    have kk := List.all_eq_true.mp ka k hk
    have q1' : t.nm c = cr.name := by rw [← q1]; exact m2
    refine ⟨He.ga K cr.name, by show mg (t.nm c) = _; rw [q1']; exact m3, ?_⟩
    rw [q1'] at kk
    exact of_decide_eq_true kk
end
/-- THE END: what is left of a law is plain -/
theorem law_walk {l : PySem.W.OpenLaw} {q : Program} {loose : List Str} {XP : (Str → Option Value) → Heap → Prop} {d : DefRec} {n : Nat} {t : Tx} {k f : Nat} {x : Str} {r : Row}
    (hn : l.most = some 63) (hdf : d.params.defaults = []) (hr : Room (4 * k) callerA) (hnm : d.name = t.nm f) (hf : t.rows.find? (fun r => r.id == f) = some r) (hg : r.at_.2 = none) (hx : r.ps = [x])
    (st : t.rows.all (rowB (sgOf t) t.crs) = true) (sc : t.crs.all (crB (sgOf t)) = true) (sx : exB t = true) (sm : mtB t = true) (smt : mthB t = true) (b : BindsAll t.rows) (bm : BindsM t t.mets)
    (fo : FileOk t l.prog) (law : ∀ ns : List Int, ns.length ≤ 63 → ∃ h', callN (ctOf t) (tabOf (sgOf t)) k f [.scr ns] [] = .ok (.bl true) h') :
    PySem.W.WalkO q loose XP (hookZ n t).says l.row.toRowW d [] (fun f vs => PySem.call f vs) := by
  refine Att.attach_callB hn hdf fun w s₀ s₁ mg mb fa o pm cd doc a vs ns Gd Y ho hd hcd hmg hobj hints hlen hbits hg' => ?_
  obtain ⟨K, KX, cY⟩ := Y
  have c := cY.x
  have T := txt_of l.prog w KX Gd.T.g cY smt st sc sx sm b bm fo
  have hfn : (sgOf t).fn f = some ([x], r.fd) := by
    show (t.rows.find? (fun r => r.id == f)).map (fun r => (r.ps, r.fd)) = _
    rw [hf, ← hx]; rfl
  have hgl : (sgOf t).glo f = true := by
    show (match t.rows.find? (fun r => r.id == f) with | some r => r.at_.2.isNone | none => false) = true
    rw [hf]
    show r.at_.2.isNone = true
    rw [hg]; rfl
  obtain ⟨a1, fdt, e1, _, _, e2, e3, e4⟩ := all_sound (P := l.prog) (w := w) T k f [x] r.fd hfn
  have e1 := e1 hgl
  have hmg2 : mg ((sgOf t).nm f) = some (.ref fa) := by rw [← hmg, hnm]; rfl
  rw [hmg2] at e1
  cases e1
  have ct : ∀ p ∈ csOf t K, ∃ q ∈ tfOf t, He.cT K q = p := fun p hp => List.mem_map.mp hp
  refine law_callZ KX Gd.T.g Gd.T.b Gd.T.builtins Gd.T.nolimit hg' (cs := csOf t K) (fun p hp => ?_) (fun p hp => ?_) (fun p hp => ?_) Gd.T.bmain hobj hints (Nat.le_trans hlen (by decide)) hr (fun base TB => e4 base TB) (fun s u => e3 s [u] rfl) fun H hT hS => ?_
  · obtain ⟨q, hq, rfl⟩ := ct p hp; exact c.empty q hq
  · obtain ⟨q, hq, rfl⟩ := ct p hp; exact c.out q hq
  · obtain ⟨q, hq, rfl⟩ := ct p hp; exact c.hd q hq
  · refine law_post rfl (fun p hp => ?_) hS (law ns hlen)
    obtain ⟨q, hq, rfl⟩ := List.mem_map.mp hp
    refine ⟨#[], hT _ (List.mem_map.mpr ⟨q.at_, List.mem_map.mpr ⟨q, hq, rfl⟩, rfl⟩), trivial, fun pos cv hc => ?_⟩
    simp [codeAmong] at hc
end Zed
end
section
set_option Elab.async false
set_option linter.all false
set_option maxRecDepth 100000
set_option exponentiation.threshold 10000
/-! ZedP: the plain law's tools: what an answer must be, by the interpreter's own clauses. -/
namespace Zed
open PySem L2
abbrev XP := PV → List (Nat × PV) → PHeap → Prop
/-- no error -/
abbrev NoX : XP := fun _ _ _ => False
def Okx {α : Type} (X : XP) (r : R α) (Q : α → PHeap → Prop) : Prop := match r with
  | .ok a h => Q a h
  | .exc c fs h => X c fs h
  | .stuck => False
abbrev Ok {α : Type} (r : R α) (Q : α → PHeap → Prop) : Prop := Okx NoX r Q
def OkP (o : Option (PV × PHeap)) (Q : PV → PHeap → Prop) : Prop := match o with
  | some (d, h) => Q d h
  | none => False
def OkO {α : Type} (o : Option α) (Q : α → Prop) : Prop := match o with
  | some a => Q a
  | none => False
/-- a statement goes on, or returns, or raises -/
def OkSx (X : XP) (r : RS) (N : Loc → PHeap → Prop) (T : PV → PHeap → Prop) : Prop := match r with
  | .nx l h => N l h
  | .rt d h => T d h
  | .exc c fs _ h => X c fs h
  | _ => False
abbrev OkS (r : RS) (N : Loc → PHeap → Prop) (T : PV → PHeap → Prop) : Prop := OkSx NoX r N T
section
variable {α β : Type} {C : Orc} {l : Loc} {h : PHeap} {Q : PV → PHeap → Prop} {N : Loc → PHeap → Prop} {T : PV → PHeap → Prop} {X : XP}
theorem Okx.mono {r : R α} {Q Q' : α → PHeap → Prop} (k : Okx X r Q) (i : ∀ a h, Q a h → Q' a h) : Okx X r Q' := by
  cases r with
  | ok a h => exact i a h k
  | exc => exact k
  | stuck => exact k
theorem Okx.imp {r : R α} {Q Q' : α → PHeap → Prop} {X' : XP} (k : Okx X r Q) (i : ∀ a h, Q a h → Q' a h) (j : ∀ c fs h, X c fs h → X' c fs h) : Okx X' r Q' := by
  cases r with
  | ok a h => exact i a h k
  | exc => exact j _ _ _ k
  | stuck => exact k
theorem Ok.mono {r : R α} {Q Q' : α → PHeap → Prop} (k : Ok r Q) (i : ∀ a h, Q a h → Q' a h) : Okx X r Q' := Okx.imp k i fun _ _ _ z => z.elim
theorem OkSx.mono {r : RS} {N N' : Loc → PHeap → Prop} {T T' : PV → PHeap → Prop} (k : OkSx X r N T) (i : ∀ l h, N l h → N' l h) (j : ∀ d h, T d h → T' d h) : OkSx X r N' T' := by
  cases r <;> first | exact i _ _ k | exact j _ _ k | exact k
theorem OkS.mono {r : RS} {N N' : Loc → PHeap → Prop} {T T' : PV → PHeap → Prop} (k : OkS r N T) (i : ∀ l h, N l h → N' l h) (j : ∀ d h, T d h → T' d h) : OkSx X r N' T' := by
  cases r <;> first | exact i _ _ k | exact j _ _ k | exact k | exact k.elim
theorem Ok.get {r : R α} {Q : α → PHeap → Prop} (k : Ok r Q) : ∃ a h, r = .ok a h ∧ Q a h := by
  cases r with
  | ok a h => exact ⟨a, h, rfl, k⟩
  | exc => exact k.elim
  | stuck => exact k.elim
theorem Okx.get {r : R α} {Q : α → PHeap → Prop} (k : Okx X r Q) : (∃ a h, r = .ok a h ∧ Q a h) ∨ ∃ c fs h, r = .exc c fs h ∧ X c fs h := by
  cases r with
  | ok a h => exact .inl ⟨a, h, rfl, k⟩
  | exc c fs h => exact .inr ⟨c, fs, h, rfl, k⟩
  | stuck => exact k.elim
theorem ok_ok {a : α} {Q : α → PHeap → Prop} : Okx X (.ok a h) Q ↔ Q a h := Iff.rfl
theorem ok_bind {m : R α} {k : α → PHeap → R β} {Q : β → PHeap → Prop} : Okx X (m.bind k) Q ↔ Okx X m fun a h => Okx X (k a h) Q := by
  cases m <;> exact Iff.rfl
theorem ok_lift {o : Option (PV × PHeap)} : Okx X (liftP o) Q ↔ OkP o Q := by
  cases o <;> exact Iff.rfl
theorem okS_to {m : R α} {k : α → PHeap → RS} : OkSx X (m.toS l k) N T ↔ Okx X m fun a h => OkSx X (k a h) N T := by
  cases m <;> exact Iff.rfl
theorem ok_truth {m : R PV} {Q : Bool → PHeap → Prop} : Okx X (truthR m) Q ↔ Okx X m fun d h => OkO (truthF h d) fun b => Q b h := by
  unfold truthR
  rw [ok_bind]
  cases m with
  | ok d h =>
    show Okx X (match truthF h d with | some b => _ | none => _) Q ↔ OkO (truthF h d) fun b => Q b h
    cases truthF h d <;> exact Iff.rfl
  | exc => exact Iff.rfl
  | stuck => exact Iff.rfl
/-! expressions -/
theorem w_loc {i : Nat} : Okx X (evE C (.loc i) l h) Q ↔ OkO (l[i]?.bind id) fun d => Q d h := by
  show Okx X (match l[i]? with | some (some d) => R.ok d h | _ => .stuck) Q ↔ _
  cases l[i]? with
  | none => exact Iff.rfl
  | some o => cases o <;> exact Iff.rfl
theorem w_con {d : PV} : Okx X (evE C (.con d) l h) Q ↔ Q d h := Iff.rfl
theorem w_bin {op : Bop} {a b : Ex} : Okx X (evE C (.bin op a b) l h) Q ↔ Okx X (evE C a l h) fun x h1 => Okx X (evE C b l h1) fun y h2 => OkP (bopF op [x, y] h2) Q := by
  show Okx X (ev2 _ _ _ _ _) _ ↔ _
  unfold ev2
  simp only [ok_bind, ok_lift]
theorem w_cmp {op : Cop} {a b : Ex} : Okx X (evE C (.cmp op a b) l h) Q ↔ Okx X (evE C a l h) fun x h1 => Okx X (evE C b l h1) fun y h2 => OkO (cmpB op h2 x y) fun b => Q (.bl b) h2 := by
  show Okx X (ev2 _ _ _ _ _) _ ↔ _
  unfold ev2
  simp only [ok_bind, ok_lift]
  refine iff_of_eq (congrArg _ (funext fun x => funext fun h1 => congrArg _ (funext fun y => funext fun h2 => ?_)))
  show OkP ((cmpB op h2 x y).map _) Q = _
  cases cmpB op h2 x y <;> rfl
theorem w_sub {a b : Ex} : Okx X (evE C (.sub a b) l h) Q ↔ Okx X (evE C a l h) fun x h1 => Okx X (evE C b l h1) fun y h2 => OkO (getF x y h2) fun d => Q d h2 := by
  show Okx X (ev2 _ _ _ _ _) _ ↔ _
  unfold ev2
  simp only [ok_bind, ok_lift]
  refine iff_of_eq (congrArg _ (funext fun x => funext fun h1 => congrArg _ (funext fun y => funext fun h2 => ?_)))
  show OkP ((getF x y h2).map _) Q = _
  cases getF x y h2 <;> rfl
theorem w_not {a : Ex} : Okx X (evE C (.not a) l h) Q ↔ Okx X (evE C a l h) fun x h1 => OkO (truthF h1 x) fun b => Q (.bl !b) h1 := by
  show Okx X ((truthR _).bind _) _ ↔ _
  rw [ok_bind, ok_truth]; exact Iff.rfl
theorem w_and {a b : Ex} : Okx X (evE C (.and a b) l h) Q ↔ Okx X (evE C a l h) fun x h1 => OkO (truthF h1 x) fun k => (k = true → Okx X (evE C b l h1) Q) ∧ (k = false → Q x h1) := by
  show Okx X (R.bind _ _) _ ↔ _
  rw [ok_bind]
  refine iff_of_eq (congrArg _ (funext fun x => funext fun h1 => propext ?_))
  cases truthF h1 x with
  | none => exact Iff.rfl
  | some k => cases k <;> simp [OkO, Okx]
theorem w_or {a b : Ex} : Okx X (evE C (.or a b) l h) Q ↔ Okx X (evE C a l h) fun x h1 => OkO (truthF h1 x) fun k => (k = true → Q x h1) ∧ (k = false → Okx X (evE C b l h1) Q) := by
  show Okx X (R.bind _ _) _ ↔ _
  rw [ok_bind]
  refine iff_of_eq (congrArg _ (funext fun x => funext fun h1 => propext ?_))
  cases truthF h1 x with
  | none => exact Iff.rfl
  | some k => cases k <;> simp [OkO, Okx]
theorem w_ite {c a b : Ex} : Okx X (evE C (.ite c a b) l h) Q ↔ Okx X (evE C c l h) fun x h1 => OkO (truthF h1 x) fun k => (k = true → Okx X (evE C a l h1) Q) ∧ (k = false → Okx X (evE C b l h1) Q) := by
  show Okx X (R.bind _ _) _ ↔ _
  rw [ok_bind, ok_truth]
  refine iff_of_eq (congrArg _ (funext fun x => funext fun h1 => propext ?_))
  cases truthF h1 x with
  | none => exact Iff.rfl
  | some k => cases k <;> simp [OkO]
theorem w_chn {op op' : Cop} {a b c : Ex} : Okx X (evE C (.chn op op' a b c) l h) Q ↔ Okx X (evE C a l h) fun x h1 => Okx X (evE C b l h1) fun y h2 => OkO (cmpB op h2 x y) fun k => (k = true → Okx X (evE C c l h2) fun z h3 => OkO (cmpB op' h3 y z) fun b => Q (.bl b) h3) ∧ (k = false → Q (.bl false) h2) := by
  show Okx X (R.bind _ _) _ ↔ _
  simp only [ok_bind, ok_lift]
  refine iff_of_eq (congrArg _ (funext fun x => funext fun h1 => congrArg _ (funext fun y => funext fun h2 => propext ?_)))
  show OkP ((cmpB op h2 x y).map _) _ ↔ _
  cases cmpB op h2 x y with
  | none => exact Iff.rfl
  | some k =>
    cases k with
    | false => simp [OkO, OkP, Okx]
    | true =>
      simp only [Option.map_some, OkP, OkO, ok_bind, ok_lift]
      refine ⟨fun q => ⟨fun _ => ?_, fun z => (nomatch z)⟩, fun q => ?_⟩
      · refine Okx.mono q fun z h3 => ?_
        show OkP ((cmpB op' h3 y z).map _) _ → _
        cases cmpB op' h3 y z <;> exact id
      · refine Okx.mono (q.1 trivial) fun z h3 => ?_
        show _ → OkP ((cmpB op' h3 y z).map _) _
        cases cmpB op' h3 y z <;> exact id
theorem w_tup {es : Exs} : Okx X (evE C (.tup es) l h) Q ↔ Okx X (evA C es l h) fun ds h1 => ds.length ≤ sizeLine ∧ Q (.tup ds) h1 := by
  show Okx X (R.bind _ _) _ ↔ _
  rw [ok_bind]
  refine iff_of_eq (congrArg _ (funext fun ds => funext fun h1 => propext ?_))
  by_cases z : ds.length ≤ sizeLine <;> simp [z, Okx]
theorem w_lst {es : Exs} : Okx X (evE C (.lst true es) l h) Q ↔ Okx X (evA C es l h) fun ds h1 => ds.length ≤ sizeLine ∧ Q (.fl ds) h1 := by
  show Okx X (R.bind _ _) _ ↔ _
  rw [ok_bind]
  refine iff_of_eq (congrArg _ (funext fun ds => funext fun h1 => propext ?_))
  by_cases z : ds.length ≤ sizeLine <;> simp [z, Okx, liftP, mkL]
theorem w_lsh {es : Exs} : Okx X (evE C (.lst false es) l h) Q ↔ Okx X (evA C es l h) fun ds h1 => ds.length ≤ sizeLine ∧ Q (.ref h1.length) (h1 ++ [.lst ds]) := by
  show Okx X (R.bind _ _) _ ↔ _
  rw [ok_bind]
  refine iff_of_eq (congrArg _ (funext fun ds => funext fun h1 => propext ?_))
  by_cases z : ds.length ≤ sizeLine <;> simp [z, Okx, liftP, newO, mkL]
theorem w_call {f : Nat} {es : Exs} : Okx X (evE C (.call f es) l h) Q ↔ Okx X (evA C es l h) fun ds h1 => Okx X (C.call f ds h1) Q := by
  show Okx X (R.bind _ _) _ ↔ _
  rw [ok_bind]
theorem w_blt {b : Bi} {es : Exs} : Okx X (evE C (.blt b es) l h) Q ↔ Okx X (evA C es l h) fun ds h1 => OkP (bltF b ds h1) Q := by
  show Okx X (R.bind _ _) _ ↔ _
  simp only [ok_bind, ok_lift]
theorem w_attr {o : Ex} {f : Nat} : Okx X (evE C (.attr o f) l h) Q ↔ Okx X (evE C o l h) fun x h1 => OkP (attrF C.ct f [x] h1) Q := by
  show Okx X (ev1 _ _ _ _) _ ↔ _
  unfold ev1
  simp only [ok_bind, ok_lift]
theorem w_dic0 : Okx X (evE C (.dic0 true) l h) Q ↔ Q (.fz (.dic [])) h := Iff.rfl
theorem w_dich : Okx X (evE C (.dic0 false) l h) Q ↔ Q (.ref h.length) (h ++ [.dic []]) := Iff.rfl
theorem w_meth {m : Mi} {o : Ex} {es : Exs} : Okx X (evE C (.meth m o es) l h) Q ↔ Okx X (evE C o l h) fun x h1 => rcvOk m x h1 = true ∧ Okx X (evA C es l h1) fun ds h2 => OkP (methF m (x :: ds) h2) Q := by
  show Okx X (R.bind _ _) _ ↔ _
  rw [ok_bind]
  refine iff_of_eq (congrArg _ (funext fun x => funext fun h1 => propext ?_))
  cases z : rcvOk m x h1 with
  | false => simp [Okx]
  | true => simp only [true_and, ok_bind, ok_lift]
theorem w_slc {o : Ex} {lo hi : Op} : Okx X (evE C (.slc o lo hi) l h) Q ↔ Okx X (evE C o l h) fun x h1 => Okx X (evOp C lo l h1) fun a h2 => Okx X (evOp C hi l h2) fun b h3 => OkP (slcF x a b h3) Q := by
  show Okx X (R.bind _ _) _ ↔ _
  simp only [ok_bind, ok_lift]
theorem w_ono {Q : Option Int → PHeap → Prop} : Okx X (evOp C .no l h) Q ↔ Q none h := Iff.rfl
theorem w_oyes {e : Ex} {Q : Option Int → PHeap → Prop} : Okx X (evOp C (.yes e) l h) Q ↔ Okx X (evE C e l h) fun d h1 => match d with
    | .int i => Q (some i) h1
    | _ => False := by
  show Okx X (optI (evE C e l h)) Q ↔ _
  cases evE C e l h with
  | ok d h1 => cases d <;> exact Iff.rfl
  | exc => exact Iff.rfl
  | stuck => exact Iff.rfl
theorem w_nil {Q : List PV → PHeap → Prop} : Okx X (evA C .nil l h) Q ↔ Q [] h := Iff.rfl
theorem w_cons {e : Ex} {es : Exs} {Q : List PV → PHeap → Prop} : Okx X (evA C (.cons e es) l h) Q ↔ Okx X (evE C e l h) fun x h1 => Okx X (evA C es l h1) fun xs h2 => Q (x :: xs) h2 := by
  show Okx X (evCons _ _ _ _) _ ↔ _
  unfold evCons
  simp only [ok_bind, ok_ok]
theorem w_star {e : Ex} {es : Exs} {Q : List PV → PHeap → Prop} : Okx X (evA C (.star e es) l h) Q ↔ Okx X (evE C e l h) fun x h1 => OkO (seqOf h1 x) fun ds => Okx X (evA C es l h1) fun xs h2 => Q (ds ++ xs) h2 := by
  show Okx X (R.bind _ _) _ ↔ _
  rw [ok_bind]
  refine iff_of_eq (congrArg _ (funext fun x => funext fun h1 => propext ?_))
  cases seqOf h1 x with
  | none => exact Iff.rfl
  | some ds => simp only [OkO, ok_bind, ok_ok]
/-! statements -/
theorem s_ex {e : Ex} : OkSx X (exS C (.ex e) l h) N T ↔ Okx X (evE C e l h) fun _ h1 => N l h1 := by
  show OkSx X (R.toS _ _ _) _ _ ↔ _
  rw [okS_to]; exact Iff.rfl
theorem s_asg {t : Tg} {e : Ex} : OkSx X (exS C (.asg t e) l h) N T ↔ Okx X (evE C e l h) fun d h1 => OkO (bindT t d l) fun l1 => N l1 h1 := by
  show OkSx X (R.toS _ _ _) _ _ ↔ _
  rw [okS_to]
  refine iff_of_eq (congrArg _ (funext fun d => funext fun h1 => propext ?_))
  cases bindT t d l <;> exact Iff.rfl
theorem s_put {o i e : Ex} : OkSx X (exS C (.put o i e) l h) N T ↔ Okx X (evE C e l h) fun v h1 => Okx X (evE C o l h1) fun x h2 => Okx X (evE C i l h2) fun y h3 => OkO (putF x y v h3) fun h4 => N l h4 := by
  show OkSx X (R.toS _ _ _) _ _ ↔ _
  simp only [okS_to]
  refine iff_of_eq (congrArg _ (funext fun v => funext fun h1 => congrArg _ (funext fun x => funext fun h2 => congrArg _ (funext fun y => funext fun h3 => propext ?_))))
  cases putF x y v h3 <;> exact Iff.rfl
theorem s_fld {o e : Ex} {f : Nat} : OkSx X (exS C (.fld o f e) l h) N T ↔ Okx X (evE C e l h) fun v h1 => Okx X (evE C o l h1) fun x h2 => OkO (fldF C.ct x f v h2) fun h4 => N l h4 := by
  show OkSx X (R.toS _ _ _) _ _ ↔ _
  simp only [okS_to]
  refine iff_of_eq (congrArg _ (funext fun v => funext fun h1 => congrArg _ (funext fun x => funext fun h2 => propext ?_)))
  cases fldF C.ct x f v h2 <;> exact Iff.rfl
theorem s_ret {e : Ex} : OkSx X (exS C (.ret e) l h) N T ↔ Okx X (evE C e l h) T := by
  show OkSx X (R.toS _ _ _) _ _ ↔ _
  rw [okS_to]; exact Iff.rfl
theorem s_ret0 : OkSx X (exS C .ret0 l h) N T ↔ T .non h := Iff.rfl
theorem s_iff {c : Ex} {a b : Sxs} : OkSx X (exS C (.iff c a b) l h) N T ↔ Okx X (evE C c l h) fun x h1 => OkO (truthF h1 x) fun k => (k = true → OkSx X (exSs C a l h1) N T) ∧ (k = false → OkSx X (exSs C b l h1) N T) := by
  show OkSx X (R.toS _ _ _) _ _ ↔ _
  rw [okS_to, ok_truth]
  refine iff_of_eq (congrArg _ (funext fun x => funext fun h1 => propext ?_))
  cases truthF h1 x with
  | none => exact Iff.rfl
  | some k => cases k <;> simp [OkO]
theorem s_rai {c : Nat} {m : Str} : OkSx X (exS C (.rai c m) l h) N T ↔ X (.gl c) [] h := Iff.rfl
theorem s_raf {c f : Nat} {e : Ex} (hx : C.ct.xfl c = some f) (k : Okx X (evE C e l h) fun v h1 => X (.gl c) [(f, v)] h1) : OkSx X (exS C (.raf c f e) l h) N T := by
  show OkSx X (if C.ct.xfl c = some f then (evE C e l h).toS l fun v h1 => .exc (.gl c) [(f, v)] l h1 else .stuck) N T
  rw [if_pos hx, okS_to]
  exact k
theorem s_nil : OkSx X (exSs C .nil l h) N T ↔ N l h := Iff.rfl
theorem s_cons {s : Sx} {r : Sxs} : OkSx X (exSs C (.cons s r) l h) N T ↔ OkSx X (exS C s l h) (fun l1 h1 => OkSx X (exSs C r l1 h1) N T) T := by
  show OkSx X (match exS C s l h with | .nx l1 h1 => exSs C r l1 h1 | x => x) N T ↔ _
  cases exS C s l h <;> exact Iff.rfl
/-- a def -/
theorem f_run {fd : Fd} {ds : List PV} (hl : ds.length = fd.np) : Okx X (runFn fd C ds h) Q ↔ OkSx X (exSs C fd.body (ds.map some ++ List.replicate (fd.n - fd.np) none) h) (fun _ h1 => Q .non h1) Q := by
  unfold runFn
  rw [if_pos hl]
  cases exSs C fd.body (ds.map some ++ List.replicate (fd.n - fd.np) none) h <;> exact Iff.rfl
/-- what leaves a sealed def -/
def Seal (h : PHeap) (d : PV) (h1 : PHeap) (Q : PV → PHeap → Prop) : Prop := ∃ d2 h2, frzV h1 h.length 6 d = some d2 ∧ sealH h.length h h1 = some h2 ∧ Q d2 h2
/-- an error that leaves a sealed def -/
def SealX (h : PHeap) (X : XP) : XP := fun c fs h1 => (clV h.length c && clFs h.length fs) = true ∧ ∃ h2, sealH h.length h h1 = some h2 ∧ X c fs h2
theorem ok_sealx {r : R PV} : Okx X (sealF h r) Q ↔ Okx (SealX h X) r fun d h1 => Seal h d h1 Q := by
  cases r with
  | ok d h1 =>
    show Okx X (match frzV h1 h.length 6 d, sealH h.length h h1 with | some d1, some h1 => .ok d1 h1 | _, _ => .stuck) Q ↔ Seal h d h1 Q
    unfold Seal
    cases frzV h1 h.length 6 d <;> cases sealH h.length h h1 <;> simp [Okx]
  | exc c fs h1 =>
    show Okx X (if clV h.length c && clFs h.length fs then (match sealH h.length h h1 with | some h1 => .exc c fs h1 | none => .stuck) else .stuck) Q ↔ SealX h X c fs h1
    unfold SealX
    cases clV h.length c && clFs h.length fs <;> cases sealH h.length h h1 <;> simp [Okx]
  | stuck => exact Iff.rfl
theorem ok_seal {r : R PV} : Ok (sealF h r) Q ↔ Ok r fun d h1 => Seal h d h1 Q := by
  refine ok_sealx.trans ?_
  cases r <;> first | exact Iff.rfl | (simp [Okx, SealX, NoX])
theorem f_open {ct : Ct} {Tb : Nat → Option Fd} {n f : Nat} {fd : Fd} {ds : List PV} (e : Tb f = some fd) (z : fd.fz = false) (hl : ds.length = fd.np) :
    Okx X (callN ct Tb (n + 1) f ds h) Q ↔ OkSx X (exSs ⟨callN ct Tb n, ct⟩ fd.body (ds.map some ++ List.replicate (fd.n - fd.np) none) h) (fun _ h1 => Q .non h1) Q := by
  show Okx X (match Tb f with | some fd => runFs fd ⟨callN ct Tb n, ct⟩ ds h | none => .stuck) Q ↔ _
  rw [e]
  show Okx X (runFs fd _ ds h) Q ↔ _
  unfold runFs
  rw [z, if_neg Bool.false_ne_true]
  exact f_run hl
theorem f_call {ct : Ct} {Tb : Nat → Option Fd} {n f : Nat} {fd : Fd} {ds : List PV} (e : Tb f = some fd) (z : fd.fz = true) (hl : ds.length = fd.np) :
    Ok (callN ct Tb (n + 1) f ds h) Q ↔ OkS (exSs ⟨callN ct Tb n, ct⟩ fd.body (ds.map some ++ List.replicate (fd.n - fd.np) none) h) (fun _ h1 => Seal h .non h1 Q) (fun d h1 => Seal h d h1 Q) := by
  show Ok (match Tb f with | some fd => runFs fd ⟨callN ct Tb n, ct⟩ ds h | none => .stuck) Q ↔ _
  rw [e]
  show Ok (runFs fd _ ds h) Q ↔ _
  unfold runFs
  rw [z, if_pos rfl, ok_seal]
  exact f_run hl
theorem f_callx {ct : Ct} {Tb : Nat → Option Fd} {n f : Nat} {fd : Fd} {ds : List PV} (e : Tb f = some fd) (z : fd.fz = true) (hl : ds.length = fd.np) :
    Okx X (callN ct Tb (n + 1) f ds h) Q ↔ OkSx (SealX h X) (exSs ⟨callN ct Tb n, ct⟩ fd.body (ds.map some ++ List.replicate (fd.n - fd.np) none) h) (fun _ h1 => Seal h .non h1 Q) (fun d h1 => Seal h d h1 Q) := by
  show Okx X (match Tb f with | some fd => runFs fd ⟨callN ct Tb n, ct⟩ ds h | none => .stuck) Q ↔ _
  rw [e]
  show Okx X (runFs fd _ ds h) Q ↔ _
  unfold runFs
  rw [z, if_pos rfl, ok_sealx]
  exact f_run hl
/-! closed values -/
mutual
theorem cl_up {n m : Nat} (k : n ≤ m) : ∀ d : PV, clV n d = true → clV m d = true
  | .non, _ => rfl
  | .bl _, _ => rfl
  | .int _, _ => rfl
  | .str _, _ => rfl
  | .ty _, _ => rfl
  | .gl _, _ => rfl
  | .scr _, _ => rfl
  | .tup ds, z => by simp only [clV] at z ⊢; exact cls_up k ds z
  | .ref i, z => by simp only [clV, decide_eq_true_eq] at z ⊢; omega
  | .fz (.lst ds), z => by simp only [clV, clO] at z ⊢; exact cls_up k ds z
  | .fz (.set ds), z => by simp only [clV, clO] at z ⊢; exact cls_up k ds z
  | .fz (.dic kvs), z => by simp only [clV, clO] at z ⊢; exact clK_up k kvs z
  | .fz (.ins _ fs), z => by simp only [clV, clO] at z ⊢; exact clF_up k fs z
theorem cls_up {n m : Nat} (k : n ≤ m) : ∀ ds : List PV, clVs n ds = true → clVs m ds = true
  | [], _ => rfl
  | d :: r, z => by simp only [clVs, Bool.and_eq_true] at z ⊢; exact ⟨cl_up k d z.1, cls_up k r z.2⟩
theorem clK_up {n m : Nat} (k : n ≤ m) : ∀ ds : List (PV × PV), clKs n ds = true → clKs m ds = true
  | [], _ => rfl
  | (a, b) :: r, z => by simp only [clKs, Bool.and_eq_true] at z ⊢; exact ⟨⟨cl_up k a z.1.1, cl_up k b z.1.2⟩, clK_up k r z.2⟩
theorem clF_up {n m : Nat} (k : n ≤ m) : ∀ ds : List (Nat × PV), clFs n ds = true → clFs m ds = true
  | [], _ => rfl
  | (_, b) :: r, z => by simp only [clFs, Bool.and_eq_true] at z ⊢; exact ⟨cl_up k b z.1, clF_up k r z.2⟩
end
theorem frz_cl {d : PV} {h1 : PHeap} {n k : Nat} (z : clV n d = true) : frzV h1 n k d = some d := by
  cases k <;> (unfold frzV; rw [if_pos z])
theorem seal_app' {n : Nat} : ∀ (h g : PHeap), sealH n h (h ++ g) = some h
  | [], g => by cases g <;> rfl
  | o :: r, g => by
    show (if PObj.same o o || clO n o then (sealH n r (r ++ g)).map (o :: ·) else none) = _
    rw [PObj.same_rfl, Bool.true_or, if_pos rfl, seal_app' r g]; rfl
theorem seal_set' {n : Nat} {o : PObj} (z : clO n o = true) : ∀ (h g : PHeap) (i : Nat), sealH n h (h.set i o ++ g) = some (h.set i o)
  | [], g, i => by cases g <;> rfl
  | p :: r, g, 0 => by
    show (if PObj.same p o || clO n o then (sealH n r (r ++ g)).map (o :: ·) else none) = _
    rw [z, Bool.or_true, if_pos rfl, seal_app' r g]; rfl
  | p :: r, g, i + 1 => by
    show (if PObj.same p p || clO n p then (sealH n r (r.set i o ++ g)).map (p :: ·) else none) = _
    rw [PObj.same_rfl, Bool.true_or, if_pos rfl, seal_set' z r g i]; rfl
theorem sl_same {d : PV} (z : clV 0 d = true) (q : Q d h) : Seal h d h Q := ⟨d, h, frz_cl (cl_up (Nat.zero_le _) d z), by simpa using seal_app' h [], q⟩
theorem sl_app {d : PV} {g : PHeap} (z : clV 0 d = true) (q : Q d h) : Seal h d (h ++ g) Q := ⟨d, h, frz_cl (cl_up (Nat.zero_le _) d z), seal_app' h g, q⟩
theorem sl_set {d : PV} {g : PHeap} {i : Nat} {o : PObj} (z : clV 0 d = true) (zo : clO 0 o = true) (q : Q d (h.set i o)) : Seal h d (h.set i o ++ g) Q := by
  refine ⟨d, h.set i o, frz_cl (cl_up (Nat.zero_le _) d z), seal_set' ?_ h g i, q⟩
  have := cl_up (Nat.zero_le h.length) (.fz o) (by simpa only [clV] using zo)
  simpa only [clV] using this
theorem sl_set0 {d : PV} {i : Nat} {o : PObj} (z : clV 0 d = true) (zo : clO 0 o = true) (q : Q d (h.set i o)) : Seal h d (h.set i o) Q := by
  have := sl_set (Q := Q) (g := []) (h := h) z zo q
  simpa using this
/-- a new list that is returned -/
theorem frz_lst {h1 : PHeap} {n i : Nat} {ds : List PV} (e : h1[i]? = some (.lst ds)) (hi : n ≤ i) (z : clVs 0 ds = true) : frzV h1 n 6 (.ref i) = some (.fl ds) := by
  have m : ∀ {k : Nat} (l : List PV), clVs 0 l = true → mapO (frzV h1 n k) l = some l := fun {k} l => by
    induction l with
    | nil => intro _; rfl
    | cons d r ih =>
      intro z
      simp only [clVs, Bool.and_eq_true] at z
      simp only [mapO, frz_cl (cl_up (Nat.zero_le n) d z.1), ih z.2]
  unfold frzV
  rw [if_neg (by simp only [clV, decide_eq_true_eq]; omega)]
  dsimp only
  rw [e]
  show (Option.map PObj.lst (mapO (frzV h1 n 5) ds)).map PV.fz = _
  rw [m ds z]; rfl
theorem sl_lst {h1 g : PHeap} {ds : List PV} {i : Nat} (e : h1 = h ++ g) (ei : h1[i]? = some (.lst ds)) (hi : h.length ≤ i) (z : clVs 0 ds = true) (q : Q (.fl ds) h) : Seal h (.ref i) h1 Q := by
  subst e
  exact ⟨_, h, frz_lst ei hi z, seal_app' h g, q⟩
end

/-! ### steps: one clause at the head of the goal -/
section
variable {C : Orc} {l : Loc} {h : PHeap} {Q : PV → PHeap → Prop}
theorem okP_of {o : Option (PV × PHeap)} {d : PV} {h' : PHeap} (e : o = some (d, h')) (q : Q d h') : OkP o Q := by rw [e]; exact q
theorem okO_of {α : Type} {o : Option α} {a : α} {Q : α → Prop} (e : o = some a) (q : Q a) : OkO o Q := by rw [e]; exact q
theorem x_loc {X : XP} {i : Nat} {d : PV} (e : l[i]? = some (some d)) (q : Q d h) : Okx X (evE C (.loc i) l h) Q := w_loc.mpr (by rw [e]; exact q)
theorem x_int {Q : Option Int → PHeap → Prop} {i : Int} (q : Q (some i) h) : (match PV.int i with | .int i => Q (some i) h | _ => False) := q
theorem get_lst {i : Nat} {ds : List PV} {k : Int} (e : h[i]? = some (.lst ds)) : getF (.ref i) (.int k) h = atI ds k := by
  simp only [getF, objOf, e]
theorem get_dic {i : Nat} {kvs : List (PV × PV)} {k : PV} (e : h[i]? = some (.dic kvs)) : getF (.ref i) k h = dGetF kvs k := by
  simp only [getF, objOf, e]
theorem put_lst {i j : Nat} {ds : List PV} {k : Int} {v : PV} (e : h[i]? = some (.lst ds)) (hj : ixN ds.length k = some j) : putF (.ref i) (.int k) v h = some (h.set i (.lst (ds.set j v))) := by
  simp only [putF, e, hj]; rfl
theorem mod_ok {i j : Int} (hj : 0 < j) : bopF .mod [.int i, .int j] h = some (.int (i % j), h) := by
  simp only [bopF, arI, if_pos hj]; rfl
theorem fdiv_ok {i j : Int} (hj : 0 < j) (hb : j.natAbs < big) : bopF .fdiv [.int i, .int j] h = some (.int (i / j), h) := by
  simp only [bopF, arI, if_pos (And.intro hj hb)]; rfl
theorem mul_ok {i j : Int} (hi : i.natAbs < big) (hj : j.natAbs < big) : bopF .mul [.int i, .int j] h = some (.int (i * j), h) := by
  simp only [bopF, mulF, if_pos (And.intro hi hj)]
theorem lt_big {i : Int} (h1 : -(2 ^ 200) < i) (h2 : i < 2 ^ 200) : i.natAbs < big := by
  have : i.natAbs < 2 ^ 200 := by omega
  exact Nat.lt_of_lt_of_le this (by unfold big; exact Nat.pow_le_pow_right (by decide) (by decide))
end
theorem line_of {n : Nat} (h : n ≤ 1000) : n ≤ sizeLine := Nat.le_trans h (by rw [sizeLine_eq]; decide)
theorem okL {ds : List PV} {P : Prop} (hl : ds.length ≤ 1000) (p : P) : ds.length ≤ sizeLine ∧ P := ⟨line_of hl, p⟩
theorem okO_bind {i : Nat} {d : PV} {l : Loc} {Q : Loc → Prop} (hi : i < l.length) (q : Q (l.set i (some d))) : OkO (bindT (.nm i) d l) Q := by
  unfold bindT
  rw [if_pos hi]; exact q
theorem okO_get {h : PHeap} {i : Nat} {k : Int} {ds : List PV} {d : PV} {Q : PV → Prop} (e : h[i]? = some (.lst ds)) (g : atI ds k = some d) (q : Q d) : OkO (getF (.ref i) (.int k) h) Q := okO_of ((get_lst e).trans g) q
theorem okO_put {h : PHeap} {i j : Nat} {k : Int} {ds : List PV} {v : PV} {Q : PHeap → Prop} (e : h[i]? = some (.lst ds)) (g : ixN ds.length k = some j) (q : Q (h.set i (.lst (ds.set j v)))) : OkO (putF (.ref i) (.int k) v h) Q := okO_of (put_lst e g) q
theorem okP_mod {h : PHeap} {i j : Int} {Q : PV → PHeap → Prop} (hj : 0 < j) (q : Q (.int (i % j)) h) : OkP (bopF .mod [.int i, .int j] h) Q := okP_of (mod_ok hj) q
theorem okP_fdiv {h : PHeap} {i j : Int} {Q : PV → PHeap → Prop} (hj : 0 < j) (hb : j < 2 ^ 200) (q : Q (.int (i / j)) h) : OkP (bopF .fdiv [.int i, .int j] h) Q := okP_of (fdiv_ok hj (lt_big (by omega) hb)) q
theorem okP_mul {h : PHeap} {i j : Int} {Q : PV → PHeap → Prop} (h1 : -2 ^ 200 < i ∧ i < 2 ^ 200) (h2 : -2 ^ 200 < j ∧ j < 2 ^ 200) (q : Q (.int (i * j)) h) : OkP (bopF .mul [.int i, .int j] h) Q := okP_of (mul_ok (lt_big h1.1 h1.2) (lt_big h2.1 h2.2)) q
theorem get_self {h : PHeap} {i : Nat} {o o' : PObj} (e : h[i]? = some o) : (h.set i o')[i]? = some o' := by
  rw [List.getElem?_set_self (List.getElem?_eq_some_iff.mp e).1]
theorem sh_str {x : Str} (hx : PyData.strOk x = true) : SeqAt.shaped (.str x) = true := by
  unfold SeqAt.shaped
  simp only [PyData.canLay0, hx, PyData.depth]; rfl
theorem eqD_str {h : PHeap} {x y : Str} (hx : PyData.strOk x = true) (hy : PyData.strOk y = true) : eqD h (.str x) (.str y) = some (x == y) := by
  unfold eqD
  show (if SeqAt.shaped (.str x) = true ∧ SeqAt.shaped (.str y) = true then _ else _) = _
  rw [if_pos ⟨sh_str hx, sh_str hy⟩]
  simp only [PyData.eqv]
theorem eq_str {h : PHeap} {x y : Str} (hx : PyData.strOk x = true) (hy : PyData.strOk y = true) : eqF h (.str x) (.str y) = some (x == y) := by
  unfold eqF
  rw [eqD_str hx hy]
theorem okO_eqs {h : PHeap} {x y : Str} {Q : Bool → Prop} (hx : PyData.strOk x = true) (hy : PyData.strOk y = true) (q : Q (x == y)) : OkO (cmpB .eq h (.str x) (.str y)) Q := okO_of (show eqF h _ _ = _ from eq_str hx hy) q
theorem okO_nes {h : PHeap} {x y : Str} {Q : Bool → Prop} (hx : PyData.strOk x = true) (hy : PyData.strOk y = true) (q : Q (!(x == y))) : OkO (cmpB .ne h (.str x) (.str y)) Q := okO_of (show (eqD h _ _).map _ = _ by rw [eqD_str hx hy]; rfl) q
theorem br_t {b : Bool} {A B : Prop} (e : b = true) (a : A) : (b = true → A) ∧ (b = false → B) := ⟨fun _ => a, fun z => by rw [e] at z; cases z⟩
theorem br_f {b : Bool} {A B : Prop} (e : b = false) (a : B) : (b = true → A) ∧ (b = false → B) := ⟨fun z => (by rw [e] at z; cases z), fun _ => a⟩
theorem okO_some {α : Type} {a : α} {Q : α → Prop} (q : Q a) : OkO (some a) Q := q
theorem okO_bl {h : PHeap} {b : Bool} {Q : Bool → Prop} (q : Q b) : OkO (truthF h (.bl b)) Q := q
/-! ### walks -/
section
variable {C : Orc} {l : Loc} {h : PHeap} {Q : PV → PHeap → Prop} {N : Loc → PHeap → Prop} {T : PV → PHeap → Prop} {X : XP}
theorem w_val {e : Ex} {Q : Src → PHeap → Prop} : Okx X (evI C (.val e) l h) Q ↔ Okx X (evE C e l h) fun d h1 => OkO (srcOf h1 d) fun s => Q s h1 := by
  show Okx X (R.bind _ _) _ ↔ _
  rw [ok_bind]
  refine iff_of_eq (congrArg _ (funext fun d => funext fun h1 => propext ?_))
  show Okx X (srcR (srcOf h1 d) h1) Q ↔ _
  cases srcOf h1 d <;> exact Iff.rfl
theorem x_rng1 {e : Ex} {Q : Src → PHeap → Prop} (k : Okx X (evE C e l h) fun d h1 => ∃ j : Int, d = .int j ∧ 0 ≤ j ∧ j < 1000 ∧ Q (.seq ((List.range j.toNat).map fun (i : Nat) => .int (0 + i))) h1) : Okx X (evI C (.rng1 e) l h) Q := by
  show Okx X (R.bind _ _) _
  rw [ok_bind]
  refine k.mono fun d h1 ⟨j, e1, j0, j1, q⟩ => ?_
  subst e1
  show Okx X (srcR (rngOf 0 j) h1) Q
  unfold rngOf
  rw [if_pos ⟨by decide, by decide, by omega, by omega⟩, Int.sub_zero]
  exact q
theorem x_rng2 {a b : Ex} {Q : Src → PHeap → Prop} (k : Okx X (evE C a l h) fun d h1 => ∃ i : Int, d = .int i ∧ 0 ≤ i ∧ i < 1000 ∧ Okx X (evE C b l h1) fun d h2 => ∃ j : Int, d = .int j ∧ 0 ≤ j ∧ j < 1000 ∧ Q (.seq ((List.range (j - i).toNat).map fun (n : Nat) => .int (i + n))) h2) : Okx X (evI C (.rng2 a b) l h) Q := by
  show Okx X (R.bind _ _) _
  rw [ok_bind]
  refine k.mono fun d h1 ⟨i, e1, i0, i1, q⟩ => ?_
  subst e1
  rw [ok_bind]
  refine q.mono fun d h2 ⟨j, e2, j0, j1, q⟩ => ?_
  subst e2
  show Okx X (srcR (rngOf i j) h2) Q
  unfold rngOf
  rw [if_pos ⟨by omega, by omega, by omega, by omega⟩]
  exact q
theorem w_lc {elt : Ex} {tg : Tg} {it : Itr} {ifs : Op} {own : List Nat} : Okx X (evE C (.lc true elt tg it ifs own) l h) Q ↔ Okx X (evI C it l h) fun src h1 => Okx X (lcLoop tg src (evT1 C ifs) (evE C elt) (wipeP l own) (srcLen h1 src + 1) 0 [] h1) fun ds h2 => Q (.fl ds) h2 := by
  show Okx X (R.bind _ _) _ ↔ _
  simp only [ok_bind, ok_lift]; exact Iff.rfl
theorem w_lch {elt : Ex} {tg : Tg} {it : Itr} {ifs : Op} {own : List Nat} : Okx X (evE C (.lc false elt tg it ifs own) l h) Q ↔ Okx X (evI C it l h) fun src h1 => Okx X (lcLoop tg src (evT1 C ifs) (evE C elt) (wipeP l own) (srcLen h1 src + 1) 0 [] h1) fun ds h2 => Q (.ref h2.length) (h2 ++ [.lst ds]) := by
  show Okx X (R.bind _ _) _ ↔ _
  simp only [ok_bind, ok_lift]; exact Iff.rfl
theorem x_met {m : Nat} {e : Ex} {hs : List (Nat × Hx)} {bk : Bk} (em : C.ct.met m = some (hs, bk)) (k : Okx (fun c fs h1 => ∃ k, c = .gl k ∧ Okx X (metGo C.ct k fs h1 hs) Q) (evE C e l h) fun d h1 => Q (bkV bk d) h1) : Okx X (evE C (.met m e) l h) Q := by
  show Okx X (metF C.ct m (evE C e l h)) Q
  unfold metF
  rw [em]
  revert k
  cases evE C e l h with
  | ok d h1 => exact id
  | exc c fs h1 => rintro ⟨k, rfl, q⟩; exact q
  | stuck => exact id
theorem w_for {t : Tg} {it : Itr} {b : Sxs} : OkSx X (exS C (.for_ t it b) l h) N T ↔ Okx X (evI C it l h) fun src h1 => OkSx X (forLoop t src (exSs C b) (srcLen h1 src + 1) 0 l h1) N T := by
  show OkSx X (R.toS _ _ _) _ _ ↔ _
  rw [okS_to]
theorem w_tno {Q : Bool → PHeap → Prop} : Okx X (evT1 C .no l h) Q ↔ Q true h := Iff.rfl
theorem w_tyes {e : Ex} {Q : Bool → PHeap → Prop} : Okx X (evT1 C (.yes e) l h) Q ↔ Okx X (evE C e l h) fun d h1 => OkO (truthF h1 d) fun b => Q b h1 := by
  show Okx X (truthR _) _ ↔ _
  rw [ok_truth]
/-- the turns of a comprehension -/
theorem ok_lc {tg : Tg} {src : Src} {tt : Loc → PHeap → R Bool} {el : Loc → PHeap → R PV} {lw : Loc} {ds : List PV} (P : Nat → List PV → PHeap → Prop) (hz : ds.length ≤ 1000)
    (hs : ∀ i acc h, P i acc h → srcAt h i src = some ds[i]?)
    (st : ∀ i d acc h, ds[i]? = some d → P i acc h → OkO (bindT tg d lw) fun l => Ok (tt l h) fun b h1 => (b = false → P (i + 1) acc h1) ∧ (b = true → Ok (el l h1) fun y h2 => P (i + 1) (acc ++ [y]) h2)) :
    ∀ (n i : Nat) (acc : List PV) (h : PHeap), n + i = ds.length + 1 → i ≤ ds.length → acc.length ≤ i → P i acc h → Okx X (lcLoop tg src tt el lw n i acc h) fun acc h' => P ds.length acc h' := by
  intro n
  induction n with
  | zero => intro i acc h e hi; omega
  | succ n ih =>
    intro i acc h e hi hl p
    unfold lcLoop
    rw [hs i acc h p]
    by_cases q : i < ds.length
    · rw [List.getElem?_eq_getElem q]
      have s := st i ds[i] acc h (List.getElem?_eq_getElem q) p
      dsimp only
      revert s
      cases bindT tg ds[i] lw with
      | none => exact False.elim
      | some l =>
        intro s
        obtain ⟨b, h1, e1, k1, k2⟩ := Ok.get (r := tt l h) s
        dsimp only
        rw [e1]
        cases b with
        | false => exact ih (i + 1) acc h1 (by omega) q (by omega) (k1 rfl)
        | true =>
          obtain ⟨y, h2, e2, k⟩ := (k2 rfl).get
          dsimp only
          rw [e2]
          dsimp only
          rw [if_pos (Nat.lt_of_lt_of_le (by omega : acc.length < 1000) (line_of (Nat.le_refl _)))]
          exact ih (i + 1) (acc ++ [y]) h2 (by omega) q (by rw [List.length_append]; simp; omega) k
    · obtain rfl : i = ds.length := by omega
      rw [List.getElem?_eq_none (Nat.le_refl _)]
      exact p
/-- the turns of a for -/
theorem ok_for {tg : Tg} {src : Src} {body : Loc → PHeap → RS} {ds : List PV} (P : Nat → Loc → PHeap → Prop)
    (hs : ∀ i l h, P i l h → srcAt h i src = some ds[i]?)
    (st : ∀ i d l h, ds[i]? = some d → P i l h → OkO (bindT tg d l) fun l1 => OkSx X (body l1 h) (fun l2 h2 => P (i + 1) l2 h2) T) (pn : ∀ l h, P ds.length l h → N l h) :
    ∀ (n i : Nat) (l : Loc) (h : PHeap), n + i = ds.length + 1 → i ≤ ds.length → P i l h → OkSx X (forLoop tg src body n i l h) N T := by
  intro n
  induction n with
  | zero => intro i l h e hi; omega
  | succ n ih =>
    intro i l h e hi p
    unfold forLoop
    rw [hs i l h p]
    by_cases q : i < ds.length
    · rw [List.getElem?_eq_getElem q]
      have s := st i ds[i] l h (List.getElem?_eq_getElem q) p
      dsimp only
      revert s
      cases bindT tg ds[i] l with
      | none => exact False.elim
      | some l1 =>
        intro s
        have s : OkSx X (body l1 h) (fun l2 h2 => P (i + 1) l2 h2) T := s
        revert s
        dsimp only
        cases body l1 h with
        | nx l2 h2 => intro s; exact ih (i + 1) l2 h2 (by omega) q s
        | rt d h2 => exact id
        | bk => exact False.elim
        | ct => exact False.elim
        | exc => exact id
        | stuck => exact False.elim
    · obtain rfl : i = ds.length := by omega
      rw [List.getElem?_eq_none (Nat.le_refl _)]
      exact pn l h p
end
section
variable {h : PHeap}
theorem okP_lenT {ds : List PV} {Q : PV → PHeap → Prop} (q : Q (.int ds.length) h) : OkP (bltF .len [.tup ds] h) Q := okP_of rfl q
theorem okO_get0 {d : PV} {r : List PV} {Q : PV → Prop} (q : Q d) : OkO (getF (.tup (d :: r)) (.int 0) h) Q := okO_of (show atI (d :: r) 0 = some d by simp [atI, ixN]) q
theorem okO_get1 {d e : PV} {r : List PV} {Q : PV → Prop} (q : Q e) : OkO (getF (.tup (d :: e :: r)) (.int 1) h) Q := okO_of (show atI (d :: e :: r) 1 = some e by
  unfold atI ixN
  rw [if_pos (by decide), if_pos (by simp only [List.length_cons]; omega)]; rfl) q
theorem okO_get2 {d e g : PV} {r : List PV} {Q : PV → Prop} (q : Q g) : OkO (getF (.tup (d :: e :: g :: r)) (.int 2) h) Q := okO_of (show atI (d :: e :: g :: r) 2 = some g by
  unfold atI ixN
  rw [if_pos (by decide), if_pos (by simp only [List.length_cons]; omega)]; rfl) q
end
theorem for_step {tg : Tg} {src : Src} {body : Loc → PHeap → RS} {n i : Nat} {l : Loc} {h : PHeap} {d : PV} {N : Loc → PHeap → Prop} {T : PV → PHeap → Prop} {X : XP} (hs : srcAt h i src = some (some d))
    (k : OkO (bindT tg d l) fun l1 => OkSx X (body l1 h) (fun l2 h2 => OkSx X (forLoop tg src body n (i + 1) l2 h2) N T) T) : OkSx X (forLoop tg src body (n + 1) i l h) N T := by
  unfold forLoop
  rw [hs]
  dsimp only
  revert k
  cases bindT tg d l with
  | none => exact False.elim
  | some l1 =>
    intro k
    have k : OkSx X (body l1 h) (fun l2 h2 => OkSx X (forLoop tg src body n (i + 1) l2 h2) N T) T := k
    revert k
    dsimp only
    cases body l1 h <;> first | exact id | exact False.elim
theorem for_end {tg : Tg} {src : Src} {body : Loc → PHeap → RS} {n i : Nat} {l : Loc} {h : PHeap} {N : Loc → PHeap → Prop} {T : PV → PHeap → Prop} {X : XP} (hs : srcAt h i src = some none) (k : N l h) : OkSx X (forLoop tg src body (n + 1) i l h) N T := by
  unfold forLoop
  rw [hs]
  exact k
theorem okO_seq {h : PHeap} {i : Nat} {ds : List PV} {Q : List PV → Prop} (e : h[i]? = some (.lst ds)) (q : Q ds) : OkO (seqOf h (.ref i)) Q := okO_of (show seqOf h (.ref i) = some ds by simp only [seqOf, lstOf, objOf, e]) q
theorem set_new {h : PHeap} {o o' : PObj} : (h ++ [o]).set h.length o' = h ++ [o'] := by
  rw [List.set_append_right _ _ (Nat.le_refl _), Nat.sub_self]; rfl
theorem up1 {N a : Nat} (k : a + 1 ≤ N) : ∃ n, N = n + 1 := ⟨N - 1, by omega⟩
theorem mapO_len {α β : Type} {f : α → Option β} : ∀ {xs : List α} {ys : List β}, mapO f xs = some ys → ys.length = xs.length
  | [], _, e => by simp only [mapO] at e; cases e; rfl
  | x :: xs, _, e => by
    obtain ⟨b, bs, e1, e2, rfl⟩ := mapO_cons e
    simp [mapO_len e2]
theorem lstOf_fl {h : PHeap} {xs : List PV} : lstOf h (.fl xs) = some xs := rfl
theorem eqG_nil {h : PHeap} {n : Nat} {v : PV} {xs : List PV} (e : lstOf h v = some xs) : eqG h (n + 1) v (.fl []) = some xs.isEmpty := by
  unfold eqG
  have nf : (flatP v && flatP (.fl [])) = false := by cases v <;> rfl
  rw [if_neg (by rw [nf]; decide)]
  cases v with
  | tup ds => simp [lstOf, objOf] at e
  | _ =>
    dsimp only
    rw [e, lstOf_fl]
    dsimp only
    cases xs with
    | nil => rfl
    | cons x r => rfl
theorem toD_lst {h : PHeap} {n : Nat} {v : PV} {xs : List PV} {d : PyData} (e : lstOf h v = some xs) (t : toD h (n + 1) v = some d) : ∃ ys, mapO (toD h n) xs = some ys ∧ d = .list ys := by
  cases v <;> simp only [lstOf, objOf] at e <;> first | (cases e; done) | skip
  · rename_i o
    cases o <;> first | (cases e; done) | skip
    cases e
    simp only [toD] at t
    obtain ⟨ys, e1, rfl⟩ := omap t
    exact ⟨ys, e1, rfl⟩
  · rename_i i
    simp only [toD] at t
    cases hi : h[i]? with
    | none => rw [hi] at e; cases e
    | some o =>
      rw [hi] at e t
      cases o <;> first | (cases e; done) | skip
      cases e
      obtain ⟨ys, e1, rfl⟩ := omap t
      exact ⟨ys, e1, rfl⟩
/-- a list against the empty one -/
theorem eq_nil {h : PHeap} {v : PV} {xs : List PV} (e : lstOf h v = some xs) : eqF h v (.fl []) = some xs.isEmpty := by
  have nt : ∀ ds, v ≠ .tup ds := fun ds z => by subst z; simp [lstOf, objOf] at e
  unfold eqF
  split
  · rename_i b hb
    unfold eqD at hb
    split at hb
    · rename_i p q h1 h2
      split at hb
      · cases hb
        obtain ⟨ys, e1, rfl⟩ := toD_lst e h1
        obtain ⟨zs, e2, rfl⟩ := toD_lst lstOf_fl h2
        simp only [mapO] at e2
        cases e2
        have := mapO_len e1
        cases ys with
        | nil => cases xs with
          | nil => simp [PyData.eqv, PyData.eqvAll]
          | cons => simp at this
        | cons => cases xs with
          | nil => simp at this
          | cons => simp [PyData.eqv, PyData.eqvAll]
      · cases hb
    · cases hb
  · cases v with
    | tup ds => exact absurd rfl (nt ds)
    | _ => exact (if_neg (by simp [flatP])).trans (eqG_nil e)
theorem okO_eq_nil {h : PHeap} {v : PV} {xs : List PV} {Q : Bool → Prop} (e : lstOf h v = some xs) (q : Q xs.isEmpty) : OkO (cmpB .eq h v (.fl [])) Q := okO_of (eq_nil e) q
theorem okO_eq_nilF {h : PHeap} {xs : List PV} {Q : Bool → Prop} (q : Q xs.isEmpty) : OkO (cmpB .eq h (.fl xs) (.fl [])) Q := okO_of (eq_nil lstOf_fl) q
theorem cutP_all {ds : List PV} {lo hi : Option Int} (h0 : HT.sIx ds.length 0 lo = 0) (h1 : HT.sIx ds.length ds.length hi = ds.length) : cutP ds lo hi = ds := by
  simp only [cutP, h0, h1, List.drop_zero, Nat.sub_zero, List.take_length]
theorem okP_slcT {h : PHeap} {ds : List PV} {lo hi : Option Int} {Q : PV → PHeap → Prop} (q : Q (.tup (cutP ds lo hi)) h) : OkP (slcF (.tup ds) lo hi h) Q := by
  simp only [slcF]
  split
  · rename_i z
    rw [cutP_all z.1 z.2] at q; exact q
  · exact q
theorem cutP_nat {ds : List PV} {a : Nat} : cutP ds (some (a : Int)) none = ds.drop a := by
  simp only [cutP, HT.sIx_nat, HT.sIx_none]
  rw [List.take_of_length_le (by rw [List.length_drop]; omega)]
  by_cases z : a ≤ ds.length
  · rw [Nat.min_eq_left z]
  · rw [Nat.min_eq_right (by omega), List.drop_of_length_le (Nat.le_refl _), List.drop_of_length_le (by omega)]
theorem cutP_upto {ds : List PV} {a : Nat} : cutP ds none (some (a : Int)) = ds.take a := by
  simp only [cutP, HT.sIx_nat, HT.sIx_none, List.drop_zero, Nat.sub_zero]
  by_cases z : a ≤ ds.length
  · rw [Nat.min_eq_left z]
  · rw [Nat.min_eq_right (by omega), List.take_of_length_le (Nat.le_refl _), List.take_of_length_le (by omega)]
theorem okP_tail {h : PHeap} {d : PV} {r : List PV} {Q : PV → PHeap → Prop} (q : Q (.tup r) h) : OkP (slcF (.tup (d :: r)) (some 1) none h) Q := okP_slcT (by rw [show (1 : Int) = ((1 : Nat) : Int) from rfl, cutP_nat]; exact q)

/-! ### frames -/
def Fr (S : List Nat) (h h' : PHeap) : Prop := h.length ≤ h'.length ∧ ∀ j, j < h.length → j ∉ S → h'[j]? = h[j]?
section
variable {S S' : List Nat} {h h1 h2 : PHeap} {o : PObj} {i j : Nat}
theorem Fr.refl : Fr S h h := ⟨Nat.le_refl _, fun _ _ _ => rfl⟩
theorem Fr.trans (a : Fr S h h1) (b : Fr S h1 h2) : Fr S h h2 := ⟨Nat.le_trans a.1 b.1, fun j hj n => (b.2 j (Nat.lt_of_lt_of_le hj a.1) n).trans (a.2 j hj n)⟩
theorem Fr.mono (a : Fr S h h1) (s : ∀ x ∈ S, x ∈ S') : Fr S' h h1 := ⟨a.1, fun j hj n => a.2 j hj fun z => n (s j z)⟩
theorem Fr.app (x : PHeap) : Fr S h (h ++ x) := ⟨by rw [List.length_append]; omega, fun j hj _ => List.getElem?_append_left hj⟩
theorem Fr.set (hi : i ∈ S) : Fr S h (h.set i o) := ⟨by rw [List.length_set]; exact Nat.le_refl _, fun j hj n => List.getElem?_set_ne fun z : i = j => n (z ▸ hi)⟩
theorem lt_of_get (e : h[j]? = some o) : j < h.length := (List.getElem?_eq_some_iff.mp e).1
theorem Fr.get (a : Fr S h h1) (e : h[j]? = some o) (n : j ∉ S) : h1[j]? = some o := (a.2 j (lt_of_get e) n).trans e
theorem Fr.get0 (a : Fr [] h h1) (e : h[j]? = some o) : h1[j]? = some o := a.get e List.not_mem_nil
/-- what is written beyond h is free to change -/
theorem Fr.drop (a : Fr S h h1) (n : ∀ x ∈ S, h.length ≤ x ∨ x ∈ S') : Fr S' h h1 := ⟨a.1, fun j hj m => a.2 j hj fun z => (n j z).elim (fun q => by omega) m⟩
theorem Fr.len (a : Fr S h h1) : h.length ≤ h1.length := a.1
theorem get_new : (h ++ [o])[h.length]? = some o := by rw [List.getElem?_append_right (Nat.le_refl _), Nat.sub_self]; rfl
theorem okP_len {ds : List PV} {Q : PV → PHeap → Prop} (e : h[j]? = some (.lst ds)) (q : Q (.int ds.length) h) : OkP (bltF .len [.ref j] h) Q := by
  refine okP_of (d := .int ds.length) (h' := h) ?_ q
  show (seqOf h (.ref j)).map _ = _
  simp only [seqOf, lstOf, objOf, e]; rfl
theorem atI_mem {ds : List PV} {r : Int} (h0 : 0 ≤ r) (h1 : r < ds.length) : ∃ d, atI ds r = some d ∧ d ∈ ds ∧ ds[r.toNat]? = some d := by
  unfold atI ixN
  rw [if_pos h0, if_pos h1]
  have hl : r.toNat < ds.length := by omega
  exact ⟨ds[r.toNat], by simp [List.getElem?_eq_getElem hl], List.getElem_mem hl, List.getElem?_eq_getElem hl⟩
end

section
variable {h : PHeap} {i j : Nat} {xs ys : List PV} {v : PV} {Q : PV → PHeap → Prop}
theorem rcv_lst {m : Mi} (e : h[i]? = some (.lst xs)) : rcvOk m (.ref i) h = true := by simp only [rcvOk, e]
theorem okP_app (e : h[i]? = some (.lst xs)) (hl : xs.length < 1000) (q : Q .non (h.set i (.lst (xs ++ [v])))) : OkP (methF .append [.ref i, v] h) Q := by
  refine okP_of ?_ q
  show appP [.ref i, v] h = _
  simp only [appP, e]
  rw [if_pos (Nat.lt_of_lt_of_le hl (line_of (Nat.le_refl _)))]
theorem okP_ext {v : PV} (e : h[i]? = some (.lst xs)) (e' : lstOf h v = some ys) (ne : neRef i v = true) (hl : xs.length + ys.length ≤ 1000) (q : Q .non (h.set i (.lst (xs ++ ys)))) : OkP (methF .extend [.ref i, v] h) Q := by
  refine okP_of ?_ q
  show extP [.ref i, v] h = _
  simp only [extP, e, e']
  rw [if_pos ⟨line_of hl, ne⟩]
end

/-! dicts with nested keys -/
theorem sameK_iff {p : PV} {q k : NestedKey} (h : nkOf p = some q) : sameK p k = decide (q = k) := by
  unfold sameK; rw [h, NestedKey.decide_eq]
theorem find_map (k : NestedKey) (v : PV) (k' : NestedKey) : ∀ kvs : List (PV × PV), dFind (kvs.map fun p => if sameK p.1 k then (p.1, v) else p) k' = if k = k' then (dFind kvs k).map (fun _ => v) else dFind kvs k'
  | [] => by unfold dFind; simp
  | (a, b) :: r => by
    have ih := find_map k v k' r
    unfold dFind at ih ⊢
    rw [List.map_cons, List.find?_cons, List.find?_cons, List.find?_cons]
    by_cases hk : k = k'
    · subst hk
      rw [if_pos rfl] at ih ⊢
      cases z : sameK a k with
      | true => simp [z]
      | false => simp only [z, Bool.false_eq_true, if_false]; exact ih
    · rw [if_neg hk] at ih ⊢
      cases z : sameK a k with
      | true =>
        have z' : sameK a k' = false := by
          unfold sameK at z ⊢
          cases hn : nkOf a with
          | none => rfl
          | some q =>
            rw [hn] at z
            have := NestedKey.eq_of_beq _ _ z
            subst this
            dsimp only
            cases zz : NestedKey.beq q k' with
            | false => rfl
            | true => exact absurd (NestedKey.eq_of_beq _ _ zz) hk
        simp only [z', if_true, Bool.false_eq_true]; exact ih
      | false =>
        simp only [Bool.false_eq_true, if_false]
        cases z' : sameK a k' with
        | true => rfl
        | false => exact ih
theorem find_store {kvs : List (PV × PV)} {k k' : NestedKey} {kp v : PV} (h : nkOf kp = some k) : dFind (dStore kvs k kp v) k' = if k = k' then some v else dFind kvs k' := by
  unfold dStore
  cases z : dFind kvs k with
  | some u =>
    rw [if_pos (show (some u).isSome = true from rfl), find_map, z]; rfl
  | none =>
    rw [if_neg (by simp)]
    unfold dFind at z ⊢
    rw [List.find?_append]
    by_cases hk : k = k'
    · subst hk
      rw [if_pos rfl]
      have : kvs.find? (fun p => sameK p.1 k) = none := by
        cases y : kvs.find? (fun p => sameK p.1 k) with
        | none => rfl
        | some _ => rw [y] at z; cases z
      rw [this]
      simp [List.find?_cons, sameK_iff h]
    · rw [if_neg hk]
      simp [List.find?_cons, sameK_iff h, hk]
theorem store_len {kvs : List (PV × PV)} {k : NestedKey} {kp v : PV} : (dStore kvs k kp v).length ≤ kvs.length + 1 := by
  unfold dStore
  split
  · rw [List.length_map]; omega
  · rw [List.length_append]; exact Nat.le_refl _
theorem store_all {kvs : List (PV × PV)} {k : NestedKey} {kp v : PV} {f : PV → Bool} (hk : f kp = true) (h : kvs.all (fun p => f p.1) = true) : (dStore kvs k kp v).all (fun p => f p.1) = true := by
  unfold dStore
  rw [List.all_eq_true] at h ⊢
  split
  · intro x hx
    obtain ⟨y, hy, rfl⟩ := List.mem_map.mp hx
    split <;> exact h y hy
  · intro x hx
    rcases List.mem_append.mp hx with hx | hx
    · exact h x hx
    · rw [List.mem_singleton.mp hx]; exact hk
section
variable {C : Orc} {ct : Ct} {l : Loc} {h : PHeap} {i : Nat} {Q : PV → PHeap → Prop} {X : XP}
theorem okO_getD {kvs : List (PV × PV)} {k d : PV} {Q : PV → Prop} (e : h[i]? = some (.dic kvs)) (g : dGetF kvs k = some d) (q : Q d) : OkO (getF (.ref i) k h) Q := okO_of ((get_dic e).trans g) q
theorem okO_putD {kvs kvs' : List (PV × PV)} {k v : PV} {Q : PHeap → Prop} (e : h[i]? = some (.dic kvs)) (g : dPutF kvs k v = some kvs') (q : Q (h.set i (.dic kvs'))) : OkO (putF (.ref i) k v h) Q := by
  refine okO_of ?_ q
  simp only [putF, e, g]; rfl
theorem okP_attr {c f : Nat} {fs : List (Nat × PV)} {d : PV} (e : h[i]? = some (.ins c fs)) (o : ownF ct c f = true) (g : fs.lookup f = some d) (q : Q d h) : OkP (attrF ct f [.ref i] h) Q := by
  refine okP_of ?_ q
  simp only [attrF, objOf, e, o, g]; rfl
theorem okP_attrF {c f : Nat} {fs : List (Nat × PV)} {d : PV} (o : ownF ct c f = true) (g : fs.lookup f = some d) (q : Q d h) : OkP (attrF ct f [.fz (.ins c fs)] h) Q := by
  refine okP_of ?_ q
  simp only [attrF, objOf, o, g]; rfl
theorem okO_getDF {kvs : List (PV × PV)} {k d : PV} {Q : PV → Prop} (g : dGetF kvs k = some d) (q : Q d) : OkO (getF (.fz (.dic kvs)) k h) Q := okO_of g q
theorem okO_fld {c f : Nat} {fs : List (Nat × PV)} {v : PV} {Q : PHeap → Prop} (e : h[i]? = some (.ins c fs)) (o : ownF ct c f = true) (g : fs.length < 900) (q : Q (h.set i (.ins c (setFl fs f v)))) : OkO (fldF ct (.ref i) f v h) Q := by
  refine okO_of ?_ q
  simp only [fldF, e, o, decide_eq_true g]; rfl
theorem w_make {c f : Nat} {es : Exs} : Okx X (evE C (.make c f es) l h) Q ↔ Okx X (evA C es l h) fun ds h1 => Okx X (C.call f (.ref h1.length :: ds) (h1 ++ [.ins c []])) fun d h2 => d = .non ∧ Q (.ref h1.length) h2 := by
  show Okx X (R.bind _ _) _ ↔ _
  rw [ok_bind]
  refine iff_of_eq (congrArg _ (funext fun ds => funext fun h1 => propext ?_))
  show Okx X (makeF C.call c f ds h1) Q ↔ _
  unfold makeF
  cases C.call f (.ref h1.length :: ds) (h1 ++ [.ins c []]) with
  | ok d h2 => cases d <;> simp [Okx]
  | exc => exact Iff.rfl
  | stuck => exact Iff.rfl
end
end Zed
end
section
set_option Elab.async false
set_option linter.all false
set_option maxRecDepth 100000
set_option exponentiation.threshold 10000
/-! ZedY: the plain law's tools for pop, reversed slices, methods, classmethods, isinstance, own equality, while, zip. -/
namespace Zed
open PySem L2
section
variable {C : Orc} {l : Loc} {h : PHeap} {Q : PV → PHeap → Prop} {N : Loc → PHeap → Prop} {T : PV → PHeap → Prop} {X : XP}
theorem w_pop {o : Ex} : Okx X (evE C (.pop o) l h) Q ↔ Okx X (evE C o l h) fun x h1 => OkP (popP [x] h1) Q := by
  show Okx X (ev1 _ _ _ _) _ ↔ _
  unfold ev1
  simp only [ok_bind, ok_lift]
theorem w_rev {z : Bool} {o : Ex} : Okx X (evE C (.rev z o) l h) Q ↔ Okx X (evE C o l h) fun x h1 => OkP (revP z [x] h1) Q := by
  show Okx X (ev1 _ _ _ _) _ ↔ _
  unfold ev1
  simp only [ok_bind, ok_lift]
theorem w_isi {es : Exs} : Okx X (evE C (.isi es) l h) Q ↔ Okx X (evA C es l h) fun ds h1 => OkP (isiP C.ct ds h1) Q := by
  show Okx X (R.bind _ _) _ ↔ _
  simp only [ok_bind, ok_lift]
theorem w_mcl {m : Nat} {o : Ex} {es : Exs} : Okx X (evE C (.mcl m o es) l h) Q ↔ Okx X (evE C o l h) fun x h1 => OkO (mthF C.ct h1 x m) fun f => Okx X (evA C es l h1) fun ds h2 => Okx X (C.call f (x :: ds) h2) Q := by
  show Okx X (R.bind _ _) _ ↔ _
  rw [ok_bind]
  refine iff_of_eq (congrArg _ (funext fun x => funext fun h1 => propext ?_))
  cases mthF C.ct h1 x m with
  | none => exact Iff.rfl
  | some f => simp only [OkO, ok_bind]
theorem w_mc0 {m : Nat} {o : Ex} : Okx X (evE C (.mc0 m o) l h) Q ↔ Okx X (evE C o l h) fun x h1 => OkO (mthF C.ct h1 x m) fun f => Okx X (C.call f [x] h1) Q := by
  show Okx X (R.bind _ _) _ ↔ _
  rw [ok_bind]
  refine iff_of_eq (congrArg _ (funext fun x => funext fun h1 => propext ?_))
  cases mthF C.ct h1 x m <;> exact Iff.rfl
theorem w_cmt {c m : Nat} {es : Exs} : Okx X (evE C (.cmt c m es) l h) Q ↔ OkO (C.ct.cmt c m) fun f => Okx X (evA C es l h) fun ds h1 => Okx X (C.call f (.gl c :: ds) h1) Q := by
  show Okx X (match C.ct.cmt c m with | some f => _ | none => _) _ ↔ _
  cases C.ct.cmt c m with
  | none => exact Iff.rfl
  | some f => simp only [OkO, ok_bind]
theorem x_mkl {i c f : Nat} {es : Exs} (e : l[i]? = some (some (.gl c))) (k : Okx X (evA C es l h) fun ds h1 => Okx X (C.call f (.ref h1.length :: ds) (h1 ++ [.ins c []])) fun d h2 => d = .non ∧ Q (.ref h1.length) h2) : Okx X (evE C (.mkl i c f es) l h) Q := by
  have key : Okx X (evE C (.make c f es) l h) Q := w_make.mpr k
  show Okx X (match l[i]? with | some (some (.gl d)) => if d = c then _ else _ | _ => _) Q
  rw [e]
  dsimp only
  rw [if_pos rfl]
  exact key
theorem w_oeq {ne : Bool} {a b : Ex} : Okx X (evE C (.oeq ne a b) l h) Q ↔ Okx X (evE C a l h) fun x h1 => Okx X (evE C b l h1) fun y h2 => Okx X (oeqR C ne x y h2) Q := by
  show Okx X (R.bind _ _) _ ↔ _
  simp only [ok_bind]
theorem x_oeq {ne : Bool} {x y : PV} {c f : Nat} {fs gs : List (Nat × PV)} (e1 : objOf h x = some (.ins c fs)) (e2 : objOf h y = some (.ins c gs)) (sl : C.ct.isSl c = false) (em : C.ct.eqm c = some f)
    (k : Ok (C.call f [x, y] h) fun d h3 => ∃ r : Bool, d = .bl r ∧ Q (.bl (ne != r)) h3) : Okx X (oeqR C ne x y h) Q := by
  have oy : oeqY c h y = true := by unfold oeqY; rw [e2]; simp
  unfold oeqR
  rw [e1]
  dsimp only
  rw [if_pos ⟨sl, oy⟩, em]
  dsimp only
  obtain ⟨d, h3, e, r, rfl, q⟩ := k.get
  rw [e]
  exact q
/-- an instance and a built-in's value -/
theorem x_oeqB {ne : Bool} {x y : PV} {c f : Nat} {fs : List (Nat × PV)} (e1 : objOf h x = some (.ins c fs)) (oy : oeqY c h y = true) (sl : C.ct.isSl c = false) (em : C.ct.eqm c = some f)
    (k : Ok (C.call f [x, y] h) fun d h3 => ∃ r : Bool, d = .bl r ∧ Q (.bl (ne != r)) h3) : Okx X (oeqR C ne x y h) Q := by
  unfold oeqR
  rw [e1]
  dsimp only
  rw [if_pos ⟨sl, oy⟩, em]
  dsimp only
  obtain ⟨d, h3, e, r, rfl, q⟩ := k.get
  rw [e]
  exact q
theorem ok_okR {r : R PV} : Okx X (okR r) Q ↔ Ok r Q := by
  cases r <;> exact Iff.rfl
theorem w_prp {f : Nat} {o : Ex} : Okx X (evE C (.prp f o) l h) Q ↔ Okx X (evE C o l h) fun x h1 => OkO (prpF C.ct h1 x f) fun g => Ok (C.call g [x] h1) Q := by
  show Okx X (R.bind _ _) _ ↔ _
  rw [ok_bind]
  refine iff_of_eq (congrArg _ (funext fun x => funext fun h1 => propext ?_))
  cases prpF C.ct h1 x f with
  | none => exact Iff.rfl
  | some g => exact ok_okR
theorem w_dgt {m : Nat} {o i : Ex} : Okx X (evE C (.dgt m o i) l h) Q ↔ Okx X (evE C o l h) fun x h1 => Okx X (evE C i l h1) fun y h2 => OkO (mthF C.ct h2 x m) fun f => Okx X (C.call f [x, y] h2) Q := by
  show Okx X (R.bind _ _) _ ↔ _
  simp only [ok_bind]
  refine iff_of_eq (congrArg _ (funext fun x => funext fun h1 => congrArg _ (funext fun y => funext fun h2 => propext ?_)))
  cases mthF C.ct h2 x m <;> exact Iff.rfl
theorem w_dln {m : Nat} {o : Ex} : Okx X (evE C (.dln m o) l h) Q ↔ Okx X (evE C o l h) fun x h1 => OkO (mthF C.ct h1 x m) fun f => Ok (C.call f [x] h1) fun d h2 => ∃ n : Int, d = .int n ∧ (0 ≤ n ∧ n < 2 ^ 63) ∧ Q (.int n) h2 := by
  show Okx X (R.bind _ _) _ ↔ _
  rw [ok_bind]
  refine iff_of_eq (congrArg _ (funext fun x => funext fun h1 => propext ?_))
  cases mthF C.ct h1 x m with
  | none => exact Iff.rfl
  | some f =>
    show Okx X (lenR (C.call f [x] h1)) Q ↔ Ok (C.call f [x] h1) _
    cases C.call f [x] h1 with
    | ok d h2 =>
      constructor
      · intro z
        unfold lenR at z
        split at z
        · rename_i n h3 e
          cases e
          split at z
          · rename_i hn; exact ⟨n, rfl, hn, z⟩
          · exact z.elim
        · exact z.elim
      · rintro ⟨n, rfl, hn, q⟩
        show Okx X (if 0 ≤ n ∧ n < 2 ^ 63 then R.ok (.int n) h2 else .stuck) Q
        rw [if_pos hn]; exact q
    | exc c fs h2 => exact Iff.rfl
    | stuck => exact Iff.rfl
theorem w_dst {m : Nat} {o : Ex} : Okx X (evE C (.dst m o) l h) Q ↔ Okx X (evE C o l h) fun x h1 => OkO (mthF C.ct h1 x m) fun f => Ok (C.call f [x] h1) fun d h2 => ∃ y : Str, d = .str y ∧ Q (.str y) h2 := by
  show Okx X (R.bind _ _) _ ↔ _
  rw [ok_bind]
  refine iff_of_eq (congrArg _ (funext fun x => funext fun h1 => propext ?_))
  cases mthF C.ct h1 x m with
  | none => exact Iff.rfl
  | some f =>
    show Okx X (strR (C.call f [x] h1)) Q ↔ Ok (C.call f [x] h1) _
    cases C.call f [x] h1 with
    | ok d h2 =>
      constructor
      · intro z
        unfold strR at z
        split at z
        · rename_i y h3 e
          cases e
          exact ⟨y, rfl, z⟩
        · exact z.elim
      · rintro ⟨y, rfl, q⟩
        exact q
    | exc c fs h2 => exact Iff.rfl
    | stuck => exact Iff.rfl
theorem w_din {m : Nat} {i o : Ex} : Okx X (evE C (.din m i o) l h) Q ↔ Okx X (evE C i l h) fun y h1 => Okx X (evE C o l h1) fun x h2 => OkO (mthF C.ct h2 x m) fun f => Ok (C.call f [x, y] h2) fun d h3 => ∃ b : Bool, d = .bl b ∧ Q (.bl b) h3 := by
  show Okx X (R.bind _ _) _ ↔ _
  simp only [ok_bind]
  refine iff_of_eq (congrArg _ (funext fun y => funext fun h1 => congrArg _ (funext fun x => funext fun h2 => propext ?_)))
  cases mthF C.ct h2 x m with
  | none => exact Iff.rfl
  | some f =>
    show Okx X (blR (C.call f [x, y] h2)) Q ↔ Ok (C.call f [x, y] h2) _
    cases C.call f [x, y] h2 with
    | ok d h2 =>
      constructor
      · intro z
        unfold blR at z
        split at z
        · rename_i b h3 e
          cases e
          exact ⟨b, rfl, z⟩
        · exact z.elim
      · rintro ⟨y, rfl, q⟩
        exact q
    | exc c fs h2 => exact Iff.rfl
    | stuck => exact Iff.rfl
theorem w_sc {elt : Ex} {tg : Tg} {it : Itr} {own : List Nat} : Okx X (evE C (.sc elt tg it own) l h) Q ↔ Okx X (evI C it l h) fun src h1 =>
    Okx X (lcLoop tg src (fun _ h => R.ok true h) (evE C elt) (wipeP l own) (srcLen h1 src + 1) 0 [] h1) fun ds h2 => OkP (setTP ds h2) Q := by
  show Okx X (R.bind _ _) _ ↔ _
  simp only [ok_bind, ok_lift]
theorem w_fst {es : Exs} : Okx X (evE C (.fst es) l h) Q ↔ Ok (evA C es l h) fun ds h1 => OkO (joinP ds Str.empty) fun x => Q (.str x) h1 := by
  show Okx X (joinR (evA C es l h) Str.empty) Q ↔ _
  cases evA C es l h with
  | ok ds h1 =>
    show Okx X (match joinP ds Str.empty with | some x => R.ok (.str x) h1 | none => .stuck) Q ↔ OkO (joinP ds Str.empty) _
    cases joinP ds Str.empty <;> exact Iff.rfl
  | exc c fs h1 => exact Iff.rfl
  | stuck => exact Iff.rfl
theorem w_tm {k : TxM} {o e : Ex} : Okx X (evE C (.tm k o e) l h) Q ↔ Okx X (evE C o l h) fun x h1 => ∃ a, x = .str a ∧ Okx X (evE C e l h1) fun y h2 => OkP (tmF k a y h2) Q := by
  show Okx X (R.bind _ _) _ ↔ _
  rw [ok_bind]
  refine iff_of_eq (congrArg _ (funext fun x => funext fun h1 => propext ?_))
  cases x with
  | str a =>
    show Okx X (R.bind _ _) _ ↔ _
    simp only [ok_bind, ok_lift]
    exact ⟨fun q => ⟨a, rfl, q⟩, fun ⟨a', e, q⟩ => by cases e; exact q⟩
  | _ => exact ⟨fun q => q.elim, fun ⟨a', e, q⟩ => by cases e⟩
/-- o.f += e -/
theorem s_augf {o e : Ex} {f : Nat} : OkSx X (exS C (.augf o f e) l h) N T ↔ Okx X (evE C o l h) fun x h1 => OkO (numF C.ct f x h1) fun p => Okx X (evE C e l h1) fun y h2 => ∃ j, y = .int j ∧ OkO (numF C.ct f x h2) fun q => q.1 = p.1 ∧ OkO (fldF C.ct x f (.int (p.2 + j)) h2) fun h4 => N l h4 := by
  show OkSx X (R.toS _ _ _) _ _ ↔ _
  rw [okS_to]
  refine iff_of_eq (congrArg _ (funext fun x => funext fun h1 => propext ?_))
  unfold augK
  cases numF C.ct f x h1 with
  | none => exact Iff.rfl
  | some p =>
    obtain ⟨c, i⟩ := p
    dsimp only [OkO]
    rw [okS_to]
    refine iff_of_eq (congrArg _ (funext fun y => funext fun h2 => propext ?_))
    cases y with
    | int j =>
      dsimp only
      constructor
      · intro q
        refine ⟨j, rfl, ?_⟩
        cases e2 : numF C.ct f x h2 with
        | none => rw [e2] at q; exact q.elim
        | some q2 =>
          obtain ⟨c2, i2⟩ := q2
          rw [e2] at q
          dsimp only at q ⊢
          by_cases ec : c2 = c
          · rw [if_pos ec] at q
            refine ⟨ec, ?_⟩
            revert q
            cases fldF C.ct x f (.int (i + j)) h2 <;> exact id
          · rw [if_neg ec] at q; exact q.elim
      · rintro ⟨j', e, q⟩
        cases e
        revert q
        cases e2 : numF C.ct f x h2 with
        | none => exact id
        | some q2 =>
          obtain ⟨c2, i2⟩ := q2
          rintro ⟨ec, q⟩
          dsimp only at ec q ⊢
          rw [if_pos ec]
          revert q
          cases fldF C.ct x f (.int (i + j)) h2 <;> exact id
    | _ => exact ⟨fun q => q.elim, fun ⟨j', e, q⟩ => by cases e⟩
theorem w_enm {e : Ex} {Q : Src → PHeap → Prop} : Okx X (evI C (.enm e) l h) Q ↔ Okx X (evE C e l h) fun d h1 => OkO (enmP d) fun s => Q s h1 := by
  show Okx X (R.bind _ _) _ ↔ _
  rw [ok_bind]
  refine iff_of_eq (congrArg _ (funext fun d => funext fun h1 => propext ?_))
  show Okx X (srcR (enmP d) h1) Q ↔ _
  cases enmP d <;> exact Iff.rfl
theorem w_zp {a b : Ex} {Q : Src → PHeap → Prop} : Okx X (evI C (.zp a b) l h) Q ↔ Okx X (evE C a l h) fun d h1 => Okx X (evE C b l h1) fun e h2 => OkO (zipP d e) fun s => Q s h2 := by
  show Okx X (R.bind _ _) _ ↔ _
  simp only [ok_bind]
  refine iff_of_eq (congrArg _ (funext fun d => funext fun h1 => congrArg _ (funext fun e => funext fun h2 => propext ?_)))
  show Okx X (srcR (zipP d e) h2) Q ↔ _
  cases zipP d e <;> exact Iff.rfl
theorem okP_pop {i : Nat} {xs : List PV} {y : PV} (e : h[i]? = some (.lst (xs ++ [y]))) (q : Q y (h.set i (.lst xs))) : OkP (popP [.ref i] h) Q := by
  refine okP_of ?_ q
  simp only [popP, e]
  rw [show (xs ++ [y])[(xs ++ [y]).length - 1]? = some y by rw [List.length_append]; simp]
  simp
theorem okP_popi {i : Nat} {k : Int} {xs : List PV} {y : PV} (e : h[i]? = some (.lst xs)) (k0 : 0 ≤ k) (k1 : k < 1000) (hy : xs[k.toNat]? = some y) (q : Q y (h.set i (.lst (xs.eraseIdx k.toNat)))) : OkP (methF .pop [.ref i, .int k] h) Q := by
  refine okP_of ?_ q
  show popiP [.ref i, .int k] h = _
  simp only [popiP, e]
  rw [if_pos ⟨k0, by omega⟩, hy]
theorem okP_rev {v : PV} {xs : List PV} (e : lstOf h v = some xs) (q : Q (.fl xs.reverse) h) : OkP (revP true [v] h) Q := by
  refine okP_of ?_ q
  show (lstOf h v).map _ = _
  rw [e]; rfl
/-- while: P holds at each turn's start, the measure falls -/
theorem ok_whl {c : Ex} {b : Sxs} (P : Nat → Loc → PHeap → Prop)
    (st : ∀ m l h, P m l h → Okx X (evE C c l h) fun d h1 => OkO (truthF h1 d) fun k => (k = true → OkSx X (exSs C b l h1) (fun l2 h2 => ∃ m2, m2 < m ∧ P m2 l2 h2) T) ∧ (k = false → N l h1)) {m : Nat} (hm : m < 1000) (p : P m l h) : OkSx X (exS C (.whl c b) l h) N T := by
  have key : ∀ (n m : Nat) (l : Loc) (h : PHeap), m < n → P m l h → OkSx X (whlLoop (fun l h => truthR (evE C c l h)) (exSs C b) n l h) N T := by
    intro n
    induction n with
    | zero => intro m l h hm; omega
    | succ n ih =>
      intro m l h hm p
      unfold whlLoop
      rw [okS_to, ok_truth]
      refine (st m l h p).mono fun d h1 z => ?_
      revert z
      cases truthF h1 d with
      | none => exact id
      | some k =>
        intro z
        cases k with
        | false => exact z.2 rfl
        | true =>
          have z := z.1 rfl
          show OkSx X (match exSs C b l h1 with | .nx l2 h2 => _ | .ct l2 h2 => _ | .bk l2 h2 => _ | .rt d h2 => _ | .exc c fs l2 h2 => _ | .stuck => _) N T
          revert z
          cases exSs C b l h1 with
          | nx l2 h2 => rintro ⟨m2, k2, p2⟩; exact ih m2 l2 h2 (by omega) p2
          | bk => exact False.elim
          | ct => exact False.elim
          | rt => exact id
          | exc => exact id
          | stuck => exact id
  exact key 1000000 m l h (by omega) p
end
end Zed
end
open PySem L2 Zed
local macro_rules | `(tactic| walk_at "z1") => `(tactic| first | with_reducible refine s_cons.mpr ?_ | with_reducible refine w_val.mpr ?_ | with_reducible refine w_lc.mpr ?_ | with_reducible refine w_lch.mpr ?_ | with_reducible refine w_for.mpr ?_ | with_reducible refine w_tno.mpr ?_ | with_reducible refine w_tyes.mpr ?_ | with_reducible refine s_nil.mpr ?_ | with_reducible refine s_rai.mpr ?_ | with_reducible refine s_asg.mpr ?_ | with_reducible refine s_put.mpr ?_ | with_reducible refine s_fld.mpr ?_ | with_reducible refine s_ret.mpr ?_ | with_reducible refine s_ret0.mpr ?_ | with_reducible refine s_iff.mpr ?_ | with_reducible refine s_ex.mpr ?_ | with_reducible refine w_con.mpr ?_ | with_reducible refine w_bin.mpr ?_ | with_reducible refine w_cmp.mpr ?_ | with_reducible refine w_sub.mpr ?_ | with_reducible refine w_not.mpr ?_ | with_reducible refine w_and.mpr ?_ | with_reducible refine w_or.mpr ?_ | with_reducible refine w_ite.mpr ?_ | with_reducible refine w_chn.mpr ?_ | with_reducible refine w_tup.mpr ?_ | with_reducible refine w_lst.mpr ?_ | with_reducible refine w_lsh.mpr ?_ | with_reducible refine w_call.mpr ?_ | with_reducible refine w_blt.mpr ?_ | with_reducible refine w_attr.mpr ?_ | with_reducible refine w_dic0.mpr ?_ | with_reducible refine w_dich.mpr ?_ | with_reducible refine w_meth.mpr ?_ | with_reducible refine w_slc.mpr ?_ | with_reducible refine w_ono.mpr ?_ | with_reducible refine w_oyes.mpr ?_ | with_reducible refine w_nil.mpr ?_ | with_reducible refine w_cons.mpr ?_ | with_reducible refine w_star.mpr ?_ | ((with_reducible apply x_loc); first | rfl | assumption) | ((with_reducible refine okO_bind ?_ ?_); exact Nat.le_of_ble_eq_true rfl; dsimp only [List.set]) | with_reducible refine okO_bl ?_ | with_reducible refine okO_some ?_ )
local macro_rules | `(tactic| walk_at "zz") => `(tactic| repeat (first | walk_at "z1" | ((with_reducible refine okO_eqs ?_ ?_ ?_); (first | assumption | decide +kernel); (first | assumption | decide +kernel)) | ((with_reducible refine okO_nes ?_ ?_ ?_); (first | assumption | decide +kernel); (first | assumption | decide +kernel)) | ((with_reducible refine br_t ?_ ?_); first | rfl | assumption) | ((with_reducible refine br_f ?_ ?_); first | rfl | assumption) | ((with_reducible refine okL ?_ ?_); exact Nat.le_of_ble_eq_true rfl) | ((with_reducible apply okO_get); assumption; rfl) | ((with_reducible apply okO_put); assumption; rfl; try dsimp only [Int.reduceToNat, List.set]) | ((with_reducible apply okP_of); rfl) | ((with_reducible apply okO_of); rfl)))
local macro_rules | `(tactic| walk_at "zs") => `(tactic| (first | (with_reducible refine x_rng1 ?_) | (with_reducible refine x_rng2 ?_) | walk_at "z1" | (with_reducible refine okO_get0 ?_) | (with_reducible refine okO_get1 ?_) | (with_reducible refine okO_get2 ?_) | (with_reducible refine okP_tail ?_) | (with_reducible refine okO_eq_nilF ?_) | ((with_reducible refine okO_eqs ?_ ?_ ?_); (first | assumption | decide +kernel); (first | assumption | decide +kernel)) | ((with_reducible refine okO_nes ?_ ?_ ?_); (first | assumption | decide +kernel); (first | assumption | decide +kernel)) | ((with_reducible refine br_t ?_ ?_); first | rfl | assumption) | ((with_reducible refine br_f ?_ ?_); first | rfl | assumption) | ((with_reducible refine okL ?_ ?_); exact Nat.le_of_ble_eq_true rfl) | ((with_reducible apply okO_get); assumption; rfl) | ((with_reducible apply okO_put); assumption; rfl; try dsimp only [Int.reduceToNat, List.set]) | ((with_reducible apply okP_of); rfl) | ((with_reducible apply okO_of); rfl)))
local macro_rules | `(tactic| walk_at "zy") => `(tactic| repeat walk_at "zs")
local macro_rules | `(tactic| walk_at "z2") => `(tactic| first | with_reducible refine w_pop.mpr ?_ | with_reducible refine w_rev.mpr ?_ | with_reducible refine w_isi.mpr ?_ | with_reducible refine w_mcl.mpr ?_ | with_reducible refine w_mc0.mpr ?_ | with_reducible refine w_cmt.mpr ?_ | with_reducible refine w_oeq.mpr ?_ | with_reducible refine w_enm.mpr ?_ | with_reducible refine w_zp.mpr ?_ | with_reducible refine w_make.mpr ?_ | with_reducible refine w_prp.mpr ?_ | with_reducible refine w_dgt.mpr ?_ | with_reducible refine w_dln.mpr ?_ | with_reducible refine w_dst.mpr ?_ | with_reducible refine w_din.mpr ?_ | with_reducible refine w_sc.mpr ?_ | with_reducible refine w_fst.mpr ?_ | with_reducible refine w_tm.mpr ?_ | with_reducible refine s_augf.mpr ?_ | (refine s_raf rfl ?_))
local macro_rules | `(tactic| walk_at "zw") => `(tactic| repeat (first | walk_at "zs" | walk_at "z2"))
section
set_option Elab.async false
set_option linter.all false
set_option maxRecDepth 100000
set_option maxHeartbeats 1000000
set_option exponentiation.threshold 10000
namespace Zed
/-! ### tuples compared: flat as far as both go -/
open PySem L2
theorem toD_flat {h : PHeap} {n : Nat} {d : PV} {x : PyData} (f : flatP d = true) (e : toD h n d = some x) : (d = .non ∧ x = .none) ∨ (∃ b, d = .bl b ∧ x = .bool b) ∨ (∃ i, d = .int i ∧ x = .int i) ∨ ∃ s, d = .str s ∧ x = .str s := by
  cases d <;> simp only [flatP] at f <;> first | (cases f; done) | skip
  all_goals (cases n <;> simp only [toD, Option.some.injEq] at e <;> subst e <;> simp)
theorem eqv_flat {h : PHeap} {n : Nat} {d e : PV} {x y : PyData} (f : flatP d = true) (g : flatP e = true) (e1 : toD h n d = some x) (e2 : toD h n e = some y) : PyData.eqv x y = eqP d e := by
  rcases toD_flat f e1 with ⟨rfl, rfl⟩ | ⟨b, rfl, rfl⟩ | ⟨i, rfl, rfl⟩ | ⟨s, rfl, rfl⟩ <;> rcases toD_flat g e2 with ⟨rfl, rfl⟩ | ⟨b', rfl, rfl⟩ | ⟨i', rfl, rfl⟩ | ⟨s', rfl, rfl⟩ <;> simp [PyData.eqv, eqP]
theorem eqTup_eqv {h : PHeap} {n : Nat} : ∀ {ds es : List PV} {xs ys : List PyData} {b : Bool}, mapO (toD h n) ds = some xs → mapO (toD h n) es = some ys → eqTup ds es = some b → PyData.eqvAll xs ys = b
  | [], [], _, _, _, e1, e2, e => by simp only [mapO] at e1 e2; cases e1; cases e2; simp only [eqTup] at e; cases e; simp [PyData.eqvAll]
  | [], _ :: _, _, _, _, e1, e2, e => by
    obtain ⟨_, _, _, _, rfl⟩ := mapO_cons e2
    simp only [mapO] at e1; cases e1; simp only [eqTup] at e; cases e; simp [PyData.eqvAll]
  | _ :: _, [], _, _, _, e1, e2, e => by
    obtain ⟨_, _, _, _, rfl⟩ := mapO_cons e1
    simp only [mapO] at e2; cases e2; simp only [eqTup] at e; cases e; simp [PyData.eqvAll]
  | d :: ds, c :: es, _, _, b, e1, e2, e => by
    obtain ⟨x, xs, p1, p2, rfl⟩ := mapO_cons e1
    obtain ⟨y, ys, q1, q2, rfl⟩ := mapO_cons e2
    simp only [eqTup] at e
    split at e
    · rename_i f
      rw [Bool.and_eq_true] at f
      obtain ⟨b', r1, r2⟩ := omap e
      subst r2
      simp only [PyData.eqvAll, eqv_flat f.1 f.2 p1 q1, eqTup_eqv p2 q2 r1]
    · cases e
theorem eq_tup {h : PHeap} {ds es : List PV} {b : Bool} (e : eqTup ds es = some b) : eqF h (.tup ds) (.tup es) = some b := by
  unfold eqF
  split
  · rename_i b' hb
    unfold eqD at hb
    split at hb
    · rename_i x y h1 h2
      split at hb
      · cases hb
        simp only [toD] at h1 h2
        obtain ⟨xs, p1, rfl⟩ := omap h1
        obtain ⟨ys, p2, rfl⟩ := omap h2
        simp only [PyData.eqv, eqTup_eqv p1 p2 e]
      · cases hb
    · cases hb
  · dsimp only; rw [e]
theorem okO_eqt {h : PHeap} {ds es : List PV} {b : Bool} {Q : Bool → Prop} (e : eqTup ds es = some b) (q : Q b) : OkO (cmpB .eq h (.tup ds) (.tup es)) Q := okO_of (eq_tup e) q
theorem eqD_int {h : PHeap} {i j : Int} : eqD h (.int i) (.int j) = some (i == j) := by
  unfold eqD
  show (if SeqAt.shaped (.int i) = true ∧ SeqAt.shaped (.int j) = true then some (PyData.eqv (.int i) (.int j)) else none) = _
  rw [if_pos ⟨rfl, rfl⟩]
  simp only [PyData.eqv]
theorem okO_eqi {h : PHeap} {i j : Int} {Q : Bool → Prop} (q : Q (i == j)) : OkO (cmpB .eq h (.int i) (.int j)) Q := okO_of (show eqF h (.int i) (.int j) = some (i == j) by unfold eqF; rw [eqD_int]) q
theorem okO_nei {h : PHeap} {i j : Int} {Q : Bool → Prop} (q : Q (!(i == j))) : OkO (cmpB .ne h (.int i) (.int j)) Q := okO_of (show (eqD h (.int i) (.int j)).map _ = some (!(i == j)) by rw [eqD_int]; rfl) q
end Zed
end
section
set_option Elab.async false
set_option linter.all false
set_option maxRecDepth 100000
set_option maxHeartbeats 0
namespace Zed
namespace Law
open PySem L2
def top (i : Nat) : Stmt := PySem.Challenge.pw_depthmarks_k03_nodes_that_are_no_documen.main.body.getD i (.Pass ⟨0, 0, 0, 0⟩)
def inn (i j : Nat) : Stmt := match top i with
  | .ClassDef _ _ _ b _ _ _ _ _ _ _ => b.getD j (.Pass ⟨0, 0, 0, 0⟩)
  | _ => .Pass ⟨0, 0, 0, 0⟩
def f_wall : Fd := ⟨1, 1, (.cons (.whl (.con (.bl true))
  (.cons .pass
  .nil))
  .nil), true⟩
def f_is_index : Fd := ⟨2, 2, (.cons (.ret (.and (.blt .isinstance (.cons (.loc 0) (.cons (.con (.ty "int")) .nil))) (.and (.not (.blt .isinstance (.cons (.loc 0) (.cons (.con (.ty "bool")) .nil)))) (.chn .le .lt (.con (.int 0)) (.loc 0) (.loc 1)))))
  .nil), true⟩
def f_is_name : Fd := ⟨1, 2, (.cons (.iff (.or (.not (.blt .isinstance (.cons (.loc 0) (.cons (.con (.ty "str")) .nil)))) (.not (.chn .le .le (.con (.int 1)) (.blt .len (.cons (.loc 0) .nil)) (.con (.int 8)))))
  (.cons (.ret (.con (.bl false)))
  .nil)
  .nil)
  (.cons (.ret (.blt .all (.cons (.lc true (.chn .le .le (.con (.str "a")) (.loc 1) (.con (.str "z"))) (.nm 1) (.val (.loc 0)) .no [1]) .nil)))
  .nil)), true⟩
def f_is_node : Fd := ⟨1, 1, (.cons (.iff (.or (.not (.blt .isinstance (.cons (.loc 0) (.cons (.con (.ty "tuple")) .nil)))) (.or (.cmp .ne (.blt .len (.cons (.loc 0) .nil)) (.con (.int 2))) (.not (.call 1 (.cons (.sub (.loc 0) (.con (.int 0))) .nil)))))
  (.cons (.ret (.con (.bl false)))
  .nil)
  .nil)
  (.cons (.ret (.and (.blt .isinstance (.cons (.sub (.loc 0) (.con (.int 1))) (.cons (.con (.ty "int")) .nil))) (.not (.blt .isinstance (.cons (.sub (.loc 0) (.con (.int 1))) (.cons (.con (.ty "bool")) .nil))))))
  .nil)), true⟩
def f_are_depths : Fd := ⟨1, 3, (.cons (.ret (.and (.cmp .eq (.sub (.loc 0) (.con (.int 0))) (.con (.int 1))) (.blt .all (.cons (.lc true (.chn .le .le (.con (.int 2)) (.loc 2) (.bin .add (.loc 1) (.con (.int 1)))) (.tp (.cons (.nm 1) (.cons (.nm 2) .nil))) (.zp (.loc 0) (.slc (.loc 0) (.yes (.con (.int 1))) .no)) .no [1, 2]) .nil))))
  .nil), true⟩
def f_checked : Fd := ⟨1, 4, (.cons (.iff (.or (.not (.blt .isinstance (.cons (.loc 0) (.cons (.con (.ty "tuple")) .nil)))) (.not (.chn .le .le (.con (.int 1)) (.blt .len (.cons (.loc 0) .nil)) (.con (.int 40)))))
  (.cons (.rai 39 "a tuple of one to forty nodes is expected")
  .nil)
  .nil)
  (.cons (.iff (.or (.not (.blt .all (.cons (.lc true (.call 44 (.cons (.loc 1) .nil)) (.nm 1) (.val (.loc 0)) .no [1]) .nil))) (.not (.call 43 (.cons (.lc true (.loc 3) (.tp (.cons (.nm 2) (.cons (.nm 3) .nil))) (.val (.loc 0)) .no [2, 3]) .nil))))
  (.cons (.rai 39 "nodes of a tree are expected")
  .nil)
  .nil)
  (.cons (.ret (.make 45 46 (.cons (.loc 0) .nil)))
  .nil))), true⟩
def f_ways_in : Fd := ⟨1, 5, (.cons (.asg (.nm 1) (.lst false .nil))
  (.cons (.asg (.nm 2) (.tup .nil))
  (.cons (.for_ (.tp (.cons (.nm 3) (.cons (.nm 4) .nil))) (.val (.loc 0))
  (.cons (.asg (.nm 2) (.tup (.star (.slc (.loc 2) .no (.yes (.bin .sub (.loc 4) (.con (.int 1))))) (.cons (.loc 3) .nil))))
  (.cons (.ex (.meth .append (.loc 1) (.cons (.loc 2) .nil)))
  .nil)))
  (.cons (.ret (.loc 1))
  .nil)))), true⟩
def f_closings_in : Fd := ⟨1, 6, (.cons (.asg (.nm 1) (.lst false .nil))
  (.cons (.asg (.nm 2) (.lst false .nil))
  (.cons (.for_ (.tp (.cons (.nm 3) (.cons (.tp (.cons (.nm 4) (.cons (.nm 5) .nil))) .nil))) (.enm (.loc 0))
  (.cons (.whl (.cmp .ge (.blt .len (.cons (.loc 2) .nil)) (.loc 5))
  (.cons (.ex (.meth .append (.loc 1) (.cons (.pop (.loc 2)) .nil)))
  .nil))
  (.cons (.ex (.meth .append (.loc 2) (.cons (.loc 3) .nil)))
  .nil)))
  (.cons (.ret (.bin .add (.loc 1) (.rev true (.loc 2))))
  .nil)))), true⟩
def f_document_in : Fd := ⟨1, 1, (.cons (.ret (.make 58 59 (.cons (.make 45 46 (.cons (.loc 0) .nil)) .nil)))
  .nil), true⟩
def f_end_of : Fd := ⟨2, 3, (.cons (.for_ (.nm 2) (.rng2 (.bin .add (.loc 1) (.con (.int 1))) (.blt .len (.cons (.loc 0) .nil)))
  (.cons (.iff (.cmp .le (.sub (.sub (.loc 0) (.loc 2)) (.con (.int 1))) (.sub (.sub (.loc 0) (.loc 1)) (.con (.int 1))))
  (.cons (.ret (.loc 2))
  .nil)
  .nil)
  .nil))
  (.cons (.ret (.blt .len (.cons (.loc 0) .nil)))
  .nil)), true⟩
def f_require_document : Fd := ⟨1, 1, (.cons (.iff (.not (.isi (.cons (.loc 0) (.cons (.con (.gl 58)) .nil))))
  (.cons (.rai 39 "a document is expected")
  .nil)
  .nil)
  .nil), true⟩
def f_require_node : Fd := ⟨2, 2, (.cons (.iff (.not (.call 3 (.cons (.loc 1) (.cons (.blt .len (.cons (.attr (.loc 0) 53) .nil)) .nil))))
  (.cons (.raf 153 149 (.loc 1))
  .nil)
  .nil)
  .nil), true⟩
def f_law_dice : Fd := ⟨2, 6, (.cons (.asg (.nm 2) (.bin .add (.bin .mul (.con (.int 59)) (.loc 1)) (.con (.int 23))))
  (.cons (.iff (.cmp .lt (.loc 1) (.blt .len (.cons (.loc 0) .nil)))
  (.cons (.asg (.nm 2) (.sub (.loc 0) (.loc 1)))
  .nil)
  .nil)
  (.cons (.asg (.nm 3) (.bin .mod (.blt .int (.cons (.blt .abs (.cons (.loc 2) .nil)) .nil)) (.bin .pow (.bin .pow (.con (.int 10)) (.con (.int 60))) (.con (.int 10)))))
  (.cons (.asg (.nm 4) (.bin .fdiv (.loc 3) (.bin .pow (.con (.int 10)) (.con (.int 18)))))
  (.cons (.asg (.nm 5) (.bin .add (.bin .add (.bin .add (.bin .mul (.bin .mod (.loc 3) (.con (.int 2147483409))) (.con (.int 50053))) (.bin .mul (.con (.int 2801)) (.loc 1))) (.bin .mul (.con (.int 41)) (.blt .int (.cons (.cmp .lt (.loc 2) (.con (.int 0))) .nil)))) (.con (.int 67))))
  (.cons (.ret (.lst false (.cons (.loc 4) (.cons (.bin .mod (.loc 5) (.con (.int 2147483399))) (.cons (.con (.int 0)) .nil)))))
  .nil)))))), false⟩
def f_law_roll : Fd := ⟨2, 6, (.cons (.asg (.nm 2) (.blt .int (.cons (.loc 1) .nil)))
  (.cons (.iff (.cmp .gt (.sub (.loc 0) (.con (.int 0))) (.con (.int 0)))
  (.cons (.asg (.nm 5) (.bin .mod (.sub (.loc 0) (.con (.int 0))) (.loc 2)))
  (.cons (.put (.loc 0) (.con (.int 0)) (.bin .fdiv (.sub (.loc 0) (.con (.int 0))) (.loc 2)))
  (.cons (.ret (.blt .int (.cons (.loc 5) .nil)))
  .nil)))
  .nil)
  (.cons (.put (.loc 0) (.con (.int 2)) (.bin .add (.sub (.loc 0) (.con (.int 2))) (.con (.int 1))))
  (.cons (.asg (.nm 3) (.bin .mod (.bin .add (.sub (.loc 0) (.con (.int 1))) (.bin .mul (.con (.int 1000117)) (.sub (.loc 0) (.con (.int 2))))) (.con (.int 2305843009213693951))))
  (.cons (.asg (.nm 4) (.bin .add (.bin .mul (.bin .mod (.bin .mul (.loc 3) (.loc 3)) (.con (.int 2305843009213693921))) (.loc 3)) (.bin .mul (.con (.int 9421)) (.sub (.loc 0) (.con (.int 2))))))
  (.cons (.asg (.nm 4) (.bin .mod (.loc 4) (.con (.int 2305843009213693907))))
  (.cons (.ret (.blt .int (.cons (.bin .mod (.bin .fdiv (.loc 4) (.con (.int 4096))) (.loc 2)) .nil)))
  .nil))))))), true⟩
def f_law_one_of : Fd := ⟨2, 2, (.cons (.ret (.sub (.loc 1) (.call 13 (.cons (.loc 0) (.cons (.blt .len (.cons (.loc 1) .nil)) .nil)))))
  .nil), true⟩
def f_law_document : Fd := ⟨3, 6, (.cons (.asg (.nm 3) (.lst false (.cons (.tup (.cons (.call 14 (.cons (.loc 0) (.cons (.loc 1) .nil))) (.cons (.con (.int 1)) .nil))) .nil)))
  (.cons (.for_ (.nm 4) (.rng1 (.call 13 (.cons (.loc 0) (.cons (.loc 2) .nil))))
  (.cons (.asg (.nm 5) (.bin .add (.sub (.sub (.loc 3) (.neg (.con (.int 1)))) (.con (.int 1))) (.con (.int 1))))
  (.cons (.whl (.and (.cmp .gt (.loc 5) (.con (.int 2))) (.cmp .eq (.call 13 (.cons (.loc 0) (.cons (.con (.int 3)) .nil))) (.con (.int 0))))
  (.cons (.asg (.nm 5) (.bin .sub (.loc 5) (.con (.int 1))))
  .nil))
  (.cons (.ex (.meth .append (.loc 3) (.cons (.tup (.cons (.call 14 (.cons (.loc 0) (.cons (.loc 1) .nil))) (.cons (.loc 5) .nil))) .nil)))
  .nil))))
  (.cons (.ret (.loc 3))
  .nil))), true⟩
def f_law_is_right : Fd := ⟨1, 5, (.cons (.iff (.or (.not (.blt .isinstance (.cons (.loc 0) (.cons (.con (.ty "tuple")) .nil)))) (.not (.chn .le .le (.con (.int 1)) (.blt .len (.cons (.loc 0) .nil)) (.con (.int 40)))))
  (.cons (.ret (.con (.bl false)))
  .nil)
  .nil)
  (.cons (.asg (.nm 1) (.con (.int 0)))
  (.cons (.for_ (.nm 2) (.val (.loc 0))
  (.cons (.iff (.or (.not (.blt .isinstance (.cons (.loc 2) (.cons (.con (.ty "tuple")) .nil)))) (.or (.cmp .ne (.blt .len (.cons (.loc 2) .nil)) (.con (.int 2))) (.or (.not (.blt .isinstance (.cons (.sub (.loc 2) (.con (.int 0))) (.cons (.con (.ty "str")) .nil)))) (.not (.blt .isinstance (.cons (.sub (.loc 2) (.con (.int 1))) (.cons (.con (.ty "int")) .nil)))))))
  (.cons (.ret (.con (.bl false)))
  .nil)
  .nil)
  (.cons (.asg (.nm 3) (.lc true (.loc 4) (.nm 4) (.val (.sub (.loc 2) (.con (.int 0)))) (.yes (.cmp .notin (.loc 4) (.con (.str "abcdefghijklmnopqrstuvwxyz")))) [4]))
  (.cons (.iff (.or (.cmp .ne (.loc 3) (.lst true .nil)) (.or (.not (.chn .le .le (.con (.int 1)) (.blt .len (.cons (.sub (.loc 2) (.con (.int 0))) .nil)) (.con (.int 8)))) (.blt .isinstance (.cons (.sub (.loc 2) (.con (.int 1))) (.cons (.con (.ty "bool")) .nil)))))
  (.cons (.ret (.con (.bl false)))
  .nil)
  .nil)
  (.cons (.iff (.or (.cmp .gt (.sub (.loc 2) (.con (.int 1))) (.bin .add (.loc 1) (.con (.int 1)))) (.cmp .lt (.sub (.loc 2) (.con (.int 1))) (.blt .min (.cons (.con (.int 2)) (.cons (.bin .add (.loc 1) (.con (.int 1))) .nil)))))
  (.cons (.ret (.con (.bl false)))
  .nil)
  .nil)
  (.cons (.asg (.nm 1) (.sub (.loc 2) (.con (.int 1))))
  .nil))))))
  (.cons (.ret (.con (.bl true)))
  .nil)))), true⟩
def f_law_spoilt : Fd := ⟨2, 7, (.cons (.asg (.tp (.cons (.nm 3) (.cons (.nm 4) .nil))) (.tup (.cons (.call 13 (.cons (.loc 0) (.cons (.blt .len (.cons (.loc 1) .nil)) .nil))) (.cons (.call 13 (.cons (.loc 0) (.cons (.con (.int 6)) .nil))) .nil))))
  (.cons (.asg (.tp (.cons (.nm 5) (.cons (.nm 6) .nil))) (.sub (.loc 1) (.loc 3)))
  (.cons (.asg (.nm 2) (.call 14 (.cons (.loc 0) (.cons (.lst true (.cons (.con .non) (.cons (.loc 5) (.cons (.tup (.cons (.loc 5) .nil)) (.cons (.tup (.cons (.loc 5) (.cons (.loc 6) (.cons (.con (.int 0)) .nil)))) (.cons (.lst true (.cons (.loc 5) (.cons (.loc 6) .nil))) (.cons (.tup (.cons (.loc 6) (.cons (.loc 5) .nil))) (.cons (.tup .nil) (.cons (.dic0 true) .nil))))))))) .nil))))
  (.cons (.iff (.cmp .lt (.loc 4) (.con (.int 2)))
  (.cons (.asg (.nm 2) (.tup (.cons (.loc 5) (.cons (.call 14 (.cons (.loc 0) (.cons (.lst true (.cons (.con (.int 0)) (.cons (.con (.int 1)) (.cons (.neg (.con (.int 1))) (.cons (.bin .add (.loc 6) (.con (.int 1))) (.cons (.bin .add (.loc 6) (.con (.int 2))) (.cons (.con (.int 41)) (.cons (.con (.bl true)) (.cons (.con .non) (.cons (.con (.str "1")) (.cons (.bin .pow (.con (.int 10)) (.con (.int 39))) (.cons (.bin .sub (.loc 6) (.con (.int 1))) .nil)))))))))))) .nil))) .nil))))
  .nil)
  .nil)
  (.cons (.iff (.cmp .eq (.loc 4) (.con (.int 2)))
  (.cons (.asg (.nm 2) (.tup (.cons (.call 14 (.cons (.loc 0) (.cons (.lst true (.cons (.con (.str "")) (.cons (.con (.str "A")) (.cons (.con (.str "a b")) (.cons (.con (.str "abcdefghi")) (.cons (.con (.str "abcdefgh")) (.cons (.con .non) (.cons (.con (.int 1)) (.cons (.tup (.cons (.con (.str "a")) .nil)) (.cons (.con (.str "a.b")) .nil)))))))))) .nil))) (.cons (.loc 6) .nil))))
  .nil)
  .nil)
  (.cons (.iff (.cmp .eq (.loc 4) (.con (.int 3)))
  (.cons (.ret (.bin .add (.slc (.loc 1) .no (.yes (.loc 3))) (.slc (.loc 1) (.yes (.bin .add (.loc 3) (.con (.int 1)))) .no)))
  .nil)
  .nil)
  (.cons (.ret (.bin .add (.bin .add (.slc (.loc 1) .no (.yes (.loc 3))) (.tup (.cons (.loc 2) .nil))) (.slc (.loc 1) (.yes (.bin .add (.loc 3) (.con (.int 1)))) .no)))
  .nil))))))), true⟩
def f_law_right : Fd := ⟨1, 9, (.cons (.asg (.nm 1) (.blt .tuple (.cons (.call 65 (.cons (.loc 0) (.cons (.lst true (.cons (.con (.str "a")) (.cons (.con (.str "b")) (.cons (.con (.str "node")) .nil)))) (.cons (.con (.int 9)) .nil)))) .nil)))
  (.cons (.asg (.nm 2) (.call 35 (.cons (.loc 0) (.cons (.loc 1) .nil))))
  (.cons (.asg (.nm 3) (.ite (.call 154 (.cons (.loc 2) .nil)) (.call 35 (.cons (.loc 0) (.cons (.loc 2) .nil))) (.loc 2)))
  (.cons (.for_ (.nm 4) (.val (.lst true (.cons (.loc 1) (.cons (.loc 2) (.cons (.loc 3) (.cons (.blt .list (.cons (.loc 1) .nil)) (.cons (.bin .add (.loc 1) (.bin .mul (.slc (.loc 1) (.yes (.con (.int 1))) .no) (.con (.int 5)))) (.cons (.bin .add (.loc 1) (.loc 1)) (.cons (.tup (.cons (.loc 1) .nil)) .nil)))))))))
  (.cons (.iff (.cmp .ne (.met 37 (.make 58 59 (.cons (.loc 4) .nil))) (.ite (.call 154 (.cons (.loc 4) .nil)) (.con (.str "fine")) (.con (.str "document"))))
  (.cons (.ret (.con (.bl false)))
  .nil)
  .nil)
  .nil))
  (.cons (.asg (.nm 5) (.make 58 59 (.cons (.loc 1) .nil)))
  (.cons (.asg (.nm 6) (.call 14 (.cons (.loc 0) (.cons (.lst true (.cons (.con .non) (.cons (.neg (.con (.int 1))) (.cons (.blt .len (.cons (.loc 1) .nil)) (.cons (.con (.bl true)) (.cons (.con (.str "0")) (.cons (.tup .nil) (.cons (.bin .pow (.con (.int 10)) (.con (.int 30))) (.cons (.lst true (.cons (.con (.int 0)) .nil)) (.cons (.con (.bl false)) .nil)))))))))) .nil))))
  (.cons (.asg (.nm 7) (.call 14 (.cons (.loc 0) (.cons (.lst true (.cons (.con .non) (.cons (.loc 1) (.cons (.con (.str "a")) (.cons (.con (.int 0)) (.cons (.lst true (.cons (.loc 5) .nil)) (.cons (.dic0 true) (.cons (.con (.bl true)) .nil)))))))) .nil))))
  (.cons (.asg (.nm 8) (.lst false (.cons (.met 37 (.mcl 96 (.loc 5) (.cons (.loc 6) .nil))) .nil)))
  (.cons (.ex (.meth .append (.loc 8) (.cons (.met 37 (.dgt 93 (.loc 5) (.loc 6))) .nil)))
  (.cons (.ex (.meth .append (.loc 8) (.cons (.met 37 (.mcl 98 (.loc 5) (.cons (.loc 6) (.cons (.loc 7) .nil)))) .nil)))
  (.cons (.iff (.cmp .ne (.loc 8) (.bin .mul (.lst false (.cons (.bin .add (.con (.str "number ")) (.blt .reprc (.cons (.loc 6) .nil))) .nil)) (.con (.int 3))))
  (.cons (.ret (.con (.bl false)))
  .nil)
  .nil)
  (.cons (.ret (.cmp .eq (.met 37 (.mcl 98 (.loc 5) (.cons (.bin .sub (.blt .len (.cons (.loc 1) .nil)) (.con (.int 1))) (.cons (.loc 7) .nil)))) (.con (.str "document"))))
  .nil)))))))))))), true⟩
def f_law : Fd := ⟨1, 6, (.cons (.for_ (.nm 1) (.rng1 (.blt .max (.cons (.con (.int 1)) (.cons (.blt .min (.cons (.con (.int 12)) (.cons (.blt .len (.cons (.loc 0) .nil)) .nil))) .nil))))
  (.cons (.asg (.nm 3) (.call 22 (.cons (.loc 0) (.cons (.loc 1) .nil))))
  (.cons (.for_ (.nm 4) (.rng1 (.con (.int 4)))
  (.cons (.iff (.not (.call 23 (.cons (.loc 3) .nil)))
  (.cons (.ret (.con (.bl false)))
  .nil)
  .nil)
  .nil))
  .nil)))
  (.cons (.asg (.nm 2) (.lst true (.cons (.con .non) (.cons (.con (.int 0)) (.cons (.con (.str "a")) (.cons (.tup .nil) (.cons (.lst true .nil) (.cons (.dic0 true) (.cons (.con (.bl true)) (.cons (.tup (.cons (.con (.str "a")) (.cons (.con (.int 1)) .nil))) (.cons (.tup (.cons (.tup (.cons (.con (.str "a")) (.cons (.con (.int 1)) .nil))) (.cons (.tup (.cons (.con (.str "a")) (.cons (.con (.int 1)) .nil))) .nil))) (.cons (.tup (.cons (.tup (.cons (.con (.str "a")) (.cons (.con (.int 2)) .nil))) .nil)) (.cons (.lst true (.cons (.tup (.cons (.con (.str "a")) (.cons (.con (.int 1)) .nil))) .nil)) (.cons (.bin .pow (.con (.int 10)) (.con (.int 39))) .nil))))))))))))))
  (.cons (.asg (.nm 2) (.bin .add (.loc 2) (.lst true (.cons (.blt .tuple (.cons (.lc true (.tup (.cons (.con (.str "a")) (.cons (.bin .add (.loc 1) (.con (.int 1))) .nil))) (.nm 1) (.rng1 (.con (.int 41))) .no [1]) .nil)) (.cons (.bin .add (.tup (.cons (.tup (.cons (.con (.str "a")) (.cons (.con (.int 1)) .nil))) .nil)) (.bin .mul (.tup (.cons (.tup (.cons (.con (.str "a")) (.cons (.con (.int 2)) .nil))) .nil)) (.con (.int 40)))) (.cons (.tup (.cons (.tup (.cons (.tup (.cons (.con (.str "a")) (.cons (.con (.int 1)) .nil))) .nil)) .nil)) .nil))))))
  (.cons (.ret (.cmp .eq (.lc true (.loc 5) (.nm 5) (.val (.loc 2)) (.yes (.cmp .ne (.met 37 (.make 58 59 (.cons (.loc 5) .nil))) (.con (.str "document")))) [5]) (.lst true .nil)))
  .nil)))), true⟩
def f_Document___init__ : Fd := ⟨2, 3, (.cons (.asg (.nm 2) (.ite (.isi (.cons (.loc 1) (.cons (.con (.gl 45)) .nil))) (.loc 1) (.call 72 (.cons (.loc 1) .nil))))
  (.cons (.fld (.loc 0) 53 (.attr (.loc 2) 53))
  (.cons (.fld (.loc 0) 73 (.blt .tuple (.cons (.call 74 (.cons (.attr (.loc 2) 53) .nil)) .nil)))
  (.cons (.fld (.loc 0) 75 (.blt .tuple (.cons (.call 76 (.cons (.attr (.loc 2) 53) .nil)) .nil)))
  .nil)))), false⟩
def f_Nodes___init__ : Fd := ⟨2, 2, (.cons (.fld (.loc 0) 53 (.loc 1))
  .nil), false⟩
def f_Document_under : Fd := ⟨2, 7, (.cons (.ex (.call 100 (.cons (.loc 0) (.cons (.loc 1) .nil))))
  (.cons (.asg (.tp (.cons (.nm 3) (.cons (.nm 4) .nil))) (.sub (.attr (.loc 0) 53) (.loc 1)))
  (.cons (.asg (.nm 2) (.call 101 (.cons (.attr (.loc 0) 53) (.cons (.loc 1) .nil))))
  (.cons (.ret (.call 102 (.cons (.blt .tuple (.cons (.lc true (.tup (.cons (.loc 5) (.cons (.bin .add (.bin .sub (.loc 6) (.loc 4)) (.con (.int 1))) .nil))) (.tp (.cons (.nm 5) (.cons (.nm 6) .nil))) (.val (.slc (.attr (.loc 0) 53) (.yes (.loc 1)) (.yes (.loc 2)))) .no [5, 6]) .nil)) .nil)))
  .nil)))), true⟩
def f_Document_with_child : Fd := ⟨3, 9, (.cons (.ex (.call 100 (.cons (.loc 0) (.cons (.loc 1) .nil))))
  (.cons (.ex (.call 103 (.cons (.loc 2) .nil)))
  (.cons (.asg (.tp (.cons (.nm 5) (.cons (.nm 6) .nil))) (.sub (.attr (.loc 0) 53) (.loc 1)))
  (.cons (.asg (.nm 3) (.call 101 (.cons (.attr (.loc 0) 53) (.cons (.loc 1) .nil))))
  (.cons (.asg (.nm 4) (.lc true (.tup (.cons (.loc 7) (.cons (.bin .add (.loc 8) (.loc 6)) .nil))) (.tp (.cons (.nm 7) (.cons (.nm 8) .nil))) (.val (.attr (.loc 2) 53)) .no [7, 8]))
  (.cons (.ret (.call 102 (.cons (.tup (.star (.slc (.attr (.loc 0) 53) .no (.yes (.loc 3))) (.star (.loc 4) (.star (.slc (.attr (.loc 0) 53) (.yes (.loc 3)) .no) .nil)))) .nil)))
  .nil)))))), true⟩
def f_Document___getitem__ : Fd := ⟨2, 2, (.cons (.ex (.call 100 (.cons (.loc 0) (.cons (.loc 1) .nil))))
  (.cons (.ret (.sub (.attr (.loc 0) 53) (.loc 1)))
  .nil)), true⟩
def r_wall : Row := ⟨24, ("_wall", none), "_wall", "_wall", ["k"], f_wall, ["k"], top 0, false, false⟩
def r_is_index : Row := ⟨3, ("is_index", none), "is_index", "is_index", ["value", "total"], f_is_index, ["value", "total"], top 15, false, false⟩
def r_is_name : Row := ⟨1, ("is_name", none), "is_name", "is_name", ["value"], f_is_name, ["value", "letter"], top 16, false, false⟩
def r_is_node : Row := ⟨44, ("is_node", none), "is_node", "is_node", ["value"], f_is_node, ["value"], top 20, false, false⟩
def r_are_depths : Row := ⟨43, ("are_depths", none), "are_depths", "are_depths", ["depths"], f_are_depths, ["depths", "depth", "later"], top 21, false, false⟩
def r_checked : Row := ⟨72, ("checked", none), "checked", "checked", ["nodes"], f_checked, ["nodes", "row", "label", "depth"], top 22, false, false⟩
def r_ways_in : Row := ⟨74, ("ways_in", none), "ways_in", "ways_in", ["nodes"], f_ways_in, ["nodes", "found", "way", "label", "depth"], top 23, false, false⟩
def r_closings_in : Row := ⟨76, ("closings_in", none), "closings_in", "closings_in", ["nodes"], f_closings_in, ["nodes", "found", "left", "index", "label", "depth"], top 24, false, false⟩
def r_document_in : Row := ⟨102, ("document_in", none), "document_in", "document_in", ["nodes"], f_document_in, ["nodes"], top 26, false, false⟩
def r_end_of : Row := ⟨101, ("end_of", none), "end_of", "end_of", ["nodes", "index"], f_end_of, ["nodes", "index", "at"], top 27, false, false⟩
def r_require_document : Row := ⟨103, ("require_document", none), "require_document", "require_document", ["value"], f_require_document, ["value"], top 28, false, false⟩
def r_require_node : Row := ⟨100, ("require_node", none), "require_node", "require_node", ["document", "index"], f_require_node, ["document", "index"], top 29, false, false⟩
def r_law_dice : Row := ⟨22, ("_law_dice", none), "_law_dice", "_law_dice", ["_law_script", "_law_at"], f_law_dice, ["_law_script", "_law_at", "_law_cell", "_law_great", "_law_left", "_law_mixed"], top 31, false, false⟩
def r_law_roll : Row := ⟨13, ("_law_roll", none), "_law_roll", "_law_roll", ["_law_dice_here", "_law_total"], f_law_roll, ["_law_dice_here", "_law_total", "_law_number", "_law_one", "_law_two", "_law_drawn"], top 32, false, false⟩
def r_law_one_of : Row := ⟨14, ("_law_one_of", none), "_law_one_of", "_law_one_of", ["_law_dice_here", "_law_items"], f_law_one_of, ["_law_dice_here", "_law_items"], top 33, false, false⟩
def r_law_document : Row := ⟨65, ("_law_document", none), "_law_document", "_law_document", ["_law_dice_here", "_law_labels", "_law_most"], f_law_document, ["_law_dice_here", "_law_labels", "_law_most", "_law_found", "_law_turn", "_law_depth"], top 34, false, false⟩
def r_law_is_right : Row := ⟨154, ("_law_is_right", none), "_law_is_right", "_law_is_right", ["_law_nodes"], f_law_is_right, ["_law_nodes", "_law_last", "_law_row", "_law_bad", "_law_letter"], top 36, false, false⟩
def r_law_spoilt : Row := ⟨35, ("_law_spoilt", none), "_law_spoilt", "_law_spoilt", ["_law_dice_here", "_law_nodes"], f_law_spoilt, ["_law_dice_here", "_law_nodes", "_law_row", "_law_at", "_law_way", "_law_label", "_law_depth"], top 37, false, false⟩
def r_law_right : Row := ⟨23, ("_law_right", none), "_law_right", "_law_right", ["_law_dice_here"], f_law_right, ["_law_dice_here", "_law_nodes", "_law_one", "_law_two", "_law_some", "_law_document_here", "_law_odd", "_law_none", "_law_told"], top 38, false, false⟩
def r_law : Row := ⟨25, ("law", none), "law", "law", ["_law_script"], f_law, ["_law_script", "_law_at", "_law_some", "_law_dice_here", "_law_turn", "_law_one"], top 39, false, false⟩
def r_Document___init__ : Row := ⟨59, ("Document", some "__init__"), "__init__", "Document.__init__", ["self", "nodes"], f_Document___init__, ["self", "nodes", "held"], inn 25 0, false, false⟩
def r_Nodes___init__ : Row := ⟨46, ("Nodes", some "__init__"), "__init__", "Nodes.__init__", ["self", "nodes"], f_Nodes___init__, ["self", "nodes"], inn 19 1, false, false⟩
def r_Document_under : Row := ⟨104, ("Document", some "under"), "under", "Document.under", ["self", "index"], f_Document_under, ["self", "index", "end", "label", "top", "name", "depth"], inn 25 7, false, false⟩
def r_Document_with_child : Row := ⟨105, ("Document", some "with_child"), "with_child", "Document.with_child", ["self", "index", "other"], f_Document_with_child, ["self", "index", "other", "end", "rows", "label", "top", "name", "depth"], inn 25 8, false, false⟩
def r_Document___getitem__ : Row := ⟨106, ("Document", some "__getitem__"), "__getitem__", "Document.__getitem__", ["self", "at"], f_Document___getitem__, ["self", "at"], inn 25 10, false, false⟩
def rows : List Row := ([r_wall, r_is_index, r_is_name, r_is_node, r_are_depths, r_checked, r_ways_in, r_closings_in, r_document_in, r_end_of, r_require_document, r_require_node, r_law_dice, r_law_roll, r_law_one_of, r_law_document, r_law_is_right, r_law_spoilt, r_law_right, r_law] : List Row) ++ ([r_Document___init__, r_Nodes___init__, r_Document_under, r_Document_with_child, r_Document___getitem__] : List Row)
def crs : List CRow := [⟨58, "Document", some 59, false, [], [75, 53, 73]⟩, ⟨45, "Nodes", some 46, true, [(53, 0)], []⟩]
def nms : List (Nat × Str) := ([(58, "Document"), (106, "Document.__getitem__"), (59, "Document.__init__"), (104, "Document.under"), (105, "Document.with_child"), (39, "InvalidDocument"), (153, "InvalidNumber"), (31, "InvalidOperation"), (40, "InvalidQuestion"), (41, "InvalidReader"), (45, "Nodes"), (46, "Nodes.__init__"), (155, "NothingToUndo"), (156, "ParseError"), (157, "Refused"), (158, "TooMany"), (159, "UnknownName"), (93, "__getitem__"), (22, "_law_dice"), (65, "_law_document")] : List (Nat × Str)) ++ ([(154, "_law_is_right"), (37, "_law_met"), (14, "_law_one_of"), (23, "_law_right"), (13, "_law_roll"), (35, "_law_spoilt"), (24, "_wall"), (43, "are_depths"), (72, "checked"), (76, "closings_in"), (102, "document_in"), (101, "end_of"), (3, "is_index"), (1, "is_name"), (44, "is_node"), (25, "law"), (150, "limit"), (151, "many"), (148, "name"), (75, "own_closings")] : List (Nat × Str)) ++ ([(53, "own_nodes"), (73, "own_ways"), (147, "place"), (152, "reason"), (103, "require_document"), (100, "require_node"), (96, "under"), (149, "value"), (74, "ways_in"), (98, "with_child")] : List (Nat × Str))
def cst : List (Str × PV) := [("MAX_LETTERS", (.int 8)), ("MAX_NODES", (.int 40))]
def blts : List Str := ["abs", "all", "bool", "enumerate", "int", "isinstance", "len", "list", "max", "min", "range", "repr", "str", "super", "tuple", "zip"]
def m_law_met : MRow := ⟨37, "_law_call", ["_law_call", "e"], top 35, [(39, (.con (.str "document"))), (40, (.con (.str "question"))), (41, (.con (.str "reader"))), (31, (.con (.str "operation"))), (156, (.add (.con (.str "parse ")) (.rep (.fld 147)))), (159, (.add (.con (.str "name ")) (.rep (.fld 148)))), (153, (.add (.con (.str "number ")) (.rep (.fld 149)))), (158, (.add (.con (.str "many ")) (.num (.fld 150)))), (155, (.add (.con (.str "undo ")) (.rep (.fld 151)))), (157, (.add (.con (.str "refused ")) (.rep (.fld 152))))], (.drop (.str "fine"))⟩
def tx : Tx := ⟨nms, rows, crs, cst, blts, [(39, true), (153, false), (31, false), (40, false), (41, false), (155, false), (156, false), (157, false), (158, false), (159, false)], [(39, 39, true), (39, 153, false), (39, 31, false), (39, 40, false), (39, 41, false), (39, 155, false), (39, 156, false), (39, 157, false), (39, 158, false), (39, 159, false), (153, 39, false), (153, 153, true), (153, 31, false), (153, 40, false), (153, 41, false), (153, 155, false), (153, 156, false), (153, 157, false), (153, 158, false), (153, 159, false)], [m_law_met], [37, 23, 25], [23, 25], [(58, 96, 104), (58, 98, 105), (58, 93, 106)], [], [], [(58, 58, true), (58, 45, false), (45, 58, false), (45, 45, true)], [], [(153, 149, "RuntimeError")], PySem.Challenge.pw_depthmarks_k03_nodes_that_are_no_documen.main.file⟩
theorem rows_ok : tx.rows.all (rowB (sgOf tx) tx.crs) = true := by decide +kernel
theorem crs_ok : tx.crs.all (crB (sgOf tx)) = true := by decide +kernel
theorem exb_ok : exB tx = true := by decide +kernel
theorem mts_ok : mtB tx = true := by decide +kernel
theorem fo_ok : FileOk tx PySem.Challenge.pw_depthmarks_k03_nodes_that_are_no_documen := .inr ⟨by decide +kernel, by decide +kernel, by decide +kernel⟩
theorem mths_ok : mthB tx = true := by decide +kernel
theorem bm_law_met : BindMk tx m_law_met := fun _ _ _ _ _ _ us hl => match us, hl with | [_], _ => rfl
theorem bindm_ok : BindsM tx tx.mets := ⟨bm_law_met, trivial⟩
theorem b_wall : BindOk r_wall := fun _ _ _ _ _ _ us hl => match us, hl with | [_], _ => rfl
theorem b_is_index : BindOk r_is_index := fun _ _ _ _ _ _ us hl => match us, hl with | [_, _], _ => rfl
theorem b_is_name : BindOk r_is_name := fun _ _ _ _ _ _ us hl => match us, hl with | [_], _ => rfl
theorem b_is_node : BindOk r_is_node := fun _ _ _ _ _ _ us hl => match us, hl with | [_], _ => rfl
theorem b_are_depths : BindOk r_are_depths := fun _ _ _ _ _ _ us hl => match us, hl with | [_], _ => rfl
theorem b_checked : BindOk r_checked := fun _ _ _ _ _ _ us hl => match us, hl with | [_], _ => rfl
theorem b_ways_in : BindOk r_ways_in := fun _ _ _ _ _ _ us hl => match us, hl with | [_], _ => rfl
theorem b_closings_in : BindOk r_closings_in := fun _ _ _ _ _ _ us hl => match us, hl with | [_], _ => rfl
theorem b_document_in : BindOk r_document_in := fun _ _ _ _ _ _ us hl => match us, hl with | [_], _ => rfl
theorem b_end_of : BindOk r_end_of := fun _ _ _ _ _ _ us hl => match us, hl with | [_, _], _ => rfl
theorem b_require_document : BindOk r_require_document := fun _ _ _ _ _ _ us hl => match us, hl with | [_], _ => rfl
theorem b_require_node : BindOk r_require_node := fun _ _ _ _ _ _ us hl => match us, hl with | [_, _], _ => rfl
theorem b_law_dice : BindOk r_law_dice := fun _ _ _ _ _ _ us hl => match us, hl with | [_, _], _ => rfl
theorem b_law_roll : BindOk r_law_roll := fun _ _ _ _ _ _ us hl => match us, hl with | [_, _], _ => rfl
theorem b_law_one_of : BindOk r_law_one_of := fun _ _ _ _ _ _ us hl => match us, hl with | [_, _], _ => rfl
theorem b_law_document : BindOk r_law_document := fun _ _ _ _ _ _ us hl => match us, hl with | [_, _, _], _ => rfl
theorem b_law_is_right : BindOk r_law_is_right := fun _ _ _ _ _ _ us hl => match us, hl with | [_], _ => rfl
theorem b_law_spoilt : BindOk r_law_spoilt := fun _ _ _ _ _ _ us hl => match us, hl with | [_, _], _ => rfl
theorem b_law_right : BindOk r_law_right := fun _ _ _ _ _ _ us hl => match us, hl with | [_], _ => rfl
theorem b_law : BindOk r_law := fun _ _ _ _ _ _ us hl => match us, hl with | [_], _ => rfl
theorem b_Document___init__ : BindOk r_Document___init__ := fun _ _ _ _ _ _ us hl => match us, hl with | [_, _], _ => rfl
theorem b_Nodes___init__ : BindOk r_Nodes___init__ := fun _ _ _ _ _ _ us hl => match us, hl with | [_, _], _ => rfl
theorem b_Document_under : BindOk r_Document_under := fun _ _ _ _ _ _ us hl => match us, hl with | [_, _], _ => rfl
theorem b_Document_with_child : BindOk r_Document_with_child := fun _ _ _ _ _ _ us hl => match us, hl with | [_, _, _], _ => rfl
theorem b_Document___getitem__ : BindOk r_Document___getitem__ := fun _ _ _ _ _ _ us hl => match us, hl with | [_, _], _ => rfl
theorem binds_ok : BindsAll tx.rows := ⟨b_wall, b_is_index, b_is_name, b_is_node, b_are_depths, b_checked, b_ways_in, b_closings_in, b_document_in, b_end_of, b_require_document, b_require_node, b_law_dice, b_law_roll, b_law_one_of, b_law_document, b_law_is_right, b_law_spoilt, b_law_right, b_law, b_Document___init__, b_Nodes___init__, b_Document_under, b_Document_with_child, b_Document___getitem__, trivial⟩
abbrev R : PySem.W.OpenRow := PySem.W.OpenLaw.row PySem.Challenge.rw_depthmarks_k03_nodes_that_are_no_documen
def names : List Str := (["_wall", "__name__", "AskError", "InvalidDocument", "InvalidQuestion", "InvalidReader", "InvalidOperation", "ParseError", "UnknownName", "InvalidNumber", "TooMany", "NothingToUndo", "Refused", "MAX_LETTERS", "is_index", "is_name", "MAX_NODES", "Nodes", "is_node", "are_depths"] : List Str) ++ (["checked", "ways_in", "closings_in", "Document", "document_in", "end_of", "require_document", "require_node", "_law_dice", "_law_roll", "_law_one_of", "_law_document", "_law_met", "_law_is_right", "_law_spoilt", "_law_right"] : List Str)
abbrev hk : PySem.W.Hook := hookZ 5 tx
def ob (s : PySem.W.SharedT) : HeZ.AlY := HeZ.obsY 5 (faOf tx) (fnOfR tx) (tfOf tx) (exOf tx) (fwOf tx) (HandSHeadRun.getT s)
theorem ob_eq (s : PySem.W.SharedT) : ob s = hk.obs s.abs := HeZ.obsY_eq (HandSHeadRun.getT_eq s)
theorem run (w : World) : HandSHeadRun.RunEq R (PySem.W.view R.prog [39]) hk ob 12000 names w := by
  intro os
  kernel_rfl
end Law
end Zed
end
section
set_option Elab.async false
set_option linter.all false
set_option maxRecDepth 100000
set_option maxHeartbeats 1000000
namespace Zed
namespace Law
open PySem L2
abbrev TB : Nat → Option Fd := tabOf (sgOf tx)
abbrev CT : Ct := ctOf tx
abbrev cl (n : Nat) := callN CT TB n
theorem t_roll : TB 13 = some f_law_roll := rfl
theorem t_one_of : TB 14 = some f_law_one_of := rfl
/-- the dice at place i: three numbers, the last one at most B -/
def Dc (h : PHeap) (i : Nat) (B : Int) : Prop := ∃ a b c : Int, h[i]? = some (.lst [.int a, .int b, .int c]) ∧ 0 ≤ a ∧ 0 ≤ c ∧ c ≤ B
/-- the dice were rolled, all else is as it was -/
def Dr (i : Nat) (B : Int) (h h' : PHeap) : Prop := i < h.length ∧ ∃ a b c : Int, h' = h.set i (.lst [.int a, .int b, .int c]) ∧ 0 ≤ a ∧ 0 ≤ c ∧ c ≤ B
theorem Dr.dc {i : Nat} {B : Int} {h h' : PHeap} (d : Dr i B h h') : Dc h' i B := by
  obtain ⟨hi, a, b, c, rfl, r⟩ := d
  exact ⟨a, b, c, List.getElem?_set_self hi, r⟩
theorem Dr.trans {i : Nat} {B B' : Int} {h h1 h2 : PHeap} (d : Dr i B h h1) (e : Dr i B' h1 h2) : Dr i B' h h2 := by
  obtain ⟨hi, a, b, c, rfl, r⟩ := d
  obtain ⟨_, a', b', c', rfl, r'⟩ := e
  exact ⟨hi, a', b', c', List.set_set .., r'⟩
theorem Dr.up {i : Nat} {B B' : Int} {h h' : PHeap} (d : Dr i B h h') (k : B ≤ B') : Dr i B' h h' := by
  obtain ⟨hi, a, b, c, e, r1, r2, r3⟩ := d
  exact ⟨hi, a, b, c, e, r1, r2, by omega⟩
theorem Dc.up {i : Nat} {B B' : Int} {h : PHeap} (d : Dc h i B) (k : B ≤ B') : Dc h i B' := by
  obtain ⟨a, b, c, e, r1, r2, r3⟩ := d
  exact ⟨a, b, c, e, r1, r2, by omega⟩
theorem Dc.lt {i : Nat} {B : Int} {h : PHeap} (d : Dc h i B) : i < h.length := by
  obtain ⟨a, b, c, e, _⟩ := d
  exact lt_of_get e
theorem Dr.len {i : Nat} {B : Int} {h h' : PHeap} (d : Dr i B h h') : h'.length = h.length := by
  obtain ⟨hi, a, b, c, rfl, _⟩ := d
  exact List.length_set
theorem Dr.refl {i : Nat} {B : Int} {h : PHeap} (d : Dc h i B) : Dr i B h h := by
  obtain ⟨a, b, c, e, r⟩ := d
  refine ⟨lt_of_get e, a, b, c, ?_, r⟩
  apply List.ext_getElem?
  intro j
  by_cases z : i = j
  · subst z; rw [List.getElem?_set_self (lt_of_get e)]; exact e
  · rw [List.getElem?_set_ne z]
theorem Dr.get {i j : Nat} {B : Int} {h h' : PHeap} (d : Dr i B h h') (n : j ≠ i) : h'[j]? = h[j]? := by
  obtain ⟨hi, a, b, c, rfl, _⟩ := d
  exact List.getElem?_set_ne (Ne.symm n)
/-- with new objects behind -/
theorem Dr.app {i : Nat} {B : Int} {h h' g : PHeap} (d : Dr i B (h ++ g) h') (hi : i < h.length) : ∃ h1, Dr i B h h1 ∧ h' = h1 ++ g := by
  obtain ⟨_, a, b, c, rfl, r⟩ := d
  exact ⟨_, ⟨hi, a, b, c, rfl, r⟩, List.set_append_left _ _ hi⟩
theorem Dc.app {i : Nat} {B : Int} {h g : PHeap} (d : Dc h i B) : Dc (h ++ g) i B := by
  obtain ⟨a, b, c, e, r⟩ := d
  exact ⟨a, b, c, by rw [List.getElem?_append_left (lt_of_get e)]; exact e, r⟩
theorem sl_dr {i : Nat} {B : Int} {h h1 g : PHeap} {d : PV} {Q : PV → PHeap → Prop} (e : Dr i B h h1) (z : clV 0 d = true) (q : Q d h1) : Seal h d (h1 ++ g) Q := by
  obtain ⟨hi, a, b, c, rfl, _⟩ := e
  exact sl_set z rfl q
theorem sl_dr0 {i : Nat} {B : Int} {h h1 : PHeap} {d : PV} {Q : PV → PHeap → Prop} (e : Dr i B h h1) (z : clV 0 d = true) (q : Q d h1) : Seal h d h1 Q := by
  obtain ⟨hi, a, b, c, rfl, _⟩ := e
  exact sl_set0 z rfl q
theorem ok_roll {n i : Nat} {t B : Int} {h : PHeap} (d : Dc h i B) (ht : 0 < t) (hb : B < 2 ^ 100) (ht2 : t < 2 ^ 100) :
    Ok (cl (n + 1) 13 [.ref i, .int t] h) fun d h' => ∃ r : Int, d = .int r ∧ 0 ≤ r ∧ r < t ∧ Dr i (B + 1) h h' := by
  obtain ⟨a, b, c, e, ha, hc, hB⟩ := d
  have hi := lt_of_get e
  refine (f_call t_roll rfl rfl).mpr ?_
  (unfold f_law_roll; dsimp only [List.map, List.append, HAppend.hAppend, Append.append, List.replicate, Nat.reduceSub])
  walk_at "zz"
  refine ⟨fun k => ?_, fun k => ?_⟩
  · have k := of_decide_eq_true k
    walk_at "zz"
    refine okP_mod ht ?_
    walk_at "zz"
    refine okP_fdiv ht (by omega) ?_
    walk_at "zz"
    exact sl_set0 rfl rfl ⟨_, rfl, Int.emod_nonneg _ (by omega), Int.emod_lt_of_pos _ ht, hi, _, _, _, rfl, Int.ediv_nonneg ha (by omega), hc, by omega⟩
  · walk_at "zz"
    have e2 := get_self (o' := .lst [.int a, .int b, .int (c + 1)]) e
    walk_at "zz"
    refine okP_mul (by omega) (by omega) ?_
    walk_at "zz"
    generalize hx : (b + 1000117 * (c + 1)) % 2305843009213693951 = x
    have x1 : 0 ≤ x := by omega
    have x2 : x < 2305843009213693951 := by omega
    refine okP_mul (by omega) (by omega) ?_
    walk_at "zz"
    refine okP_mul (by omega) (by omega) ?_
    walk_at "zz"
    refine okP_mul (by omega) (by omega) ?_
    walk_at "zz"
    refine okP_mod ht ?_
    walk_at "zz"
    exact sl_set0 rfl rfl ⟨_, rfl, Int.emod_nonneg _ (by omega), Int.emod_lt_of_pos _ ht, hi, a, b, c + 1, rfl, ha, by omega, by omega⟩
theorem okO_getF {h : PHeap} {k : Int} {ds : List PV} {d : PV} {Q : PV → Prop} (g : atI ds k = some d) (q : Q d) : OkO (getF (.fl ds) (.int k) h) Q := okO_of g q
theorem cls_mem {n : Nat} {y : PV} : ∀ {l : List PV}, clVs n l = true → y ∈ l → clV n y = true
  | [], _, h => nomatch h
  | p :: l, h1, h2 => by
    simp only [clVs, Bool.and_eq_true] at h1
    rcases List.mem_cons.mp h2 with q | q
    · rw [q]; exact h1.1
    · exact cls_mem h1.2 q
theorem sl_dr1 {i : Nat} {B : Int} {h h1 : PHeap} {d : PV} {Q : PV → PHeap → Prop} (e : Dr i B h h1) (z : clV h.length d = true) (q : Q d h1) : Seal h d h1 Q := by
  obtain ⟨hi, a, b, c, rfl, _⟩ := e
  refine ⟨d, _, frz_cl z, ?_, q⟩
  simpa using seal_set' (n := h.length) (o := .lst [.int a, .int b, .int c]) rfl h [] i
theorem ok_one_of {n i : Nat} {B : Int} {h : PHeap} {ds : List PV} (d : Dc h i B) (h0 : ds ≠ []) (hz : ds.length < 1000) (hb : B < 2 ^ 100) (hc : clVs h.length ds = true) :
    Ok (cl (n + 2) 14 [.ref i, .fl ds] h) fun d h' => d ∈ ds ∧ Dr i (B + 1) h h' := by
  refine (f_call t_one_of rfl rfl).mpr ?_
  (unfold f_law_one_of; dsimp only [List.map, List.append, HAppend.hAppend, Append.append, List.replicate, Nat.reduceSub])
  walk_at "zz"
  have hp : 0 < ds.length := List.length_pos_iff.mpr h0
  refine (ok_roll d (by omega) hb (by omega)).mono fun x h' ⟨r, er, r0, r1, f⟩ => ?_
  subst er
  obtain ⟨y, y1, y2, _⟩ := atI_mem r0 r1
  exact okO_getF y1 (sl_dr1 f (cls_mem hc y2) ⟨y2, f⟩)
end Law
end Zed
end
section
set_option Elab.async false
set_option linter.all false
/-! M04: events of a tree of nodes, and back: the plain law of k04. -/
namespace Zed
namespace Law
open PySem L2
inductive Ev where
  | op (s : Str)
  | cl (s : Str)
  | c0
  deriving DecidableEq
abbrev Nd := Str × Nat
/-- the event that closes a label; m: the named mode -/
def cof (m : Bool) (s : Str) : Ev := if m then .cl s else .c0
theorem cof_ne {m : Bool} {s t : Str} : cof m s ≠ .op t := by unfold cof; cases m <;> intro h <;> cases h
abbrev Stt := List Str × List Nd
def stp (m : Bool) (st : Stt) : Ev → Option Stt
  | .op s => if st.1 = [] ∧ st.2 ≠ [] then none else some (st.1 ++ [s], st.2 ++ [(s, st.1.length + 1)])
  | e => match st.1.getLast? with
    | none => none
    | some s => if cof m s = e then some (st.1.dropLast, st.2) else none
def runE (m : Bool) : List Ev → Stt → Option Stt
  | [], st => some st
  | e :: r, st => (stp m st e).bind (runE m r)
theorem run_app {m : Bool} : ∀ {a b : List Ev} {st : Stt}, runE m (a ++ b) st = (runE m a st).bind (runE m b)
  | [], b, st => rfl
  | e :: a, b, st => by
    show (stp m st e).bind (runE m (a ++ b)) = ((stp m st e).bind (runE m a)).bind (runE m b)
    cases stp m st e with
    | none => rfl
    | some st1 => exact run_app
theorem stp_op {m : Bool} {l : List Str} {ns : List Nd} {s : Str} : stp m (l, ns) (.op s) = if l = [] ∧ ns ≠ [] then none else some (l ++ [s], ns ++ [(s, l.length + 1)]) := rfl
theorem stp_close {m : Bool} {l : List Str} {s : Str} {ns : List Nd} {e : Ev} (ne : ∀ t, e ≠ .op t) : stp m (l ++ [s], ns) e = if cof m s = e then some (l, ns) else none := by
  cases e with
  | op t => exact absurd rfl (ne t)
  | _ => unfold stp; simp
theorem stp_nil {m : Bool} {ns : List Nd} {e : Ev} (ne : ∀ t, e ≠ .op t) : stp m ([], ns) e = none := by
  cases e with
  | op t => exact absurd rfl (ne t)
  | _ => rfl
theorem stp_done {m : Bool} {ns : List Nd} {e : Ev} (h : ns ≠ []) : stp m ([], ns) e = none := by
  cases e with
  | op t => unfold stp; simp [h]
  | _ => rfl
theorem run_done {m : Bool} {ns : List Nd} (h : ns ≠ []) : ∀ {b : List Ev}, b ≠ [] → runE m b ([], ns) = none
  | [], z => absurd rfl z
  | e :: r, _ => by show (stp m ([], ns) e).bind _ = none; rw [stp_done h]; rfl
theorem snoc_ind {α : Type} {P : List α → Prop} (h0 : P []) (h1 : ∀ l x, P l → P (l ++ [x])) : ∀ l, P l := by
  intro l
  have key : ∀ k : List α, P k.reverse := fun k => by
    induction k with
    | nil => exact h0
    | cons x k ih => rw [List.reverse_cons]; exact h1 _ _ ih
  have := key l.reverse
  rwa [List.reverse_reverse] at this
theorem run_closes {m : Bool} {ns : List Nd} : ∀ (k l : List Str), runE m (k.reverse.map (cof m)) (l ++ k, ns) = some (l, ns) := by
  intro k
  refine snoc_ind (P := fun k => ∀ l, runE m (k.reverse.map (cof m)) (l ++ k, ns) = some (l, ns)) (fun l => by simp [runE]) (fun k s ih l => ?_) k
  rw [List.reverse_append]
  show (stp m (l ++ (k ++ [s]), ns) (cof m s)).bind (runE m (k.reverse.map (cof m))) = _
  rw [← List.append_assoc, stp_close fun t => cof_ne, if_pos rfl]
  exact ih l
/-- the open events of nodes with the closes between them, and what is left open -/
def evo (m : Bool) : List Nd → List Ev × List Str → List Ev × List Str
  | [], st => st
  | (s, d) :: r, st => evo m r (st.1 ++ (st.2.drop (d - 1)).reverse.map (cof m) ++ [.op s], st.2.take (d - 1) ++ [s])
def evs (m : Bool) (ns : List Nd) : List Ev := (evo m ns ([], [])).1 ++ (evo m ns ([], [])).2.reverse.map (cof m)
theorem evo_app {m : Bool} : ∀ {a b : List Nd} {st : List Ev × List Str}, evo m (a ++ b) st = evo m b (evo m a st)
  | [], b, st => rfl
  | (s, d) :: a, b, st => evo_app (a := a)
def Chain : Nat → List Nd → Prop
  | _, [] => True
  | p, (s, d) :: r => 2 ≤ d ∧ d ≤ p + 1 ∧ Chain d r
def lastD : Nat → List Nd → Nat
  | p, [] => p
  | _, (_, d) :: r => lastD d r
def Tree : List Nd → Prop
  | [] => False
  | (_, d) :: r => d = 1 ∧ Chain 1 r
theorem chain_snoc {s : Str} {d : Nat} : ∀ {p : Nat} {r : List Nd}, Chain p r → 2 ≤ d → d ≤ lastD p r + 1 → Chain p (r ++ [(s, d)])
  | p, [], _, h1, h2 => ⟨h1, h2, trivial⟩
  | p, (t, e) :: r, ⟨a, b, c⟩, h1, h2 => ⟨a, b, chain_snoc c h1 h2⟩
theorem lastD_snoc {s : Str} {d : Nat} : ∀ {p : Nat} {r : List Nd}, lastD p (r ++ [(s, d)]) = d
  | p, [] => rfl
  | p, (t, e) :: r => lastD_snoc (r := r)
theorem evo_len {m : Bool} : ∀ {ns : List Nd} {st : List Ev × List Str}, (evo m ns st).1.length + (evo m ns st).2.length = st.1.length + st.2.length + 2 * ns.length
  | [], st => by show _ = _ + 2 * 0; rfl
  | (s, d) :: r, st => by
    show (evo m r _).1.length + (evo m r _).2.length = _
    rw [evo_len]
    simp only [List.length_append, List.length_map, List.length_reverse, List.length_drop, List.length_take, List.length_cons, List.length_nil]
    omega
theorem evs_len {m : Bool} {ns : List Nd} : (evs m ns).length = 2 * ns.length := by
  unfold evs
  rw [List.length_append, List.length_map, List.length_reverse, evo_len]; simp
theorem evo_run {m : Bool} : ∀ {r : List Nd} {p : Nat} {f : List Ev} {l : List Str} {ns : List Nd}, Chain p r → l.length = p → runE m f ([], []) = some (l, ns) →
    runE m (evo m r (f, l)).1 ([], []) = some ((evo m r (f, l)).2, ns ++ r) ∧ (evo m r (f, l)).2.length = lastD p r
  | [], p, f, l, ns, _, hl, h => ⟨by rw [List.append_nil]; exact h, hl⟩
  | (s, d) :: r, p, f, l, ns, ⟨c1, c2, c3⟩, hl, h => by
    have e : runE m (f ++ (l.drop (d - 1)).reverse.map (cof m) ++ [.op s]) ([], []) = some (l.take (d - 1) ++ [s], ns ++ [(s, d)]) := by
      rw [List.append_assoc, run_app, h]
      show runE m ((l.drop (d - 1)).reverse.map (cof m) ++ [.op s]) (l, ns) = _
      have k := run_closes (m := m) (ns := ns) (l.drop (d - 1)) (l.take (d - 1))
      rw [List.take_append_drop] at k
      rw [run_app, k]
      show (stp m (l.take (d - 1), ns) (.op s)).bind (runE m []) = _
      have q : (l.take (d - 1)).length = d - 1 := by rw [List.length_take]; omega
      have q2 : l.take (d - 1) ≠ [] := fun z => by rw [z] at q; simp at q; omega
      rw [stp_op, if_neg (fun z => q2 z.1)]
      show some (l.take (d - 1) ++ [s], ns ++ [(s, (l.take (d - 1)).length + 1)]) = _
      rw [q, Nat.sub_add_cancel (by omega)]
    have ql : (l.take (d - 1) ++ [s]).length = d := by rw [List.length_append, List.length_take]; simp; omega
    have := evo_run (m := m) (r := r) c3 ql e
    rw [List.append_assoc ns] at this
    exact this
/-- the way there and back -/
theorem run_evs {m : Bool} : ∀ {ns : List Nd}, Tree ns → runE m (evs m ns) ([], []) = some ([], ns)
  | [], h => h.elim
  | (s, d) :: r, ⟨h1, h2⟩ => by
    subst h1
    have k := evo_run (m := m) (r := r) (p := 1) (f := [.op s]) (l := [s]) (ns := [(s, 1)]) h2 rfl (by rfl)
    unfold evs
    have e : evo m ((s, 1) :: r) ([], []) = evo m r ([.op s], [s]) := rfl
    rw [e, run_app, k.1]
    show runE m ((evo m r ([.op s], [s])).2.reverse.map (cof m)) ((evo m r ([.op s], [s])).2, [(s, 1)] ++ r) = _
    have := run_closes (m := m) (ns := [(s, 1)] ++ r) (evo m r ([.op s], [s])).2 []
    rw [List.nil_append] at this
    exact this
/-- what a runE has seen -/
structure Seen (m : Bool) (ev : List Ev) (l : List Str) (ns : List Nd) : Prop where
  le : l.length ≤ (evo m ns ([], [])).2.length
  tk : l = (evo m ns ([], [])).2.take l.length
  evq : ev = (evo m ns ([], [])).1 ++ ((evo m ns ([], [])).2.drop l.length).reverse.map (cof m)
  tr : ns = [] ∨ Tree ns
  la : ∀ s d r, ns = (s, d) :: r → (evo m ns ([], [])).2.length = lastD d r
  ne : ev ≠ [] → ns ≠ []
  l0 : l ≠ [] → ns ≠ []
  ct : ns.length ≤ ev.length
  lb : ∀ L : List Str, (∀ s, Ev.op s ∈ ev → s ∈ L) → (∀ p ∈ ns, p.1 ∈ L) ∧ ∀ s ∈ l, s ∈ L
theorem seen {m : Bool} : ∀ (ev : List Ev) {l : List Str} {ns : List Nd}, runE m ev ([], []) = some (l, ns) → Seen m ev l ns := by
  intro ev
  refine snoc_ind (P := fun ev => ∀ {l : List Str} {ns : List Nd}, runE m ev ([], []) = some (l, ns) → Seen m ev l ns) (fun {l ns} h => ?_) (fun ev e ih l ns h => ?_) ev
  · cases h
    exact ⟨Nat.le_refl _, rfl, rfl, .inl rfl, (fun _ _ _ z => nomatch z), (fun z => absurd rfl z), (fun z => absurd rfl z), Nat.le_refl _, fun _ _ => ⟨(fun _ z => nomatch z), (fun _ z => nomatch z)⟩⟩
  · rw [run_app] at h
    cases h0 : runE m ev ([], []) with
    | none => rw [h0] at h; cases h
    | some st =>
      obtain ⟨l0, n0⟩ := st
      rw [h0] at h
      have k := ih h0
      have h : (stp m (l0, n0) e).bind (runE m []) = some (l, ns) := h
      rcases Classical.em (∃ s, e = .op s) with ⟨s, rfl⟩ | ne
      · rw [stp_op] at h
        split at h
        · cases h
        · rename_i nn
          cases h
          have nn : l0 = [] → n0 = [] := fun z => by
            by_cases y : n0 = []
            · exact y
            · exact absurd ⟨z, y⟩ nn
          have e1 : evo m (n0 ++ [(s, l0.length + 1)]) ([], []) = ((evo m n0 ([], [])).1 ++ ((evo m n0 ([], [])).2.drop l0.length).reverse.map (cof m) ++ [.op s], (evo m n0 ([], [])).2.take l0.length ++ [s]) := by
            rw [evo_app]; rfl
          rw [← k.evq, ← k.tk] at e1
          refine ⟨?_, ?_, ?_, ?_, ?_, ?_, ?_, ?_, ?_⟩
          · show (l0 ++ [s]).length ≤ (evo m (n0 ++ [(s, l0.length + 1)]) ([], [])).2.length
            rw [e1]; exact Nat.le_refl _
          · show l0 ++ [s] = (evo m (n0 ++ [(s, l0.length + 1)]) ([], [])).2.take (l0 ++ [s]).length
            rw [e1]; exact (List.take_length).symm
          · show ev ++ [.op s] = (evo m (n0 ++ [(s, l0.length + 1)]) ([], [])).1 ++ ((evo m (n0 ++ [(s, l0.length + 1)]) ([], [])).2.drop (l0 ++ [s]).length).reverse.map (cof m)
            rw [e1]
            show ev ++ [.op s] = (ev ++ [.op s]) ++ ((l0 ++ [s]).drop (l0 ++ [s]).length).reverse.map (cof m)
            rw [List.drop_length]; simp
          · right
            show Tree (n0 ++ [(s, l0.length + 1)])
            cases n0 with
            | nil =>
              have : l0 = [] := by
                have := k.le
                exact List.eq_nil_of_length_eq_zero (Nat.le_zero.mp this)
              subst this
              exact ⟨rfl, trivial⟩
            | cons p r =>
              obtain ⟨t, d⟩ := p
              rcases k.tr with z | z
              · cases z
              · obtain ⟨rfl, z⟩ := z
                refine ⟨rfl, chain_snoc z ?_ ?_⟩
                · have : l0 ≠ [] := fun y => by cases nn y
                  have := List.length_pos_iff.mpr this
                  omega
                · have := k.la _ _ _ rfl
                  have := k.le
                  omega
          · intro t d r z
            have z : n0 ++ [(s, l0.length + 1)] = (t, d) :: r := z
            show (evo m (n0 ++ [(s, l0.length + 1)]) ([], [])).2.length = _
            rw [e1]
            show (l0 ++ [s]).length = _
            rw [List.length_append]
            cases n0 with
            | nil => cases z; rfl
            | cons p r0 =>
              cases z
              show _ = lastD d (r0 ++ [(s, l0.length + 1)])
              rw [lastD_snoc]; rfl
          · intro _ z
            have z : n0 ++ [(s, l0.length + 1)] = [] := z
            simp at z
          · intro _ z
            have z : n0 ++ [(s, l0.length + 1)] = [] := z
            simp at z
          · show (n0 ++ [(s, l0.length + 1)]).length ≤ (ev ++ [Ev.op s]).length
            have := k.ct
            simp only [List.length_append, List.length_cons, List.length_nil]; omega
          · intro L hL
            obtain ⟨k1, k2⟩ := k.lb L fun t ht => hL t (List.mem_append_left _ ht)
            have hs : s ∈ L := hL s (List.mem_append_right _ List.mem_cons_self)
            refine ⟨fun p hp => ?_, fun t ht => ?_⟩
            · rcases List.mem_append.mp hp with q | q
              · exact k1 p q
              · cases List.mem_singleton.mp q; exact hs
            · rcases List.mem_append.mp ht with q | q
              · exact k2 t q
              · cases List.mem_singleton.mp q; exact hs
      · have ne : ∀ t, e ≠ .op t := fun t z => ne ⟨t, z⟩
        · rcases List.eq_nil_or_concat l0 with z | ⟨l1, s, z⟩
          · subst z
            rw [stp_nil ne] at h
            cases h
          · rw [List.concat_eq_append] at z
            subst z
            rw [stp_close ne] at h
            split at h
            · rename_i ce
              obtain ⟨rfl, rfl⟩ := Prod.mk.inj (Option.some.inj (show some (l1, n0) = some (l, ns) from h))
              have hl : (l1 ++ [s]).length = l1.length + 1 := by simp
              have tk : l1 ++ [s] = (evo m n0 ([], [])).2.take (l1.length + 1) := by have := k.tk; rwa [hl] at this
              have tk1 : l1 = (evo m n0 ([], [])).2.take l1.length := by
                have := congrArg (List.take l1.length) tk
                rw [List.take_take, Nat.min_eq_left (by omega)] at this
                simpa using this
              refine ⟨by have := k.le; rw [hl] at this; omega, tk1, ?_, k.tr, k.la, fun _ => k.l0 (by simp), fun _ => k.l0 (by simp), Nat.le_trans k.ct (by simp), fun L hL => ?_⟩
              · have dr : (evo m n0 ([], [])).2.drop l1.length = s :: (evo m n0 ([], [])).2.drop (l1.length + 1) := by
                  have q : l1.length < (evo m n0 ([], [])).2.length := by have := k.le; rw [hl] at this; omega
                  rw [List.drop_eq_getElem_cons q]
                  congr 1
                  have := congrArg (fun x => x[l1.length]?) tk
                  simp only [List.getElem?_take] at this
                  rw [List.getElem?_append_right (Nat.le_refl _), Nat.sub_self] at this
                  rw [if_pos (by omega), List.getElem?_eq_getElem q] at this
                  exact (Option.some.inj this).symm
                have ke := k.evq
                rw [hl] at ke
                show ev ++ [_] = _ ++ ((evo m n0 ([], [])).2.drop l1.length).reverse.map (cof m)
                rw [dr, List.reverse_cons, List.map_append, ← List.append_assoc, ← ke, ← ce]; rfl
              · obtain ⟨k1, k2⟩ := k.lb L fun t ht => hL t (List.mem_append_left _ ht)
                exact ⟨k1, fun t ht => k2 t (List.mem_append_left _ ht)⟩
            · cases h
/-- back and there -/
theorem evs_run {m : Bool} {ev : List Ev} {ns : List Nd} (h : runE m ev ([], []) = some ([], ns)) : evs m ns = ev := by
  have := (seen ev h).evq
  rw [List.length_nil, List.drop_zero] at this
  exact this.symm
theorem run_pre {m : Bool} {a b : List Ev} {st st2 : Stt} (h : runE m (a ++ b) st = some st2) : ∃ st1, runE m a st = some st1 ∧ runE m b st1 = some st2 := by
  rw [run_app] at h
  cases e : runE m a st with
  | none => rw [e] at h; cases h
  | some st1 => rw [e] at h; exact ⟨st1, rfl, h⟩
theorem run_all {m : Bool} {ev : List Ev} {l : List Str} {ns : List Nd} (h : runE m ev ([], []) = some (l, ns)) : runE m (ev ++ l.reverse.map (cof m)) ([], []) = some ([], ns) := by
  rw [run_app, h]
  have := run_closes (m := m) (ns := ns) l []
  rw [List.nil_append] at this
  exact this
end Law
end Zed
end
section
set_option Elab.async false
set_option linter.all false
/-! M02: documents by their nodes: the plain law of k02. -/
namespace Zed
namespace Law
open PySem L2
/-! ### ways, closes -/
def wsF (w : List Str) : List Nd → List (List Str)
  | [] => []
  | (s, d) :: r => (w.take (d - 1) ++ [s]) :: wsF (w.take (d - 1) ++ [s]) r
def lastW (w : List Str) : List Nd → List Str
  | [] => w
  | (s, d) :: r => lastW (w.take (d - 1) ++ [s]) r
theorem wsF_app : ∀ {a b : List Nd} {w : List Str}, wsF w (a ++ b) = wsF w a ++ wsF (lastW w a) b
  | [], _, _ => rfl
  | (s, d) :: a, b, w => by simp only [List.cons_append, wsF, lastW, wsF_app]
theorem lastW_app : ∀ {a b : List Nd} {w : List Str}, lastW w (a ++ b) = lastW (lastW w a) b
  | [], _, _ => rfl
  | (s, d) :: a, b, w => by simp only [List.cons_append, lastW, lastW_app]
theorem wsF_len : ∀ {a : List Nd} {w : List Str}, (wsF w a).length = a.length
  | [], _ => rfl
  | (s, d) :: a, w => by simp only [wsF, List.length_cons, wsF_len]
/-- what is closed so far, what is open -/
def clS : Nat → List Nd → List Int × List Int → List Int × List Int
  | _, [], st => st
  | i, (_, d) :: r, st => clS (i + 1) r (st.1 ++ (st.2.drop (d - 1)).reverse, st.2.take (d - 1) ++ [(i : Int)])
theorem clS_app : ∀ {a b : List Nd} {i : Nat} {st : List Int × List Int}, clS i (a ++ b) st = clS (i + a.length) b (clS i a st)
  | [], _, _, _ => rfl
  | (s, d) :: a, b, i, st => by
    simp only [List.cons_append, clS, clS_app, List.length_cons]
    rw [show i + 1 + a.length = i + (a.length + 1) by omega]
def clF (ns : List Nd) : List Int := (clS 0 ns ([], [])).1 ++ (clS 0 ns ([], [])).2.reverse
theorem clS_len : ∀ {a : List Nd} {i : Nat} {st : List Int × List Int}, (clS i a st).1.length + (clS i a st).2.length = st.1.length + st.2.length + a.length
  | [], _, _ => rfl
  | (s, d) :: a, i, st => by
    simp only [clS, clS_len, List.length_cons, List.length_append, List.length_reverse, List.length_drop, List.length_take, List.length_nil]
    omega
theorem clF_len (ns : List Nd) : (clF ns).length = ns.length := by
  have := clS_len (a := ns) (i := 0) (st := ([], []))
  simp only [clF, List.length_append, List.length_reverse]
  simpa using this
/-! ### a tree's ways are as long as its depths -/
theorem chain_ways : ∀ {ns : List Nd} {w : List Str}, Chain w.length ns → (wsF w ns).map List.length = ns.map (·.2)
  | [], _, _ => rfl
  | (s, d) :: r, w, ⟨h1, h2, h3⟩ => by
    have e : (w.take (d - 1) ++ [s]).length = d := by simp only [List.length_append, List.length_take, List.length_cons, List.length_nil]; omega
    simp only [wsF, List.map_cons, e]
    rw [chain_ways (w := w.take (d - 1) ++ [s]) (by rw [e]; exact h3)]
theorem tree_ways {ns : List Nd} (t : Tree ns) : (wsF [] ns).map List.length = ns.map (·.2) := by
  cases ns with
  | nil => rfl
  | cons p r =>
    obtain ⟨s, d⟩ := p
    obtain ⟨rfl, c⟩ := t
    simp only [wsF, List.map_cons]
    have e : (([] : List Str).take (1 - 1) ++ [s]).length = 1 := rfl
    rw [chain_ways (w := ([] : List Str).take (1 - 1) ++ [s]) (by rw [e]; exact c)]
    rfl
/-! ### the end of a node -/
/-- how many of the rows are deeper than t, from the first on -/
def deeper (t : Nat) : List Nd → Nat
  | [] => 0
  | (_, d) :: r => if d ≤ t then 0 else deeper t r + 1
theorem deeper_le (t : Nat) : ∀ r : List Nd, deeper t r ≤ r.length
  | [] => Nat.le_refl _
  | (_, d) :: r => by
    unfold deeper
    split
    · exact Nat.zero_le _
    · have := deeper_le t r
      rw [List.length_cons]; omega
theorem deeper_mem (t : Nat) : ∀ r : List Nd, ∀ p ∈ r.take (deeper t r), t < p.2
  | [], p, h => by simp [deeper] at h
  | (s, d) :: r, p, h => by
    unfold deeper at h
    split at h
    · simp at h
    · rw [List.take_succ_cons] at h
      rcases List.mem_cons.mp h with rfl | h
      · show t < d; omega
      · exact deeper_mem t r p h
theorem deeper_at (t : Nat) : ∀ (r : List Nd) (p : Nd), r[deeper t r]? = some p → p.2 ≤ t
  | [], p, h => by simp [deeper] at h
  | (s, d) :: r, p, h => by
    unfold deeper at h
    split at h
    · simp at h; rw [← h]; assumption
    · simp only [List.getElem?_cons_succ] at h
      exact deeper_at t r p h
theorem deeper_app {t : Nat} : ∀ {a b : List Nd}, (∀ p ∈ a, t < p.2) → deeper t (a ++ b) = a.length + deeper t b
  | [], b, _ => by simp
  | (s, d) :: a, b, h => by
    have h1 : t < d := h (s, d) List.mem_cons_self
    simp only [List.cons_append, deeper, List.length_cons]
    rw [if_neg (by omega), deeper_app fun p hp => h p (List.mem_cons_of_mem _ hp)]
    omega
theorem deeper_stop {t : Nat} : ∀ {b : List Nd}, (∀ p, b[0]? = some p → p.2 ≤ t) → deeper t b = 0
  | [], _ => rfl
  | (s, d) :: b, h => by
    unfold deeper
    rw [if_pos (h (s, d) rfl)]
/-- the index behind the last node below node i, of depth t -/
def endF (ns : List Nd) (i t : Nat) : Nat := i + 1 + deeper t (ns.drop (i + 1))
/-- the nodes below node i (with it), seen from it -/
def blw (ns : List Nd) (i t : Nat) : List Nd := ((ns.take (endF ns i t)).drop i).map fun p => (p.1, p.2 - t + 1)
/-- the nodes with others behind those below node i -/
def moreF (ns : List Nd) (i t : Nat) (os : List Nd) : List Nd := ns.take (endF ns i t) ++ os.map (fun p => (p.1, p.2 + t)) ++ ns.drop (endF ns i t)
theorem endF_le {ns : List Nd} {i t : Nat} (h : i < ns.length) : endF ns i t ≤ ns.length := by
  have := deeper_le t (ns.drop (i + 1))
  rw [List.length_drop] at this
  unfold endF
  omega
theorem endF_gt {ns : List Nd} {i t : Nat} : i < endF ns i t := by unfold endF; omega
theorem split_at : ∀ {ns : List Nd} {i : Nat} {p : Nd}, ns[i]? = some p → ns = ns.take i ++ p :: ns.drop (i + 1)
  | [], _, _, h => by simp at h
  | q :: r, 0, p, h => by simp at h; subst h; rfl
  | q :: r, i + 1, p, h => by
    have := split_at (ns := r) (i := i) (by simpa using h)
    simp only [List.take_succ_cons, List.drop_succ_cons, List.cons_append]
    exact congrArg _ this
/-- the parts: ahead, the node, below it, behind -/
theorem parts {ns : List Nd} {i t : Nat} {s : Str} (h : ns[i]? = some (s, t)) :
    ∃ a b c, ns = a ++ (s, t) :: (b ++ c) ∧ a.length = i ∧ (∀ p ∈ b, t < p.2) ∧ (∀ p, c[0]? = some p → p.2 ≤ t) ∧ endF ns i t = i + 1 + b.length ∧ b.length = deeper t (ns.drop (i + 1)) := by
  have e := split_at h
  have hi : i < ns.length := (List.getElem?_eq_some_iff.mp h).1
  refine ⟨ns.take i, (ns.drop (i + 1)).take (deeper t (ns.drop (i + 1))), (ns.drop (i + 1)).drop (deeper t (ns.drop (i + 1))), ?_, ?_, deeper_mem t _, ?_, ?_, ?_⟩
  · rw [List.take_append_drop]; exact e
  · rw [List.length_take]; omega
  · intro p hp
    rw [List.getElem?_drop, Nat.add_zero] at hp
    exact deeper_at t _ p hp
  · have := deeper_le t (ns.drop (i + 1))
    rw [List.length_take, Nat.min_eq_left this]; rfl
  · rw [List.length_take, Nat.min_eq_left (deeper_le t _)]
theorem blw_parts {ns a b c : List Nd} {i t : Nat} {s : Str} (e : ns = a ++ (s, t) :: (b ++ c)) (ha : a.length = i) (he : endF ns i t = i + 1 + b.length) : blw ns i t = ((s, t) :: b).map fun p => (p.1, p.2 - t + 1) := by
  unfold blw
  rw [he, e]
  congr 1
  subst ha
  rw [List.take_append, List.take_of_length_le (by omega), show a.length + 1 + b.length - a.length = b.length + 1 by omega, List.take_succ_cons, List.take_append, List.take_of_length_le (Nat.le_refl _), Nat.sub_self, List.take_zero, List.append_nil, List.drop_append, List.drop_of_length_le (Nat.le_refl _), Nat.sub_self]
  rfl
theorem more_parts {ns a b c os : List Nd} {i t : Nat} {s : Str} (e : ns = a ++ (s, t) :: (b ++ c)) (ha : a.length = i) (he : endF ns i t = i + 1 + b.length) : moreF ns i t os = (a ++ (s, t) :: b) ++ os.map (fun p => (p.1, p.2 + t)) ++ c := by
  unfold moreF
  have e2 : ns = (a ++ (s, t) :: b) ++ c := by rw [e]; simp
  have hl : (a ++ (s, t) :: b).length = endF ns i t := by rw [he, ← ha]; simp; omega
  rw [← hl, e2, List.take_left, List.drop_left]
/-! ### trees -/
theorem chain_app : ∀ {a b : List Nd} {p : Nat}, Chain p (a ++ b) ↔ Chain p a ∧ Chain (lastD p a) b
  | [], b, p => by simp [Chain, lastD]
  | (s, d) :: a, b, p => by
    simp only [List.cons_append, Chain, lastD, chain_app]
    constructor
    · rintro ⟨h1, h2, h3, h4⟩; exact ⟨⟨h1, h2, h3⟩, h4⟩
    · rintro ⟨⟨h1, h2, h3⟩, h4⟩; exact ⟨h1, h2, h3, h4⟩
theorem chain_up {b : List Nd} {p t : Nat} (h : Chain p b) (h1 : ∀ q ∈ b, 2 ≤ q.2 + t) : Chain (p + t) (b.map fun q => (q.1, q.2 + t)) := by
  induction b generalizing p with
  | nil => trivial
  | cons q r ih =>
    obtain ⟨s, d⟩ := q
    obtain ⟨c1, c2, c3⟩ := h
    exact ⟨by show 2 ≤ d + t; omega, by show d + t ≤ p + t + 1; omega, ih c3 fun q hq => h1 q (List.mem_cons_of_mem _ hq)⟩
theorem chain_down {b : List Nd} {p t : Nat} (h : Chain p b) (hp : t ≤ p) (h1 : ∀ q ∈ b, t < q.2) : Chain (p - t + 1) (b.map fun q => (q.1, q.2 - t + 1)) := by
  induction b generalizing p with
  | nil => trivial
  | cons q r ih =>
    obtain ⟨s, d⟩ := q
    obtain ⟨c1, c2, c3⟩ := h
    have d1 : t < d := h1 (s, d) List.mem_cons_self
    exact ⟨by show 2 ≤ d - t + 1; omega, by show d - t + 1 ≤ p - t + 1 + 1; omega, ih c3 (by omega) fun q hq => h1 q (List.mem_cons_of_mem _ hq)⟩
/-- a tree's rows, cut at a place: the chain behind it -/
theorem tree_cut {a c : List Nd} {s : Str} {t : Nat} (h : Tree (a ++ (s, t) :: c)) : Chain t c ∧ 1 ≤ t := by
  cases a with
  | nil => obtain ⟨rfl, h⟩ := h; exact ⟨h, Nat.le_refl _⟩
  | cons q a =>
    obtain ⟨u, d⟩ := q
    obtain ⟨rfl, h⟩ := h
    have h := (chain_app.mp h).2
    exact ⟨h.2.2, by have := h.1; omega⟩
theorem blw_tree {ns : List Nd} {i t : Nat} {s : Str} (h : ns[i]? = some (s, t)) (tr : Tree ns) : Tree (blw ns i t) := by
  obtain ⟨a, b, c, e, ha, hb, hc, he, _⟩ := parts h
  rw [blw_parts e ha he]
  rw [e] at tr
  obtain ⟨k, t1⟩ := tree_cut tr
  have k1 := (chain_app.mp k).1
  refine ⟨by show t - t + 1 = 1; omega, ?_⟩
  have := chain_down k1 (Nat.le_refl t) hb
  rwa [Nat.sub_self] at this
theorem lastD_map {t : Nat} : ∀ {b : List Nd} {p : Nat}, lastD (p + t) (b.map fun q => (q.1, q.2 + t)) = lastD p b + t
  | [], _ => rfl
  | (_, d) :: b, p => by simp only [List.map_cons, lastD]; exact lastD_map
theorem lastD_ge {t : Nat} : ∀ {b : List Nd} {p : Nat}, t ≤ p → (∀ q ∈ b, t < q.2) → t ≤ lastD p b
  | [], _, h, _ => h
  | (s, d) :: b, p, h, hb => by
    have z : t < d := hb (s, d) List.mem_cons_self
    show t ≤ lastD d b
    exact lastD_ge (Nat.le_of_lt z) fun q hq => hb q (List.mem_cons_of_mem _ hq)
theorem chain_len1 {b : List Nd} {p : Nat} (h : Chain p b) : ∀ q ∈ b, 2 ≤ q.2 := by
  induction b generalizing p with
  | nil => intro q hq; cases hq
  | cons r b ih =>
    obtain ⟨s, d⟩ := r
    obtain ⟨c1, c2, c3⟩ := h
    intro q hq
    rcases List.mem_cons.mp hq with rfl | hq
    · exact c1
    · exact ih c3 q hq
theorem lastD_pos {b : List Nd} {p : Nat} (hp : 1 ≤ p) (h : Chain p b) : 1 ≤ lastD p b := by
  induction b generalizing p with
  | nil => exact hp
  | cons r b ih =>
    obtain ⟨s, d⟩ := r
    obtain ⟨c1, c2, c3⟩ := h
    exact ih (by omega) c3
theorem more_tree {ns os : List Nd} {i t : Nat} {s : Str} (h : ns[i]? = some (s, t)) (tr : Tree ns) (to : Tree os) : Tree (moreF ns i t os) := by
  obtain ⟨a, b, c, e, ha, hb, hc, he, _⟩ := parts h
  rw [more_parts e ha he]
  rw [e] at tr
  obtain ⟨k, t1⟩ := tree_cut tr
  have k1 := (chain_app.mp k).1
  have k2 := (chain_app.mp k).2
  have g1 : t ≤ lastD t b := lastD_ge (Nat.le_refl t) hb
  -- the chain of the others, one level below the node
  have ch : Chain (lastD t b) (os.map (fun p => (p.1, p.2 + t)) ++ c) := by
    refine chain_app.mpr ?_
    cases os with
    | nil => exact to.elim
    | cons q r =>
      obtain ⟨u, d⟩ := q
      obtain ⟨rfl, co⟩ := to
      have cu : Chain (1 + t) (r.map fun q => (q.1, q.2 + t)) := chain_up co fun q hq => by have := chain_len1 co q hq; omega
      refine ⟨⟨by show 2 ≤ 1 + t; omega, by show 1 + t ≤ lastD t b + 1; omega, cu⟩, ?_⟩
      show Chain (lastD (1 + t) (r.map fun q => (q.1, q.2 + t))) c
      rw [lastD_map]
      have lp := lastD_pos (Nat.le_refl 1) co
      cases c with
      | nil => trivial
      | cons w c =>
        obtain ⟨v, f⟩ := w
        have f1 := hc (v, f) rfl
        obtain ⟨z1, z2, z3⟩ := k2
        exact ⟨z1, by show f ≤ lastD 1 r + t + 1; have : f ≤ t := f1; omega, z3⟩
  cases a with
  | nil =>
    obtain ⟨rfl, _⟩ := tr
    show Tree ((s, 1) :: (b ++ os.map (fun p => (p.1, p.2 + 1)) ++ c))
    refine ⟨rfl, ?_⟩
    rw [List.append_assoc]
    exact chain_app.mpr ⟨k1, ch⟩
  | cons q a =>
    obtain ⟨u, d⟩ := q
    obtain ⟨rfl, tr⟩ := tr
    obtain ⟨z1, z2⟩ := chain_app.mp tr
    show Tree ((u, 1) :: (a ++ (s, t) :: b ++ os.map (fun p => (p.1, p.2 + t)) ++ c))
    refine ⟨rfl, ?_⟩
    rw [List.append_assoc, List.append_assoc]
    refine chain_app.mpr ⟨z1, ?_⟩
    rw [List.cons_append]
    obtain ⟨y1, y2, y3⟩ := z2
    exact ⟨y1, y2, chain_app.mpr ⟨k1, ch⟩⟩
/-! ### the others, found again; the whole from its root -/
theorem blw_more {ns os : List Nd} {i t : Nat} {s : Str} (h : ns[i]? = some (s, t)) (tr : Tree ns) (to : Tree os) :
    (∃ u, (moreF ns i t os)[endF ns i t]? = some (u, 1 + t)) ∧ blw (moreF ns i t os) (endF ns i t) (1 + t) = os := by
  obtain ⟨a, b, c, e, ha, hb, hc, he, _⟩ := parts h
  rw [more_parts e ha he]
  cases os with
  | nil => exact to.elim
  | cons q r =>
    obtain ⟨u, d⟩ := q
    obtain ⟨rfl, co⟩ := to
    have hl : (a ++ (s, t) :: b).length = endF ns i t := by rw [he, ← ha]; simp; omega
    have hr : ∀ q ∈ r.map (fun p : Nd => (p.1, p.2 + t)), 1 + t < q.2 := fun q hq => by
      obtain ⟨p, hp, rfl⟩ := List.mem_map.mp hq
      have := chain_len1 co p hp
      show 1 + t < p.2 + t
      omega
    have hc' : ∀ p, c[0]? = some p → p.2 ≤ 1 + t := fun p hp => Nat.le_trans (hc p hp) (Nat.le_add_left _ _)
    have em : (a ++ (s, t) :: b) ++ (((u, 1) :: r).map fun p : Nd => (p.1, p.2 + t)) ++ c = (a ++ (s, t) :: b) ++ (u, 1 + t) :: ((r.map fun p : Nd => (p.1, p.2 + t)) ++ c) := by simp
    rw [em]
    have dr : ((a ++ (s, t) :: b) ++ (u, 1 + t) :: ((r.map fun p : Nd => (p.1, p.2 + t)) ++ c)).drop (endF ns i t + 1) = (r.map fun p : Nd => (p.1, p.2 + t)) ++ c := by
      rw [← hl, List.drop_append, List.drop_of_length_le (by omega), show (a ++ (s, t) :: b).length + 1 - (a ++ (s, t) :: b).length = 1 by omega]
      rfl
    have ee : endF ((a ++ (s, t) :: b) ++ (u, 1 + t) :: ((r.map fun p : Nd => (p.1, p.2 + t)) ++ c)) (endF ns i t) (1 + t) = endF ns i t + 1 + (r.map fun p : Nd => (p.1, p.2 + t)).length := by
      conv => lhs; unfold endF
      rw [show i + 1 + deeper t (ns.drop (i + 1)) = endF ns i t from rfl, dr, deeper_app hr, deeper_stop hc']
      rfl
    refine ⟨⟨u, ?_⟩, ?_⟩
    · rw [List.getElem?_append_right (by omega), hl, Nat.sub_self]; rfl
    · rw [blw_parts (a := a ++ (s, t) :: b) (s := u) (b := r.map fun p : Nd => (p.1, p.2 + t)) (c := c) rfl hl ee]
      simp only [List.map_cons, List.map_map]
      congr 1
      · simp
      · have : ∀ p ∈ r, ((fun p : Nd => (p.1, p.2 - (1 + t) + 1)) ∘ fun p => (p.1, p.2 + t)) p = p := fun p hp => by
          have := chain_len1 co p hp
          show (p.1, p.2 + t - (1 + t) + 1) = p
          rw [show p.2 + t - (1 + t) + 1 = p.2 by omega]
        exact (List.map_congr_left this).trans (List.map_id _)
theorem blw_root {ns : List Nd} (tr : Tree ns) : blw ns 0 1 = ns := by
  cases ns with
  | nil => exact tr.elim
  | cons p r =>
    obtain ⟨s, d⟩ := p
    obtain ⟨rfl, c⟩ := tr
    have hr : ∀ q ∈ r, 1 < q.2 := fun q hq => chain_len1 c q hq
    have e : endF ((s, 1) :: r) 0 1 = 0 + 1 + r.length := by
      unfold endF
      have := deeper_app (t := 1) (a := r) (b := []) hr
      rw [List.append_nil] at this
      show 0 + 1 + deeper 1 r = _
      rw [this]; rfl
    rw [blw_parts (ns := (s, 1) :: r) (i := 0) (a := []) (s := s) (b := r) (c := []) (by simp) rfl e]
    simp only [List.map_cons]
    congr 1
    have : ∀ p ∈ r, (fun p : Nd => (p.1, p.2 - 1 + 1)) p = p := fun p hp => by
      have := hr p hp
      show (p.1, p.2 - 1 + 1) = p
      rw [show p.2 - 1 + 1 = p.2 by omega]
    exact (List.map_congr_left this).trans (List.map_id _)
theorem more_len {ns os : List Nd} {i t : Nat} (h : i < ns.length) : (moreF ns i t os).length = ns.length + os.length := by
  have := endF_le (t := t) h
  unfold moreF
  simp only [List.length_append, List.length_take, List.length_map, List.length_drop]
  omega
theorem blw_len {ns : List Nd} {i t : Nat} : (blw ns i t).length ≤ ns.length := by
  unfold blw
  simp only [List.length_map, List.length_drop, List.length_take]
  omega
theorem blw_lab {ns : List Nd} {i t : Nat} {P : Str → Prop} (h : ∀ p ∈ ns, P p.1) : ∀ p ∈ blw ns i t, P p.1 := fun p hp => by
  obtain ⟨q, hq, rfl⟩ := List.mem_map.mp hp
  exact h q (List.mem_of_mem_take (List.mem_of_mem_drop hq))
theorem more_lab {ns os : List Nd} {i t : Nat} {P : Str → Prop} (h : ∀ p ∈ ns, P p.1) (k : ∀ p ∈ os, P p.1) : ∀ p ∈ moreF ns i t os, P p.1 := fun p hp => by
  rcases List.mem_append.mp hp with hp | hp
  · rcases List.mem_append.mp hp with hp | hp
    · exact h p (List.mem_of_mem_take hp)
    · obtain ⟨q, hq, rfl⟩ := List.mem_map.mp hp
      exact k q hq
  · exact h p (List.mem_of_mem_drop hp)
end Law
end Zed
end
section
set_option Elab.async false
set_option linter.all false
set_option maxRecDepth 100000
set_option maxHeartbeats 1000000
/-! D03b: rows: what is one. -/
namespace Zed
namespace Law
open PySem L2
def labA : List Str := ["a", "b", "node", "abcdefgh", "", "A", "a b", "abcdefghi", "a.b"]
def okLab (s : Str) : Bool := (["a", "b", "node", "abcdefgh"] : List Str).contains s
/-- simple values: all but texts -/
def cellB : PV → Bool
  | .non | .bl _ | .int _ | .tup _ | .fz (.lst _) | .fz (.dic []) => true
  | .str x => decide (x.length ≤ 100)
  | _ => false
def isStr : PV → Bool
  | .str _ => true
  | _ => false
/-- the rows that come: a text that stands ahead in a pair is one of a few -/
def rowD : PV → Bool
  | .tup [a, d] => cellB a && cellB d && (match a with | .str s => labA.contains s | _ => true)
  | v => cellB v
def ndJ : PV → Bool
  | .tup [.str s, .int _] => okLab s
  | _ => false
theorem t_is_name : TB 1 = some f_is_name := rfl
theorem run_name : ∀ s ∈ labA, ∀ (C : Orc) (h : PHeap), exSs C f_is_name.body [some (.str s), none] h = .rt (.bl (okLab s)) h := by
  intro s hs
  simp only [labA, List.mem_cons, List.not_mem_nil, or_false] at hs
  rcases hs with rfl | rfl | rfl | rfl | rfl | rfl | rfl | rfl | rfl <;> (intro C h; rfl)
theorem ok_is_name {n : Nat} {h : PHeap} {s : Str} (hs : s ∈ labA) : Ok (cl (n + 1) 1 [.str s] h) fun d h' => d = .bl (okLab s) ∧ h' = h := by
  refine (f_call t_is_name rfl rfl).mpr ?_
  have e := run_name s hs ⟨cl n, CT⟩ h
  show OkS (exSs _ f_is_name.body [some (.str s), none] h) _ _
  rw [e]
  exact sl_same rfl ⟨rfl, rfl⟩
theorem ok_is_nameN {n : Nat} {h : PHeap} {v : PV} (c : cellB v = true) (ns : isStr v = false) : Ok (cl (n + 1) 1 [v] h) fun d h' => d = .bl false ∧ h' = h := by
  refine (f_call t_is_name rfl rfl).mpr ?_
  (unfold f_is_name; dsimp only [List.map, List.append, HAppend.hAppend, Append.append, List.replicate, Nat.reduceSub])
  unfold cellB at c
  split at c <;> first | (walk_at "zw"; exact sl_same rfl ⟨rfl, rfl⟩) | (cases ns; done) | (cases c; done)
theorem len_ne2 {ds : List PV} (nn : ∀ a b, PV.tup ds = .tup [a, b] → False) : (fun x : Bool => !x) ((PyData.int ds.length).eqv (.int 2)) = true := by
  show (!((ds.length : Int) == 2)) = true
  cases z : ((ds.length : Int) == 2) with
  | false => rfl
  | true =>
    exfalso
    have z : (ds.length : Int) = 2 := by simpa using z
    have z : ds.length = 2 := by omega
    match ds, z with
    | [a, b], _ => exact nn a b rfl
theorem ndJ_tup : ∀ {ds : List PV}, (∀ a b, PV.tup ds = .tup [a, b] → False) → ndJ (.tup ds) = false
  | [], _ => rfl
  | [a], _ => by unfold ndJ; cases a <;> rfl
  | [a, b], nn => (nn a b rfl).elim
  | a :: b :: c :: r, _ => by unfold ndJ; cases a <;> first | rfl | (cases b <;> rfl)
theorem t_is_node : TB 44 = some f_is_node := rfl
theorem ok_is_node {n : Nat} {h : PHeap} {r : PV} (c : rowD r = true) : Ok (cl (n + 2) 44 [r] h) fun d h' => d = .bl (ndJ r) ∧ h' = h := by
  refine (f_call t_is_node rfl rfl).mpr ?_
  (unfold f_is_node; dsimp only [List.map, List.append, HAppend.hAppend, Append.append, List.replicate, Nat.reduceSub])
  unfold rowD at c
  split at c
  · rename_i a d
    simp only [Bool.and_eq_true] at c
    obtain ⟨⟨c1, c2⟩, c3⟩ := c
    walk_at "zw"
    cases hs : isStr a with
    | false =>
      refine (ok_is_nameN (n := n) c1 hs).mono fun x h1 ⟨e1, e2⟩ => ?_
      subst e1; subst e2
      walk_at "zw"
      have : ndJ (.tup [a, d]) = false := by cases a <;> first | rfl | (cases hs)
      rw [this]
      exact sl_same rfl ⟨rfl, rfl⟩
    | true =>
      cases a <;> first | (cases hs; done) | skip
      rename_i s
      have hs : s ∈ labA := by simpa using c3
      refine (ok_is_name (n := n) hs).mono fun x h1 ⟨e1, e2⟩ => ?_
      subst e1; subst e2
      cases ho : okLab s with
      | false =>
        walk_at "zw"
        have : ndJ (.tup [.str s, d]) = false := by cases d <;> first | rfl | exact ho
        rw [this]
        exact sl_same rfl ⟨rfl, rfl⟩
      | true =>
        unfold cellB at c2
        split at c2 <;> first | (walk_at "zw"; exact sl_same rfl ⟨rfl, rfl⟩) | (cases c2; done) | (walk_at "zw"; rw [show ndJ _ = okLab s from rfl, ho]; exact sl_same rfl ⟨rfl, rfl⟩)
  · rename_i v nn
    unfold cellB at c
    split at c <;> first | (cases c; done) | skip
    all_goals first | (walk_at "zw"; exact sl_same rfl ⟨rfl, rfl⟩) | skip
    rename_i ds
    walk_at "zw"
    refine br_t (len_ne2 nn) ?_
    walk_at "zw"
    rw [ndJ_tup nn]
    refine br_t (len_ne2 nn) ?_
    walk_at "zw"
    exact sl_same rfl ⟨rfl, rfl⟩
/-! ### the law's look -/
theorem eqD_nil {h : PHeap} {v : PV} {xs : List PV} {d : PyData} (e : lstOf h v = some xs) (t : toD h 70 v = some d) (s : SeqAt.shaped d = true) : eqD h v (.fl []) = some xs.isEmpty := by
  have s0 : SeqAt.shaped (.list []) = true := by decide +kernel
  have e1 : eqD h v (.fl []) = some (PyData.eqv d (.list [])) := by
    unfold eqD
    rw [t, show toD h 70 (.fl []) = some (.list []) from rfl]
    exact if_pos ⟨s, s0⟩
  have e2 := eq_nil e
  unfold eqF at e2
  rw [e1] at e2 ⊢
  exact e2
theorem okO_ne_nil {h : PHeap} {v : PV} {xs : List PV} {d : PyData} {Q : Bool → Prop} (e : lstOf h v = some xs) (t : toD h 70 v = some d) (s : SeqAt.shaped d = true) (q : Q (!xs.isEmpty)) : OkO (cmpB .ne h v (.fl [])) Q :=
  okO_of (show (eqD h v (.fl [])).map _ = some (!xs.isEmpty) by rw [eqD_nil e t s]; rfl) q

def dOf : PV → Int
  | .tup [_, .int d] => d
  | _ => 0
def mn (last : Int) : Int := if last + 1 < 2 then last + 1 else 2
def rgt : Int → List PV → Bool
  | _, [] => true
  | last, r :: rs => ndJ r && (!decide (last + 1 < dOf r) && !decide (dOf r < mn last)) && rgt (dOf r) rs
def isR (rs : List PV) : Bool := decide (1 ≤ rs.length) && decide (rs.length ≤ 40) && rgt 0 rs
def badL (s : Str) : List PV := if s = "A" then [.str "A"] else if s = "a b" then [.str " "] else if s = "a.b" then [.str "."] else []
def exBad : Ex := .lc true (.loc 4) (.nm 4) (.val (.sub (.loc 2) (.con (.int 0)))) (.yes (.cmp .notin (.loc 4) (.con (.str "abcdefghijklmnopqrstuvwxyz")))) [4]
def exC2 : Ex := .or (.cmp .ne (.loc 3) (.lst true .nil)) (.or (.not (.chn .le .le (.con (.int 1)) (.blt .len (.cons (.sub (.loc 2) (.con (.int 0))) .nil)) (.con (.int 8)))) (.blt .isinstance (.cons (.sub (.loc 2) (.con (.int 1))) (.cons (.con (.ty "bool")) .nil))))
theorem run_bad : ∀ s ∈ labA, ∀ (C : Orc) (h : PHeap) (a b c d : Option PV) (v : PV), lcLoop (.nm 4) (.seq (s.cps.toList.map fun c => .str ⟨#[c]⟩)) (evT1 C (.yes (.cmp .notin (.loc 4) (.con (.str "abcdefghijklmnopqrstuvwxyz"))))) (evE C (.loc 4)) (wipeP [a, b, some (.tup [.str s, v]), c, d] [4]) (srcLen h (.seq (s.cps.toList.map fun c => .str ⟨#[c]⟩)) + 1) 0 [] h = .ok (badL s) h := by
  intro s hs
  simp only [labA, List.mem_cons, List.not_mem_nil, or_false] at hs
  rcases hs with rfl | rfl | rfl | rfl | rfl | rfl | rfl | rfl | rfl <;> (intro C h a b c d v; rfl)
theorem run_c2i : ∀ s ∈ labA, ∀ (C : Orc) (h : PHeap) (a b d : Option PV) (i : Int), Ok (evE C exC2 [a, b, some (.tup [.str s, .int i]), some (.fl (badL s)), d] h) fun v h' => v = .bl (!okLab s) ∧ h' = h := by
  intro s hs
  simp only [labA, List.mem_cons, List.not_mem_nil, or_false] at hs
  unfold exC2
  rcases hs with rfl | rfl | rfl | rfl | rfl | rfl | rfl | rfl | rfl <;> intro C h a b d i
  case inr.inr.inr.inr.inr.inl => walk_at "zw"; exact okO_ne_nil (xs := [.str "A"]) (d := .list [.str "A"]) rfl rfl (by decide +kernel) (by walk_at "zw"; exact ⟨rfl, rfl⟩)
  case inr.inr.inr.inr.inr.inr.inl => walk_at "zw"; exact okO_ne_nil (xs := [.str " "]) (d := .list [.str " "]) rfl rfl (by decide +kernel) (by walk_at "zw"; exact ⟨rfl, rfl⟩)
  case inr.inr.inr.inr.inr.inr.inr.inr => walk_at "zw"; exact okO_ne_nil (xs := [.str "."]) (d := .list [.str "."]) rfl rfl (by decide +kernel) (by walk_at "zw"; exact ⟨rfl, rfl⟩)
  all_goals exact ⟨rfl, rfl⟩
theorem run_c2b : ∀ s ∈ labA, ∀ (C : Orc) (h : PHeap) (a b d : Option PV) (i : Bool), Ok (evE C exC2 [a, b, some (.tup [.str s, .bl i]), some (.fl (badL s)), d] h) fun v h' => v = .bl true ∧ h' = h := by
  intro s hs
  simp only [labA, List.mem_cons, List.not_mem_nil, or_false] at hs
  unfold exC2
  rcases hs with rfl | rfl | rfl | rfl | rfl | rfl | rfl | rfl | rfl <;> intro C h a b d i
  case inr.inr.inr.inr.inr.inl => walk_at "zw"; exact okO_ne_nil (xs := [.str "A"]) (d := .list [.str "A"]) rfl rfl (by decide +kernel) (by walk_at "zw"; exact ⟨rfl, rfl⟩)
  case inr.inr.inr.inr.inr.inr.inl => walk_at "zw"; exact okO_ne_nil (xs := [.str " "]) (d := .list [.str " "]) rfl rfl (by decide +kernel) (by walk_at "zw"; exact ⟨rfl, rfl⟩)
  case inr.inr.inr.inr.inr.inr.inr.inr => walk_at "zw"; exact okO_ne_nil (xs := [.str "."]) (d := .list [.str "."]) rfl rfl (by decide +kernel) (by walk_at "zw"; exact ⟨rfl, rfl⟩)
  all_goals exact ⟨rfl, rfl⟩
theorem t_is_right : TB 154 = some f_law_is_right := rfl
theorem ok_isrN {n : Nat} {h : PHeap} {v : PV} (c : cellB v = true) (nt : isTupP v = false) : Ok (cl (n + 1) 154 [v] h) fun d h' => d = .bl false ∧ h' = h := by
  refine (f_call t_is_right rfl rfl).mpr ?_
  (unfold f_law_is_right; dsimp only [List.map, List.append, HAppend.hAppend, Append.append, List.replicate, Nat.reduceSub])
  unfold cellB at c
  split at c <;> first | (walk_at "zw"; exact sl_same rfl ⟨rfl, rfl⟩) | (cases nt; done) | (cases c; done)
theorem isR_bad {rs : List PV} {i : Nat} {r : PV} {last : Int} (e : rgt 0 rs = rgt last (rs.drop i)) (h : rs[i]? = some r) (b : (ndJ r && (!decide (last + 1 < dOf r) && !decide (dOf r < mn last))) = false) : isR rs = false := by
  unfold isR
  obtain ⟨hi, rfl⟩ := List.getElem?_eq_some_iff.mp h
  rw [e, List.drop_eq_getElem_cons hi, rgt, b]
  simp
theorem ok_isr {n : Nat} {h : PHeap} {rs : List PV} (hl : rs.length ≤ 200) (hd : ∀ r ∈ rs, rowD r = true) : Ok (cl (n + 1) 154 [.tup rs] h) fun d h' => d = .bl (isR rs) ∧ h' = h := by
  refine (f_call t_is_right rfl rfl).mpr ?_
  (unfold f_law_is_right; dsimp only [List.map, List.append, HAppend.hAppend, Append.append, List.replicate, Nat.reduceSub])
  walk_at "zw"
  by_cases l1 : (1 : Int) ≤ (rs.length : Int)
  · refine br_t (decide_eq_true l1) ?_
    walk_at "zw"
    by_cases l2 : (rs.length : Int) ≤ 40
    · rw [decide_eq_true l2]
      walk_at "zw"
      refine ok_for (ds := rs) (fun i l h' => h' = h ∧ ∃ last x2 x3 x4, l = [some (.tup rs), some (.int last), x2, x3, x4] ∧ rgt 0 rs = rgt last (rs.drop i)) (fun i l h' _ => rfl) (fun i_ r l h' hr p => ?_) (fun l h' p => ?_) _ 0 _ _ (by show rs.length + 1 + 0 = _; omega) (Nat.zero_le _) ⟨rfl, 0, _, _, _, rfl, by rw [List.drop_zero]⟩
      · obtain ⟨rfl, last, x2, x3, x4, rfl, e⟩ := p
        have rd := hd r (List.mem_of_getElem? hr)
        have bad : ∀ (b : ndJ r = false), Seal h' (.bl false) h' fun d h2 => d = .bl (isR rs) ∧ h2 = h' := fun b => by
          rw [isR_bad e hr (by rw [b]; rfl)]
          exact sl_same rfl ⟨rfl, rfl⟩
        walk_at "zw"
        unfold rowD at rd
        split at rd
        · rename_i a d
          simp only [Bool.and_eq_true] at rd
          obtain ⟨⟨c1, c2⟩, c3⟩ := rd
          cases hs : isStr a with
          | false =>
            have nb : ndJ (.tup [a, d]) = false := by cases a <;> first | rfl | (cases hs)
            unfold cellB at c1
            split at c1 <;> first | (walk_at "zw"; exact bad nb) | (cases hs; done) | (cases c1; done)
          | true =>
            cases a <;> first | (cases hs; done) | skip
            rename_i s
            have hs : s ∈ labA := by simpa using c3
            cases d
            case int i =>
              walk_at "zw"
              rw [run_bad s hs]
              refine ok_ok.mpr ?_
              refine okO_bind (Nat.le_of_ble_eq_true rfl) ?_
              dsimp only [List.set]
              refine s_cons.mpr (s_iff.mpr ((run_c2i s hs ⟨cl n, CT⟩ h' (some (.tup rs)) (some (.int last)) x4 i).mono fun v h2 ⟨e1, e2⟩ => ?_))
              subst e1; subst e2
              have nj : ndJ (.tup [.str s, .int i]) = okLab s := rfl
              cases ho : okLab s with
              | false => walk_at "zw"; exact bad (nj.trans ho)
              | true =>
                walk_at "zw"
                have bad2 : ∀ (b : (!decide (last + 1 < i) && !decide (i < mn last)) = false), Seal h2 (.bl false) h2 fun d h3 => d = .bl (isR rs) ∧ h3 = h2 := fun b => by
                  rw [isR_bad e hr (by show (ndJ _ && (!decide (last + 1 < i) && !decide (i < mn last))) = false; rw [b, Bool.and_false])]
                  exact sl_same rfl ⟨rfl, rfl⟩
                by_cases k1 : last + 1 < i
                · repeat (refine br_t (decide_eq_true k1) ?_; walk_at "zw")
                  exact bad2 (by rw [decide_eq_true k1]; rfl)
                · refine br_f (decide_eq_false k1) ?_
                  walk_at "zw"
                  by_cases k2 : i < mn last
                  · repeat (refine br_t (decide_eq_true k2) ?_; walk_at "zw")
                    exact bad2 (by rw [decide_eq_true k2, Bool.not_true, Bool.and_false])
                  · repeat (refine br_f (decide_eq_false k2) ?_; walk_at "zw")
                    refine ⟨rfl, i, _, _, _, rfl, e.trans ?_⟩
                    obtain ⟨hi, hr'⟩ := List.getElem?_eq_some_iff.mp hr
                    rw [List.drop_eq_getElem_cons hi, hr', rgt]
                    show (ndJ (.tup [.str s, .int i]) && (!decide (last + 1 < i) && !decide (i < mn last)) && rgt i (rs.drop (i_ + 1))) = _
                    rw [decide_eq_false k1, decide_eq_false k2, nj, ho]
                    rfl
            case bl k =>
              walk_at "zw"
              rw [run_bad s hs]
              refine ok_ok.mpr ?_
              refine okO_bind (Nat.le_of_ble_eq_true rfl) ?_
              dsimp only [List.set]
              refine s_cons.mpr (s_iff.mpr ((run_c2b s hs ⟨cl n, CT⟩ h' (some (.tup rs)) (some (.int last)) x4 k).mono fun v h2 ⟨e1, e2⟩ => ?_))
              subst e1; subst e2
              walk_at "zw"
              exact bad rfl
            all_goals first | (walk_at "zw"; exact bad rfl) | skip
            rename_i o
            cases o with
            | dic kvs => cases kvs <;> first | (walk_at "zw"; exact bad rfl) | (cases c2; done)
            | _ => first | (walk_at "zw"; exact bad rfl) | (cases c2; done)
        · rename_i v nn
          unfold cellB at rd
          split at rd <;> first | (cases rd; done) | skip
          all_goals first | (walk_at "zw"; exact bad rfl) | skip
          rename_i ds
          walk_at "zw"
          repeat (refine br_t (len_ne2 nn) ?_; walk_at "zw")
          exact bad (ndJ_tup nn)
      · obtain ⟨rfl, last, x2, x3, x4, rfl, e⟩ := p
        rw [List.drop_length] at e
        have : isR rs = true := by
          unfold isR
          rw [e, decide_eq_true (by omega), decide_eq_true (by omega)]
          rfl
        rw [this]
        walk_at "zw"
        exact sl_same rfl ⟨rfl, rfl⟩
    · rw [decide_eq_false l2]
      walk_at "zw"
      have : isR rs = false := by unfold isR; rw [decide_eq_false (p := rs.length ≤ 40) (by omega)]; simp
      rw [this]
      exact sl_same rfl ⟨rfl, rfl⟩
  · refine br_f (decide_eq_false l1) ?_
    walk_at "zw"
    have : isR rs = false := by unfold isR; rw [decide_eq_false (p := 1 ≤ rs.length) (by omega)]; simp
    rw [this]
    exact sl_same rfl ⟨rfl, rfl⟩
end Law
end Zed
end
section
set_option Elab.async false
set_option linter.all false
set_option maxRecDepth 100000
set_option maxHeartbeats 1000000
/-! D03c: what is checked; a document is made, or none. -/
namespace Zed
namespace Law
open PySem L2
def ndP (p : Nd) : PV := .tup [.str p.1, .int p.2]
theorem strs_cl {n : Nat} : ∀ l : List Str, clVs n (l.map PV.str) = true
  | [] => rfl
  | s :: r => by simp only [List.map, clVs, clV, strs_cl r]; rfl
theorem nds_cl {n : Nat} : ∀ ns : List Nd, clVs n (ns.map ndP) = true
  | [] => rfl
  | p :: r => by simp only [List.map, clVs, ndP, clV, nds_cl r]; rfl
theorem okO_fld {h : PHeap} {i c f : Nat} {fs : List (Nat × PV)} {v : PV} {Q : PHeap → Prop} (e : h[i]? = some (.ins c fs)) (ow : ownF CT c f = true) (hl : fs.length < 900) (q : Q (h.set i (.ins c (setFl fs f v)))) : OkO (fldF CT (.ref i) f v h) Q := by
  refine okO_of ?_ q
  simp only [fldF, e]
  rw [ow, Bool.true_and, if_pos (decide_eq_true hl)]
theorem bools_map : ∀ bs : List Bool, bools (bs.map PV.bl) = some bs
  | [] => rfl
  | b :: r => by simp only [List.map, bools, bools_map r]; rfl
theorem okP_allF {h : PHeap} {bs : List Bool} {Q : PV → PHeap → Prop} (q : Q (.bl (bs.all id)) h) : OkP (bltF .all [.fl (bs.map PV.bl)] h) Q := by
  refine okP_of ?_ q
  unfold bltF
  simp only [lstOf, objOf, bools_map]; rfl
theorem tree_ne {ns : List Nd} (t : Tree ns) : ns ≠ [] := fun z => by subst z; exact t
theorem chain_pos : ∀ {ns : List Nd} {p : Nat}, Chain p ns → ∀ q ∈ ns, 1 ≤ q.2
  | (s, d) :: r, p, ⟨c1, _, c3⟩, q, hq => by
    rcases List.mem_cons.mp hq with z | z
    · subst z; exact Nat.le_of_succ_le c1
    · exact chain_pos c3 q z
theorem tree_pos {ns : List Nd} (t : Tree ns) : ∀ q ∈ ns, 1 ≤ q.2 := by
  cases ns with
  | nil => exact t.elim
  | cons p r =>
    obtain ⟨s, d⟩ := p
    obtain ⟨rfl, c⟩ := t
    intro q hq
    rcases List.mem_cons.mp hq with z | z
    · subst z; exact Nat.le_refl _
    · exact chain_pos c q z
theorem t_are_depths : TB 43 = some f_are_depths := rfl
theorem t_checked : TB 72 = some f_checked := rfl
theorem t_ninit : TB 46 = some f_Nodes___init__ := rfl
theorem t_ways_in : TB 74 = some f_ways_in := rfl
theorem t_closings_in : TB 76 = some f_closings_in := rfl
theorem ok_ninit {n : Nat} {h : PHeap} {v : PV} : Ok (cl (n + 1) 46 [.ref h.length, v] (h ++ [.ins 45 []])) fun d h' => d = .non ∧ h' = h ++ [.ins 45 [(53, v)]] := by
  obtain ⟨g, hg⟩ : ∃ g : PHeap, g = h ++ [.ins 45 []] := ⟨_, rfl⟩
  rw [← hg]
  refine (f_open t_ninit rfl rfl).mpr ?_
  (unfold f_Nodes___init__; dsimp only [List.map, List.append, HAppend.hAppend, Append.append, List.replicate, Nat.reduceSub])
  subst hg
  walk_at "zw"
  refine okO_fld get_new rfl (by decide) ?_
  rw [set_new]
  exact ⟨rfl, rfl⟩
theorem cls_app {n : Nat} : ∀ {a b : List PV}, clVs n a = true → clVs n b = true → clVs n (a ++ b) = true
  | [], _, _, h => h
  | x :: a, b, h1, h2 => by
    simp only [clVs, Bool.and_eq_true] at h1
    simp only [List.cons_append, clVs, h1.1, cls_app h1.2 h2]; rfl
theorem ints_cl {n : Nat} : ∀ l : List Int, clVs n (l.map PV.int) = true
  | [] => rfl
  | s :: r => by simp only [List.map, clVs, clV, ints_cl r]; rfl
def wayP (w : List Str) : PV := .tup (w.map PV.str)
theorem ways_cl {n : Nat} : ∀ l : List (List Str), clVs n (l.map wayP) = true
  | [] => rfl
  | s :: r => by simp only [List.map, clVs, wayP, clV, strs_cl, ways_cl r]; rfl
theorem take_snoc {α : Type} {l : List α} {i : Nat} {a : α} (h : l[i]? = some a) : l.take (i + 1) = l.take i ++ [a] := by
  rw [List.take_succ, h]; rfl
theorem wsF_snoc {ns : List Nd} {i : Nat} {s : Str} {d : Nat} (h : ns[i]? = some (s, d)) : lastW [] (ns.take (i + 1)) = (lastW [] (ns.take i)).take (d - 1) ++ [s] ∧
    wsF [] (ns.take (i + 1)) = wsF [] (ns.take i) ++ [(lastW [] (ns.take i)).take (d - 1) ++ [s]] := by
  rw [take_snoc h, wsF_app, lastW_app]
  exact ⟨rfl, rfl⟩
theorem lastW_len : ∀ {ns : List Nd} {w : List Str}, (lastW w ns).length ≤ w.length + ns.length
  | [], _ => Nat.le_refl _
  | (s, d) :: r, w => by
    have := lastW_len (ns := r) (w := w.take (d - 1) ++ [s])
    simp only [List.length_append, List.length_take, List.length_cons, List.length_nil] at this
    simp only [lastW, List.length_cons]
    omega
theorem okP_addT {h : PHeap} {xs ys : List PV} {Q : PV → PHeap → Prop} (hl : xs.length + ys.length ≤ 1000) (q : Q (.tup (xs ++ ys)) h) : OkP (bopF .add [.tup xs, .tup ys] h) Q := by
  refine okP_of ?_ q
  show (if xs.length + ys.length ≤ sizeLine then _ else _) = _
  rw [if_pos (line_of hl)]
theorem ok_ways_in {n : Nat} {h : PHeap} {ns : List Nd} (hn : ns.length ≤ 100) (hd : ∀ p ∈ ns, 1 ≤ p.2) : Ok (cl (n + 1) 74 [.tup (ns.map ndP)] h) fun d h' => d = .fl ((wsF [] ns).map wayP) ∧ h' = h := by
  refine (f_call t_ways_in rfl rfl).mpr ?_
  (unfold f_ways_in; dsimp only [List.map, List.append, HAppend.hAppend, Append.append, List.replicate, Nat.reduceSub])
  walk_at "zw"
  refine ok_for (ds := ns.map ndP) (fun i l h' => ∃ x3 x4, l = [some (.tup (ns.map ndP)), some (.ref h.length), some (wayP (lastW [] (ns.take i))), x3, x4] ∧ h' = h ++ [.lst ((wsF [] (ns.take i)).map wayP)])
    (fun i l h' _ => rfl) (fun i d l h' hd1 ⟨x3, x4, el, eh⟩ => ?_) (fun l h' ⟨x3, x4, el, eh⟩ => ?_) _ 0 _ _ (by show (ns.map ndP).length + 1 + 0 = _; rfl) (Nat.zero_le _) ⟨_, _, rfl, rfl⟩
  · rw [List.getElem?_map] at hd1
    cases hp : ns[i]? with
    | none => rw [hp] at hd1; cases hd1
    | some p =>
      obtain ⟨s, d0⟩ := p
      rw [hp] at hd1
      cases hd1
      have hil : i < ns.length := (List.getElem?_eq_some_iff.mp hp).1
      have d1 : 1 ≤ d0 := hd (s, d0) (List.mem_of_getElem? hp)
      obtain ⟨q1, q2⟩ := wsF_snoc hp
      have wl := lastW_len (ns := ns.take i) (w := [])
      rw [List.length_take, Nat.min_eq_left (Nat.le_of_lt hil)] at wl
      subst el; subst eh
      unfold ndP
      rw [show wayP (lastW [] (ns.take i)) = .tup ((lastW [] (ns.take i)).map PV.str) from rfl]
      walk_at "zw"
      dsimp only [List.set]
      walk_at "zw"
      rw [show ((d0 : Int) - 1) = ((d0 - 1 : Nat) : Int) by omega]
      refine okP_slcT ?_
      rw [cutP_upto, ← List.map_take]
      walk_at "zw"
      refine ⟨line_of (by simp only [List.length_map, List.length_append, List.length_cons, List.length_nil, List.length_take] at *; omega), ?_⟩
      walk_at "zw"
      refine ⟨rcv_lst get_new, ?_⟩
      walk_at "zw"
      refine okP_app get_new (by rw [List.length_map, wsF_len, List.length_take]; omega) ?_
      rw [set_new]
      walk_at "zw"
      refine ⟨some (.str s), some (.int d0), ?_, ?_⟩
      · rw [q1]; simp [ndP, wayP]
      · rw [q2]; simp [wayP]
  · subst el; subst eh
    walk_at "zw"
    rw [List.length_map, List.take_length]
    exact sl_lst rfl get_new (Nat.le_refl _) (ways_cl _) ⟨rfl, rfl⟩
theorem clS_snoc {ns : List Nd} {i : Nat} {s : Str} {d : Nat} (h : ns[i]? = some (s, d)) : clS 0 (ns.take (i + 1)) ([], []) =
    ((clS 0 (ns.take i) ([], [])).1 ++ ((clS 0 (ns.take i) ([], [])).2.drop (d - 1)).reverse, (clS 0 (ns.take i) ([], [])).2.take (d - 1) ++ [(i : Int)]) := by
  have hi := (List.getElem?_eq_some_iff.mp h).1
  rw [take_snoc h, clS_app, List.length_take, Nat.min_eq_left (Nat.le_of_lt hi)]
  simp [clS]
theorem g0 : (h ++ [a, b])[h.length]? = some a := by rw [List.getElem?_append_right (Nat.le_refl _), Nat.sub_self]; rfl
theorem g1 : (h ++ [a, b])[h.length + 1]? = some b := by rw [List.getElem?_append_right (by omega), Nat.add_sub_cancel_left]; rfl
theorem s0 : (h ++ [a, b]).set h.length a' = h ++ [a', b] := by rw [List.set_append_right _ _ (Nat.le_refl _), Nat.sub_self]; rfl
theorem s1 : (h ++ [a, b]).set (h.length + 1) b' = h ++ [a, b'] := by rw [List.set_append_right _ _ (by omega), Nat.add_sub_cancel_left]; rfl
theorem okP_cat' {h : PHeap} {i : Nat} {xs ys : List PV} {Q : PV → PHeap → Prop} (e : h[i]? = some (.lst xs)) (hl : xs.length + ys.length ≤ 1000) (q : Q (.fl (xs ++ ys)) h) : OkP (bopF .add [.ref i, .fl ys] h) Q := by
  refine okP_of ?_ q
  show addF (.ref i) (.fl ys) h = _
  simp only [addF, lstOf, objOf, e]
  rw [if_pos (line_of hl)]
theorem cut_eq {ks : List Int} {m d : Nat} (h1 : m ≤ ks.length) (h2 : m < d) (h3 : m = ks.length ∨ d - 1 ≤ m) : ks.take m = ks.take (d - 1) ∧ ks.drop m = ks.drop (d - 1) := by
  rcases h3 with h3 | h3
  · rw [List.take_of_length_le (Nat.le_of_eq h3.symm), List.take_of_length_le (by omega), List.drop_of_length_le (Nat.le_of_eq h3.symm), List.drop_of_length_le (by omega)]
    exact ⟨rfl, rfl⟩
  · rw [show m = d - 1 by omega]; exact ⟨rfl, rfl⟩
theorem pop_eq {ks : List Int} {m : Nat} (h0 : 0 < m) (h1 : m ≤ ks.length) : ∃ y, ks.take m = ks.take (m - 1) ++ [y] ∧ ks.drop (m - 1) = y :: ks.drop m := by
  have hl : m - 1 < ks.length := by omega
  refine ⟨ks[m - 1], ?_, ?_⟩
  · have := take_snoc (l := ks) (i := m - 1) (List.getElem?_eq_getElem hl)
    rw [show m - 1 + 1 = m by omega] at this; exact this
  · have := List.drop_eq_getElem_cons hl
    rw [show m - 1 + 1 = m by omega] at this; exact this
theorem ok_closings_in {n : Nat} {h : PHeap} {ns : List Nd} (hn : ns.length ≤ 100) (hd : ∀ p ∈ ns, 1 ≤ p.2) : Ok (cl (n + 1) 76 [.tup (ns.map ndP)] h) fun d h' => d = .fl ((clF ns).map PV.int) ∧ h' = h := by
  refine (f_call t_closings_in rfl rfl).mpr ?_
  (unfold f_closings_in; dsimp only [List.map, List.append, HAppend.hAppend, Append.append, List.replicate, Nat.reduceSub])
  walk_at "zw"
  rw [show h ++ [PObj.lst []] ++ [PObj.lst []] = h ++ [.lst [], .lst []] by simp, List.length_append]
  dsimp only [List.length_cons, List.length_nil, Nat.zero_add]
  refine ok_for (ds := (ns.map ndP).mapIdx fun i x => .tup [.int i, x]) (fun i l h' => ∃ x3 x4 x5, l = [some (.tup (ns.map ndP)), some (.ref h.length), some (.ref (h.length + 1)), x3, x4, x5] ∧ h' = h ++ [.lst ((clS 0 (ns.take i) ([], [])).1.map PV.int), .lst ((clS 0 (ns.take i) ([], [])).2.map PV.int)])
    (fun i l h' _ => rfl) (fun i d l h' hd1 ⟨x3, x4, x5, el, eh⟩ => ?_) (fun l h' ⟨x3, x4, x5, el, eh⟩ => ?_) _ 0 _ _ (by show ((ns.map ndP).mapIdx fun i x => PV.tup [.int i, x]).length + 1 + 0 = _; rfl) (Nat.zero_le _) ⟨_, _, _, rfl, rfl⟩
  · rw [List.getElem?_mapIdx, List.getElem?_map] at hd1
    cases hp : ns[i]? with
    | none => rw [hp] at hd1; cases hd1
    | some p =>
      obtain ⟨s, d0⟩ := p
      rw [hp] at hd1
      cases hd1
      have hil : i < ns.length := (List.getElem?_eq_some_iff.mp hp).1
      have d1 : 1 ≤ d0 := hd (s, d0) (List.mem_of_getElem? hp)
      have q := clS_snoc hp
      have ql := clS_len (a := ns.take i) (i := 0) (st := ([], []))
      rw [List.length_take, Nat.min_eq_left (Nat.le_of_lt hil)] at ql
      rw [q]
      generalize clS 0 (ns.take i) ([], []) = st at *
      obtain ⟨cs, ks⟩ := st
      dsimp only at *
      subst el; subst eh
      unfold ndP
      walk_at "zw"
      dsimp only [List.set]
      walk_at "zw"
      refine ok_whl (fun k l h' => k ≤ ks.length ∧ (k = ks.length ∨ d0 - 1 ≤ k) ∧ l = [some (.tup (ns.map fun p => PV.tup [.str p.1, .int p.2])), some (.ref h.length), some (.ref (h.length + 1)), some (.int i), some (.str s), some (.int d0)] ∧ h' = h ++ [.lst (List.map PV.int (cs ++ (ks.drop k).reverse)), .lst (List.map PV.int (ks.take k))]) (fun k l h' ⟨k1, k2, el, eh⟩ => ?_) (m := ks.length) (by simp at ql; omega) ⟨Nat.le_refl _, .inl rfl, rfl, by simp⟩
      subst el; subst eh
      walk_at "zw"
      refine okP_len g1 ?_
      walk_at "zw"
      rw [List.length_map, List.length_take, Nat.min_eq_left k1]
      refine ⟨fun kk => ?_, fun kk => ?_⟩
      · have kk := of_decide_eq_true kk
        obtain ⟨y, e1, e2⟩ := pop_eq (ks := ks) (m := k) (by omega) k1
        rw [e1, show List.map PV.int (ks.take (k - 1) ++ [y]) = (ks.take (k - 1)).map PV.int ++ [.int y] from List.map_append]
        walk_at "zw"
        refine ⟨rcv_lst g0, ?_⟩
        walk_at "zw"
        refine okP_pop g1 ?_
        rw [s1]
        walk_at "zw"
        refine okP_app g0 (by simp at ql ⊢; omega) ?_
        rw [s0]
        walk_at "zw"
        exact ⟨k - 1, by omega, by omega, .inr (by omega), rfl, by rw [e2]; simp⟩
      · have kk := of_decide_eq_false kk
        obtain ⟨c1, c2⟩ := cut_eq (ks := ks) (m := k) (d := d0) k1 (by omega) k2
        rw [c1, c2]
        walk_at "zw"
        refine ⟨rcv_lst g1, ?_⟩
        walk_at "zw"
        refine okP_app g1 (by simp at ql ⊢; omega) ?_
        rw [s1]
        walk_at "zw"
        exact ⟨_, _, _, rfl, by simp⟩
  · subst el; subst eh
    rw [List.length_mapIdx, List.length_map, List.take_length]
    have ql := clS_len (a := ns) (i := 0) (st := ([], []))
    unfold clF
    generalize clS 0 ns ([], []) = st at *
    obtain ⟨cs, ks⟩ := st
    dsimp only at *
    walk_at "zw"
    refine okP_rev (xs := ks.map PV.int) (by simp only [lstOf, objOf, g1]) ?_
    refine okP_cat' g0 (by simp at ql ⊢; omega) ?_
    have c : List.map PV.int cs ++ (List.map PV.int ks).reverse = (cs ++ ks.reverse).map PV.int := by simp
    rw [c]
    exact sl_app (by simp only [clV, clO]; exact ints_cl _) ⟨rfl, rfl⟩

/-! ### depths -/
def chn : Int → List Int → Bool
  | _, [] => true
  | a, b :: r => (decide (2 ≤ b) && decide (b ≤ a + 1)) && chn b r
def dpt : List Int → Bool
  | [] => false
  | d :: r => (d == 1) && chn d r
def two (x y : Int) : Bool := decide (2 ≤ y) && decide (y ≤ x + 1)
theorem chn_zip : ∀ (a : Int) (r : List Int), (List.zipWith two (a :: r) r).all id = chn a r
  | _, [] => rfl
  | a, b :: r => by
    simp only [List.zipWith, List.all_cons, chn, chn_zip b r]
    rfl
theorem ok_are_depths {n : Nat} {h : PHeap} {d0 : Int} {r : List Int} (hn : r.length ≤ 200) : Ok (cl (n + 1) 43 [.fl ((d0 :: r).map PV.int)] h) fun d h' => d = .bl (dpt (d0 :: r)) ∧ h' = h := by
  obtain ⟨ds, hds⟩ : ∃ ds, ds = d0 :: r := ⟨_, rfl⟩
  refine (f_call t_are_depths rfl rfl).mpr ?_
  (unfold f_are_depths; dsimp only [List.map, List.append, HAppend.hAppend, Append.append, List.replicate, Nat.reduceSub])
  have g0 : getF (.fl ((d0 :: r).map PV.int)) (.int 0) h = some (.int d0) := by
    show atI (.int d0 :: r.map PV.int) 0 = some (.int d0)
    simp [atI, ixN]
  walk_at "zw"
  refine okO_of g0 ?_
  walk_at "zw"
  refine ⟨fun z => ?_, fun z => ?_⟩ <;> (have z : (d0 == 1) = _ := z)
  · walk_at "zw"
    rw [show cutP (PV.int d0 :: r.map PV.int) (some 1) none = r.map PV.int from cutP_nat (ds := (d0 :: r).map PV.int) (a := 1)]
    have zp : List.zipWith (fun x y => PV.tup [x, y]) (PV.int d0 :: r.map PV.int) (r.map PV.int) = List.zipWith (fun x y => PV.tup [.int x, .int y]) (d0 :: r) r := by
      show List.zipWith (fun x y => PV.tup [x, y]) ((d0 :: r).map PV.int) (r.map PV.int) = _
      rw [List.zipWith_map]
    rw [zp]
    have L := ok_lc (tg := .tp (.cons (.nm 1) (.cons (.nm 2) .nil))) (src := .seq (List.zipWith (fun x y => PV.tup [.int x, .int y]) (d0 :: r) r)) (tt := evT1 ⟨cl n, CT⟩ .no) (el := evE ⟨cl n, CT⟩ (.chn .le .le (.con (.int 2)) (.loc 2) (.bin .add (.loc 1) (.con (.int 1))))) (lw := [some (.fl (PV.int d0 :: r.map PV.int)), none, none]) (X := NoX) (ds := List.zipWith (fun x y => PV.tup [.int x, .int y]) (d0 :: r) r)
      (fun i acc h' => acc = ((List.zipWith two (d0 :: r) r).take i).map PV.bl ∧ h' = h) (by rw [List.length_zipWith]; simp; omega) (fun i acc h' _ => rfl) (fun q d acc h' hd p => by
        obtain ⟨rfl, rfl⟩ := p
        rw [List.getElem?_zipWith] at hd
        cases h1 : (d0 :: r)[q]? with
        | none => rw [h1] at hd; simp at hd
        | some a =>
          cases h2 : r[q]? with
          | none => rw [h1, h2] at hd; simp at hd
          | some b =>
            rw [h1, h2] at hd
            have hd : PV.tup [.int a, .int b] = d := by simpa using hd
            subst hd
            have hz : (List.zipWith two (d0 :: r) r)[q]? = some (two a b) := by rw [List.getElem?_zipWith, h1, h2]
            walk_at "zw"
            refine ⟨fun z => (nomatch z), fun _ => ?_⟩
            walk_at "zw"
            by_cases b1 : (2 : Int) ≤ b
            · refine br_t (decide_eq_true b1) ?_
              walk_at "zw"
              refine ⟨?_, rfl⟩
              rw [take_snoc hz, List.map_append]
              show _ = _ ++ [PV.bl (decide (2 ≤ b) && decide (b ≤ a + 1))]
              rw [decide_eq_true b1, Bool.true_and]
            · refine br_f (decide_eq_false b1) ?_
              refine ⟨?_, rfl⟩
              rw [take_snoc hz, List.map_append]
              show _ = _ ++ [PV.bl (decide (2 ≤ b) && decide (b ≤ a + 1))]
              rw [decide_eq_false b1, Bool.false_and]) ((List.zipWith (fun x y => PV.tup [.int x, .int y]) (d0 :: r) r).length + 1) 0 [] h (by omega) (Nat.zero_le _) (Nat.le_refl _) ⟨rfl, rfl⟩
    refine Ok.mono L fun acc h1 ⟨e1, e2⟩ => ?_
    subst e1; subst e2
    refine okP_allF ?_
    refine sl_same rfl ⟨?_, rfl⟩
    rw [List.take_of_length_le (by rw [List.length_zipWith, List.length_zipWith]; exact Nat.le_refl _), chn_zip]
    show _ = PV.bl ((d0 == 1) && chn d0 r)
    rw [z, Bool.true_and]
  · refine sl_same rfl ⟨?_, rfl⟩
    show PV.bl (d0 == 1) = PV.bl ((d0 == 1) && chn d0 r)
    rw [z, Bool.false_and]
theorem rgt_chn : ∀ (last : Int) (rs : List PV), 1 ≤ last → rgt last rs = (rs.all ndJ && chn last (rs.map dOf))
  | _, [], _ => rfl
  | last, r :: rs, hl => by
    have m2 : mn last = 2 := by unfold mn; rw [if_neg (by omega)]
    simp only [rgt, List.all_cons, List.map, chn, m2]
    by_cases b1 : 2 ≤ dOf r
    · rw [rgt_chn (dOf r) rs (by omega)]
      have : (!decide (dOf r < 2)) = true := by simp; omega
      rw [this, decide_eq_true b1]
      have e2 : (!decide (last + 1 < dOf r)) = decide (dOf r ≤ last + 1) := by
        by_cases q : dOf r ≤ last + 1
        · rw [decide_eq_true q, decide_eq_false (by omega)]; rfl
        · rw [decide_eq_false q, decide_eq_true (by omega)]; rfl
      rw [e2]
      cases ndJ r <;> cases decide (dOf r ≤ last + 1) <;> cases rs.all ndJ <;> cases chn (dOf r) (rs.map dOf) <;> rfl
    · have : (!decide (dOf r < 2)) = false := by simp; omega
      rw [this, decide_eq_false b1]
      cases ndJ r <;> cases (!decide (last + 1 < dOf r)) <;> cases rgt (dOf r) rs <;> cases rs.all ndJ <;> cases decide (dOf r ≤ last + 1) <;> cases chn (dOf r) (rs.map dOf) <;> rfl
theorem rgt_dpt : ∀ (rs : List PV), rs ≠ [] → rgt 0 rs = (rs.all ndJ && dpt (rs.map dOf))
  | [], h => absurd rfl h
  | r :: rs, _ => by
    have m1 : mn 0 = 1 := rfl
    simp only [rgt, List.all_cons, List.map, dpt, m1]
    by_cases b1 : dOf r = 1
    · rw [b1, rgt_chn 1 rs (by omega)]
      cases ndJ r <;> cases rs.all ndJ <;> cases chn 1 (rs.map dOf) <;> rfl
    · have e1 : (dOf r == 1) = false := by simpa using b1
      rw [e1]
      have e2 : (!decide ((0 : Int) + 1 < dOf r) && !decide (dOf r < 1)) = false := by
        by_cases q : (0 : Int) + 1 < dOf r
        · rw [decide_eq_true q]; rfl
        · rw [decide_eq_true (p := dOf r < 1) (by omega)]; simp
      rw [e2]
      cases ndJ r <;> cases rs.all ndJ <;> rfl
end Law
end Zed
end
section
set_option Elab.async false
set_option linter.all false
set_option maxRecDepth 100000
set_option maxHeartbeats 1000000
/-! D03d: what is checked; a document is made, or none. -/
namespace Zed
namespace Law
open PySem L2
theorem ok_lcmap {α : Type} {X : XP} {tg : Tg} {tt : Loc → PHeap → Zed.R Bool} {el : Loc → PHeap → Zed.R PV} {lw : Loc} {qs : List α} {S F : α → PV} {h : PHeap} {L : α → Loc} {m : Nat} (hn : qs.length ≤ 200) (hm : m = (qs.map S).length + 1) (hb : ∀ a, bindT tg (S a) lw = some (L a)) (htt : ∀ l h, tt l h = .ok true h)
    (hel : ∀ a ∈ qs, Ok (el (L a) h) fun y h2 => y = F a ∧ h2 = h) : Okx X (lcLoop tg (.seq (qs.map S)) tt el lw m 0 [] h) fun acc h' => acc = qs.map F ∧ h' = h := by
  refine Okx.mono (ok_lc (ds := qs.map S) (fun i acc h' => acc = (qs.take i).map F ∧ h' = h) (by rw [List.length_map]; omega) (fun i acc h' _ => rfl) (fun i d acc h' hd ⟨ea, eh⟩ => ?_) m 0 [] h (by omega) (Nat.zero_le _) (Nat.le_refl _) ⟨rfl, rfl⟩) fun acc h1 ⟨ea, eh⟩ => ?_
  · rw [List.getElem?_map] at hd
    cases hp : qs[i]? with
    | none => rw [hp] at hd; cases hd
    | some p =>
      rw [hp] at hd
      cases hd
      subst ea; subst eh
      rw [hb p]
      show Ok (tt (L p) h') _
      rw [htt]
      refine ⟨fun z => (nomatch z), fun _ => ?_⟩
      refine (hel p (List.mem_of_getElem? hp)).mono fun y h2 ⟨e1, e2⟩ => ?_
      subst e1; subst e2
      refine ⟨?_, rfl⟩
      rw [take_snoc hp]
      simp
  · rw [List.length_map, List.take_length] at ea
    exact ⟨ea, eh⟩
theorem tt_no {C : Orc} (l : Loc) (h : PHeap) : evT1 C .no l h = .ok true h := by simp only [evT1]

theorem sx0 {h : PHeap} {X : XP} {c : Nat} (x : X (.gl c) [] h) : SealX h X (.gl c) [] h := ⟨rfl, h, by simpa using seal_app' h [], x⟩
theorem sxf {h : PHeap} {X : XP} {c f : Nat} {v : PV} (z : clV h.length v = true) (x : X (.gl c) [(f, v)] h) : SealX h X (.gl c) [(f, v)] h := ⟨by simp only [clV, clFs, z]; rfl, h, by simpa using seal_app' h [], x⟩
def q2 (p : Str × Int) : PV := .tup [.str p.1, .int p.2]
theorem q2_cl {n : Nat} : ∀ ns : List (Str × Int), clVs n (ns.map q2) = true
  | [] => rfl
  | p :: r => by simp only [List.map, clVs, q2, clV, q2_cl r]; rfl
theorem ndJ_q2 {r : PV} (h : ndJ r = true) : ∃ p : Str × Int, r = q2 p ∧ okLab p.1 = true ∧ dOf r = p.2 := by
  unfold ndJ at h
  split at h
  · rename_i s i
    exact ⟨(s, i), rfl, h, rfl⟩
  · cases h
theorem all_q2 : ∀ {rs : List PV}, rs.all ndJ = true → ∃ qs : List (Str × Int), rs = qs.map q2 ∧ (∀ p ∈ qs, okLab p.1 = true) ∧ rs.map dOf = qs.map (·.2)
  | [], _ => ⟨[], rfl, fun _ h => (nomatch h), rfl⟩
  | r :: rs, h => by
    simp only [List.all_cons, Bool.and_eq_true] at h
    obtain ⟨p, rfl, h1, h2⟩ := ndJ_q2 h.1
    obtain ⟨qs, rfl, h3, h4⟩ := all_q2 h.2
    refine ⟨p :: qs, rfl, fun q hq => ?_, by rw [List.map_cons, List.map_cons, h2, h4]⟩
    rcases List.mem_cons.mp hq with z | z
    · rw [z]; exact h1
    · exact h3 q z
abbrev X39 (h : PHeap) (b : Prop) : XP := fun c fs h' => (c = .gl 39 ∧ fs = [] ∧ h' = h) ∧ b
theorem ok_checkedN {n : Nat} {h : PHeap} {v : PV} (c : cellB v = true) (nt : isTupP v = false) : Okx (X39 h True) (cl (n + 1) 72 [v] h) fun d h' => False := by
  refine (f_callx t_checked rfl rfl).mpr ?_
  (unfold f_checked; dsimp only [List.map, List.append, HAppend.hAppend, Append.append, List.replicate, Nat.reduceSub])
  unfold cellB at c
  split at c <;> first | (walk_at "zw"; exact sx0 ⟨⟨rfl, rfl, rfl⟩, trivial⟩) | (cases nt; done) | (cases c; done)
theorem ok_checked {n : Nat} {h : PHeap} {rs : List PV} (hl : rs.length ≤ 200) (hd : ∀ r ∈ rs, rowD r = true) :
    Okx (X39 h (isR rs = false)) (cl (n + 3) 72 [.tup rs] h) fun d h' => (d = .fz (.ins 45 [(53, .tup rs)]) ∧ h' = h) ∧ isR rs = true := by
  refine (f_callx t_checked rfl rfl).mpr ?_
  (unfold f_checked; dsimp only [List.map, List.append, HAppend.hAppend, Append.append, List.replicate, Nat.reduceSub])
  walk_at "zw"
  by_cases l1 : (1 : Int) ≤ (rs.length : Int)
  · refine br_t (decide_eq_true l1) ?_
    walk_at "zw"
    by_cases l2 : (rs.length : Int) ≤ 40
    · rw [decide_eq_true l2]
      walk_at "zw"
      have L1 := ok_lcmap (X := NoX) (tg := .nm 1) (tt := evT1 ⟨cl (n + 2), CT⟩ .no) (el := evE ⟨cl (n + 2), CT⟩ (.call 44 (.cons (.loc 1) .nil))) (lw := [some (.tup rs), none, none, none]) (qs := rs) (S := fun r => r) (F := fun r => .bl (ndJ r)) (h := h) (L := fun r => [some (.tup rs), some r, none, none]) hl rfl (fun r => rfl) tt_no (fun r hr => by
        walk_at "zw"
        exact (ok_is_node (n := n) (hd r hr)).mono fun d h1 e => e)
      rw [List.map_id'] at L1
      refine Ok.mono L1 fun acc h1 ⟨e1, e2⟩ => ?_
      subst e1; subst e2
      have ea : bltF .all [.fl (rs.map fun r => .bl (ndJ r))] h1 = some (.bl (rs.all ndJ), h1) := by
        unfold bltF
        simp only [lstOf, objOf]
        rw [show rs.map (fun r => PV.bl (ndJ r)) = (rs.map ndJ).map PV.bl by rw [List.map_map]; rfl, bools_map]
        simp [List.all_map]
      have ne : rs ≠ [] := fun z => by subst z; simp at l1
      cases ha : rs.all ndJ with
      | false =>
        rw [ha] at ea
        refine okP_of ea ?_
        walk_at "zw"
        exact sx0 ⟨⟨rfl, rfl, rfl⟩, by unfold isR; rw [rgt_dpt rs ne, ha]; simp⟩
      | true =>
        rw [ha] at ea
        refine okP_of ea ?_
        walk_at "zw"
        obtain ⟨qs, rfl, hq, hdp⟩ := all_q2 ha
        have L2 := ok_lcmap (X := NoX) (tg := .tp (.cons (.nm 2) (.cons (.nm 3) .nil))) (tt := evT1 ⟨cl (n + 2), CT⟩ .no) (el := evE ⟨cl (n + 2), CT⟩ (.loc 3)) (lw := [some (.tup (qs.map q2)), none, none, none]) (qs := qs) (S := q2) (F := fun p => .int p.2) (h := h1) (L := fun p => [some (.tup (qs.map q2)), none, some (.str p.1), some (.int p.2)]) (by simpa using hl) rfl (fun r => rfl) tt_no (fun r hr => by
          walk_at "zw"
          exact ⟨rfl, rfl⟩)
        refine Ok.mono L2 fun acc h2 ⟨e1, e2⟩ => ?_
        subst e1; subst e2
        obtain ⟨q0, qr, rfl⟩ : ∃ a b, qs = a :: b := by
          cases qs with
          | nil => exact absurd rfl ne
          | cons a b => exact ⟨a, b, rfl⟩
        walk_at "zw"
        have AD := ok_are_depths (n := n + 1) (h := h2) (d0 := q0.2) (r := qr.map (·.2)) (by simp at hl ⊢; omega)
        rw [show (q0.2 :: qr.map (·.2)).map PV.int = (q0 :: qr).map (fun p => PV.int p.2) by simp] at AD
        refine AD.mono fun d h3 ⟨e1, e2⟩ => ?_
        subst e1; subst e2
        have er : isR ((q0 :: qr).map q2) = dpt (q0.2 :: qr.map (·.2)) := by
          unfold isR
          rw [rgt_dpt _ ne, ha, hdp, decide_eq_true (by omega), decide_eq_true (by omega)]
          rfl
        cases hp : dpt (q0.2 :: qr.map (·.2)) with
        | false =>
          walk_at "zw"
          exact sx0 ⟨⟨rfl, rfl, rfl⟩, er.trans hp⟩
        | true =>
          walk_at "zw"
          refine (ok_ninit (n := n + 1)).mono fun d h4 ⟨e1, e2⟩ => ?_
          subst e1; subst e2
          refine ⟨rfl, ?_⟩
          have cn : clV h3.length (.tup ((q0 :: qr).map q2)) = true := by simp only [clV]; exact q2_cl _
          refine ⟨.fz (.ins 45 [(53, .tup ((q0 :: qr).map q2))]), h3, ?_, seal_app' h3 _, ⟨rfl, rfl⟩, er.trans hp⟩
          unfold frzV
          rw [if_neg (by simp only [clV, decide_eq_true_eq]; omega)]
          dsimp only
          rw [get_new]
          simp only [frzO, mapO, frz_cl cn]
          rfl
    · rw [decide_eq_false l2]
      walk_at "zw"
      exact sx0 ⟨⟨rfl, rfl, rfl⟩, by unfold isR; rw [decide_eq_false (p := rs.length ≤ 40) (by omega)]; simp⟩
  · refine br_f (decide_eq_false l1) ?_
    walk_at "zw"
    exact sx0 ⟨⟨rfl, rfl, rfl⟩, by unfold isR; rw [decide_eq_false (p := 1 ≤ rs.length) (by omega)]; simp⟩
/-! ### right nodes are nodes of a tree -/
theorem chain_of : ∀ {rs : List PV} {p : Nat}, 1 ≤ p → rgt (p : Int) rs = true → ∃ ns : List Nd, rs = ns.map ndP ∧ Chain p ns
  | [], p, _, _ => ⟨[], rfl, trivial⟩
  | r :: rs, p, hp, h => by
    simp only [rgt, Bool.and_eq_true, Bool.not_eq_true', decide_eq_false_iff_not] at h
    obtain ⟨⟨h1, h2, h3⟩, h4⟩ := h
    obtain ⟨⟨s, i⟩, rfl, _, e⟩ := ndJ_q2 h1
    rw [e] at h2 h3 h4
    have m2 : mn (p : Int) = 2 := by unfold mn; rw [if_neg (by omega)]
    rw [m2] at h3
    simp only at h2 h3 h4
    obtain ⟨d, rfl⟩ : ∃ d : Nat, i = (d : Int) := ⟨i.toNat, by omega⟩
    obtain ⟨ns, rfl, c⟩ := chain_of (p := d) (by omega) h4
    exact ⟨(s, d) :: ns, rfl, by omega, by omega, c⟩
theorem tree_of {rs : List PV} (h : isR rs = true) : ∃ ns : List Nd, rs = ns.map ndP ∧ Tree ns ∧ ns.length ≤ 40 := by
  unfold isR at h
  simp only [Bool.and_eq_true, decide_eq_true_eq] at h
  obtain ⟨⟨h1, h2⟩, h3⟩ := h
  cases rs with
  | nil => simp at h1
  | cons r rs =>
    simp only [rgt, Bool.and_eq_true, Bool.not_eq_true', decide_eq_false_iff_not] at h3
    obtain ⟨⟨k1, k2, k3⟩, k4⟩ := h3
    obtain ⟨⟨s, i⟩, rfl, _, e⟩ := ndJ_q2 k1
    rw [e] at k2 k3 k4
    have m1 : mn 0 = 1 := rfl
    rw [m1] at k3
    simp only at k2 k3 k4
    have i1 : i = ((1 : Nat) : Int) := by omega
    subst i1
    obtain ⟨ns, rfl, c⟩ := chain_of (p := 1) (Nat.le_refl _) k4
    exact ⟨(s, 1) :: ns, rfl, ⟨rfl, c⟩, by simpa using h2⟩
/-! ### documents -/
theorem t_dinit : TB 59 = some f_Document___init__ := rfl
def docO (ns : List Nd) : PObj := .ins 58 [(53, .tup (ns.map ndP)), (73, .tup ((wsF [] ns).map wayP)), (75, .tup ((clF ns).map PV.int))]
def docP (ns : List Nd) : PV := .fz (docO ns)

def docB : PV → Bool
  | .tup rs => isR rs
  | _ => false
def valD : PV → Bool
  | .tup rs => decide (rs.length ≤ 200) && rs.all rowD
  | v => cellB v
theorem ok_dinit {n : Nat} {h : PHeap} {v : PV} (hv : valD v = true) : Okx (fun c fs h' => (c = .gl 39 ∧ fs = []) ∧ (∃ g, h' = h ++ g) ∧ docB v = false) (cl (n + 4) 59 [.ref h.length, v] (h ++ [.ins 58 []]))
    fun d h' => d = .non ∧ docB v = true ∧ ∃ ns, v = .tup (ns.map ndP) ∧ Tree ns ∧ ns.length ≤ 40 ∧ h' = h ++ [docO ns] := by
  obtain ⟨g, hg⟩ : ∃ g : PHeap, g = h ++ [.ins 58 []] := ⟨_, rfl⟩
  rw [← hg]
  refine (f_open t_dinit rfl rfl).mpr ?_
  (unfold f_Document___init__; dsimp only [List.map, List.append, HAppend.hAppend, Append.append, List.replicate, Nat.reduceSub])
  have other : ∀ {v : PV}, cellB v = true → isTupP v = false → docB v = false := fun {v} _ nt => by cases v <;> first | rfl | (cases nt)
  cases nt : isTupP v with
  | true =>
    obtain ⟨rs, rfl⟩ : ∃ rs, v = .tup rs := by cases v <;> first | exact ⟨_, rfl⟩ | (cases nt)
    simp only [valD, Bool.and_eq_true, decide_eq_true_eq, List.all_eq_true] at hv
    walk_at "zw"
    refine Okx.imp (ok_checked (n := n) hv.1 hv.2) (fun d h1 ⟨⟨e1, e2⟩, er⟩ => ?_) fun c fs h1 ⟨⟨e1, e2, e3⟩, er⟩ => ⟨⟨e1, e2⟩, ⟨_, e3.trans hg⟩, er⟩
    subst e1; subst e2
    obtain ⟨ns, rfl, t, hn⟩ := tree_of er
    subst hg
    walk_at "zw"
    refine okO_fld get_new rfl (by decide) ?_
    rw [set_new]
    walk_at "zw"
    refine (ok_ways_in (n := n + 2) (by omega) (tree_pos t)).mono fun d h1 ⟨e1, e2⟩ => ?_
    subst e1; subst e2
    walk_at "zw"
    refine okO_fld get_new rfl (by simp [setFl]) ?_
    rw [set_new]
    walk_at "zw"
    refine (ok_closings_in (n := n + 2) (by omega) (tree_pos t)).mono fun d h1 ⟨e1, e2⟩ => ?_
    subst e1; subst e2
    walk_at "zw"
    refine okO_fld get_new rfl (by simp [setFl]) ?_
    rw [set_new]
    exact ⟨rfl, er, ns, rfl, t, hn, rfl⟩
  | false =>
    have hv : cellB v = true := by cases v <;> first | exact hv | (cases nt)
    have key : Okx (fun c fs h' => (c = .gl 39 ∧ fs = []) ∧ (∃ g, h' = h ++ g) ∧ docB v = false) (cl (n + 3) 72 [v] g) fun _ _ => False :=
      Okx.imp (ok_checkedN (n := n + 2) hv nt) (fun d h1 z => z) fun c fs h1 ⟨⟨e1, e2, e3⟩, _⟩ => ⟨⟨e1, e2⟩, ⟨_, e3.trans hg⟩, other hv nt⟩
    have go : ∀ {Q : PV → PHeap → Prop}, Okx (fun c fs h' => (c = .gl 39 ∧ fs = []) ∧ (∃ g, h' = h ++ g) ∧ docB v = false) (cl (n + 3) 72 [v] g) Q := key.mono fun _ _ z => z.elim
    unfold cellB at hv
    split at hv <;> first | (walk_at "zw"; exact go) | (cases nt; done) | (cases hv; done)
end Law
end Zed
end
section
set_option Elab.async false
set_option linter.all false
set_option maxRecDepth 100000
set_option maxHeartbeats 1000000
/-! D03e: drawn documents; spoilt ones. -/
namespace Zed
namespace Law
open PySem L2
def lab6 : List Str := ["a", "b", "node"]
theorem t_document : TB 65 = some f_law_document := rfl
theorem tree_snoc {ns0 : List Nd} {s t : Str} {d d' : Nat} (tr : Tree (ns0 ++ [(s, d)])) (h1 : 2 ≤ d') (h2 : d' ≤ d + 1) : Tree (ns0 ++ [(s, d)] ++ [(t, d')]) := by
  cases ns0 with
  | nil =>
    obtain ⟨rfl, c⟩ := (show d = 1 ∧ Chain 1 [] from tr)
    exact ⟨rfl, h1, h2, trivial⟩
  | cons p r =>
    obtain ⟨s0, d0⟩ := p
    obtain ⟨rfl, c⟩ := (show d0 = 1 ∧ Chain 1 (r ++ [(s, d)]) from tr)
    refine ⟨rfl, ?_⟩
    refine chain_snoc c h1 ?_
    show d' ≤ lastD 1 (r ++ [(s, d)]) + 1
    rw [lastD_snoc]; exact h2
theorem atI_last {xs : List PV} {y : PV} : atI (xs ++ [y]) (-1) = some y := by
  unfold atI ixN
  rw [if_neg (by decide), if_pos (by rw [List.length_append]; simp; omega)]
  have : (-1 + ((xs ++ [y]).length : Int)).toNat = xs.length := by rw [List.length_append]; simp; omega
  rw [this]
  simp
theorem w_neg1 {C : Orc} {l : Loc} {h : PHeap} {X : XP} {Q : PV → PHeap → Prop} : Okx X (evE C (.neg (.con (.int 1))) l h) Q ↔ Q (.int (-1)) h := Iff.rfl
theorem ok_document {n i : Nat} {B : Int} {h : PHeap} {ls : List Str} (d : Dc h i B) (hb : B + 1000 < 2 ^ 100) (h0 : 0 ≤ B) (hl : ∀ s ∈ ls, s ∈ lab6) (hn : ls ≠ []) (hn2 : ls.length ≤ 6) {m : Nat} (m0 : 0 < m) (m14 : m ≤ 14) :
    Ok (cl (n + 3) 65 [.ref i, .fl (ls.map PV.str), .int m] h) fun v h' => ∃ ns : List Nd, v = .fl (ns.map ndP) ∧ Tree ns ∧ ns.length ≤ m ∧ (∀ p ∈ ns, p.1 ∈ lab6) ∧ Dr i (B + 300) h h' := by
  have hi := d.lt
  have lm : ls.map PV.str ≠ [] := fun z => hn (List.map_eq_nil_iff.mp z)
  refine (f_call t_document rfl rfl).mpr ?_
  (unfold f_law_document; dsimp only [List.map, List.append, HAppend.hAppend, Append.append, List.replicate, Nat.reduceSub])
  walk_at "zw"
  refine (ok_one_of (n := n) d lm (by rw [List.length_map]; omega) (by omega) (strs_cl ls)).mono fun x h1 ⟨mx, f1⟩ => ?_
  obtain ⟨s, ms, rfl⟩ := List.mem_map.mp mx
  walk_at "zw"
  have l1 := f1.len
  refine (ok_roll (n := n + 1) f1.dc.app (by omega) (by omega) (by omega)).mono fun y h2 ⟨r, er, r0, r1, f2⟩ => ?_
  subst er
  obtain ⟨h3, f3, rfl⟩ := f2.app (by rw [l1]; exact hi)
  refine ⟨r, rfl, r0, by omega, ?_⟩
  refine ok_for (ds := (List.range r.toNat).map fun (i : Nat) => PV.int (0 + i)) (fun j l h' => ∃ ns0 s d c g x4 x5, l = [some (.ref i), some (.fl (ls.map PV.str)), some (.int m), some (.ref h1.length), x4, x5] ∧ h' = g ++ [.lst ((ns0 ++ [(s, d)]).map ndP)] ∧ Tree (ns0 ++ [(s, d)]) ∧ (∀ p ∈ ns0 ++ [(s, d)], p.1 ∈ lab6) ∧ ns0.length = j ∧ d ≤ j + 1 ∧ Dr i (B + c) h g ∧ 0 ≤ c ∧ c ≤ 2 + 20 * (j : Int))
    (fun j l h' _ => rfl) (fun j dd l h' hd1 ⟨ns0, s, d0, c, g, x4, x5, el, eh, tr, lb, e1, e2, dr, c0, c1⟩ => ?_) (fun l h' ⟨ns0, s, d0, c, g, x4, x5, el, eh, tr, lb, e1, e2, dr, c0, c1⟩ => ?_) _ 0 _ _ (by show ((List.range r.toNat).map fun (i : Nat) => PV.int (0 + i)).length + 1 + 0 = _; rfl) (Nat.zero_le _)
    ⟨[], s, 1, 2, h3, _, _, rfl, rfl, ⟨rfl, trivial⟩, (fun p hp => by cases List.mem_singleton.mp hp; exact hl s ms), rfl, Nat.le_refl _, (by have := f1.trans f3; exact this.up (by omega)), by decide, by decide⟩
  · have hj : j < r.toNat := by
      have := (List.getElem?_eq_some_iff.mp hd1).1
      simpa using this
    have j12 : j < 13 := by omega
    subst el; subst eh
    have gl := dr.len
    have hg1 : h1.length = g.length := by rw [gl, l1]
    rw [hg1]
    rw [List.map_append]
    walk_at "zw"
    refine w_neg1.mpr ?_
    refine okO_of ((get_lst get_new).trans atI_last) ?_
    show Okx _ _ _
    refine w_con.mpr ?_
    refine okO_of (show getF (ndP (s, d0)) (.int 1) _ = some (.int d0) from rfl) ?_
    walk_at "zw"
    refine OkSx.mono (N := fun l h' => ∃ (d1 : Nat) (g' : PHeap) (x4 : Option PV), 2 ≤ d1 ∧ d1 ≤ d0 + 1 ∧ Dr i (B + c + d0 + 2) h g' ∧ l = [some (.ref i), some (.fl (ls.map PV.str)), some (.int m), some (.ref g.length), x4, some (.int d1)] ∧ h' = g' ++ [.lst (ns0.map ndP ++ [ndP (s, d0)])])
      (ok_whl (fun k l h' => ∃ (d1 : Nat) (g' : PHeap), k = d1 ∧ 2 ≤ d1 ∧ d1 ≤ d0 + 1 ∧ Dr i (B + c + (d0 + 1 - d1)) h g' ∧ (∃ x4, l = [some (.ref i), some (.fl (ls.map PV.str)), some (.int m), some (.ref g.length), x4, some (.int d1)]) ∧ h' = g' ++ [.lst (ns0.map ndP ++ [ndP (s, d0)])])
      (fun k l h' ⟨d1, g', q1, q2, q3, dr', ⟨x4', el⟩, eh⟩ => ?_) (m := d0 + 1) (by omega) ⟨d0 + 1, g, rfl, ?_, Nat.le_refl _, dr.up (by omega), ⟨some dd, ?_⟩, rfl⟩) (fun l h' ⟨d1, g', x4', q2, q3, dr', el, eh⟩ => ?_) (fun _ _ z => z)
    · subst el; subst eh
      walk_at "zw"
      refine ⟨fun kk => ?_, fun kk => ?_⟩
      · have kk := of_decide_eq_true kk
        walk_at "zw"
        refine (ok_roll (n := n + 1) dr'.dc.app (by decide) (by omega) (by decide)).mono fun y h2 ⟨r', er, r0', r1', f⟩ => ?_
        subst er
        obtain ⟨g2, f2, rfl⟩ := f.app (by rw [dr'.len]; exact hi)
        walk_at "zw"
        refine ⟨fun k2 => ?_, fun k2 => ?_⟩
        · walk_at "zw"
          refine ⟨d1 - 1, by omega, d1 - 1, g2, rfl, by omega, by omega, (dr'.trans f2).up (by omega), ⟨x4', ?_⟩, rfl⟩
          rw [show ((d1 : Int) - 1) = ((d1 - 1 : Nat) : Int) by omega]
        · exact ⟨d1, g2, x4', q2, q3, (dr'.trans f2).up (by omega), rfl, rfl⟩
      · walk_at "zw"
        exact ⟨d1, g', x4', q2, q3, dr'.up (by omega), rfl, rfl⟩
    · have := tree_pos tr (s, d0) (by simp)
      dsimp only at this
      omega
    · rw [show ((d0 : Int) + 1) = ((d0 + 1 : Nat) : Int) by omega]
    · subst el; subst eh
      have gl' : g.length = g'.length := by rw [gl, dr'.len]
      rw [gl']
      walk_at "zw"
      refine ⟨rcv_lst get_new, ?_⟩
      walk_at "zw"
      refine (ok_one_of (n := n) dr'.dc.app lm (by rw [List.length_map]; omega) (by omega) (strs_cl ls)).mono fun x h1' ⟨mx, f⟩ => ?_
      obtain ⟨t, mt, rfl⟩ := List.mem_map.mp mx
      obtain ⟨g2, f2, rfl⟩ := f.app (by rw [dr'.len]; exact hi)
      have gl2 := f2.len
      rw [← gl2]
      walk_at "zw"
      refine okP_app get_new (by simp; omega) ?_
      rw [set_new]
      walk_at "zw"
      refine ⟨ns0 ++ [(s, d0)], t, d1, c + d0 + 3, g2, x4', some (.int d1), by rw [gl2, ← gl', ← hg1], ?_, tree_snoc tr q2 q3, fun p hp => ?_, by simp [e1], by omega, (dr'.trans f2).up (by omega), by omega, by omega⟩
      · simp [ndP]
      · rcases List.mem_append.mp hp with z | z
        · exact lb p z
        · cases List.mem_singleton.mp z; exact hl t mt
  · subst el; subst eh
    walk_at "zw"
    rw [List.length_map, List.length_range] at e1 c1
    obtain ⟨hi2, a, b, cc, eg, rest⟩ := dr
    have gl : h1.length = g.length := by rw [eg, List.length_set, l1]
    have fz := frz_lst (h1 := g ++ [.lst ((ns0 ++ [(s, d0)]).map ndP)]) (n := h.length) (i := h1.length) (ds := (ns0 ++ [(s, d0)]).map ndP) (by rw [gl]; exact get_new) (by omega) (nds_cl _)
    refine ⟨.fl ((ns0 ++ [(s, d0)]).map ndP), g, fz, ?_, ns0 ++ [(s, d0)], rfl, tr, by rw [List.length_append]; simp; omega, lb, ?_⟩
    · rw [eg]
      exact seal_set' rfl h _ i
    · exact Dr.up ⟨hi2, a, b, cc, eg, rest⟩ (by omega)

theorem nd_get {ns : List Nd} {i : Nat} {p : Nd} (h : ns[i]? = some p) : atI (ns.map ndP) (i : Int) = some (ndP p) := by
  have hi := (List.getElem?_eq_some_iff.mp h).1
  unfold atI ixN
  rw [if_pos (by omega), if_pos (by rw [List.length_map]; omega)]
  show (ns.map ndP)[(i : Int).toNat]? = _
  rw [Int.toNat_natCast, List.getElem?_map, h]; rfl
theorem okO_ndT {h : PHeap} {ns : List Nd} {i : Nat} {p : Nd} {Q : PV → Prop} (e : ns[i]? = some p) (q : Q (ndP p)) : OkO (getF (.tup (ns.map ndP)) (.int i) h) Q := okO_of (show atI (ns.map ndP) i = _ from nd_get e) q
theorem lab6_ok {s : Str} (h : s ∈ lab6) : okLab s = true := by
  have : ∀ s ∈ lab6, okLab s = true := by decide +kernel
  exact this s h
theorem ok_isrA {n : Nat} {h : PHeap} {v : PV} (hv : valD v = true) : Ok (cl (n + 1) 154 [v] h) fun d h' => d = .bl (docB v) ∧ h' = h := by
  cases nt : isTupP v with
  | true =>
    obtain ⟨rs, rfl⟩ : ∃ rs, v = .tup rs := by cases v <;> first | exact ⟨_, rfl⟩ | (cases nt)
    simp only [valD, Bool.and_eq_true, decide_eq_true_eq, List.all_eq_true] at hv
    exact ok_isr hv.1 hv.2
  | false =>
    have hv : cellB v = true := by cases v <;> first | exact hv | (cases nt)
    have hb : docB v = false := by cases v <;> first | rfl | (cases nt)
    rw [hb]
    exact ok_isrN hv nt
theorem labs_of {ns : List Nd} (h : isR (ns.map ndP) = true) : ∀ p ∈ ns, okLab p.1 = true := by
  have ne : ns.map ndP ≠ [] := fun z => by rw [z] at h; cases h
  unfold isR at h
  rw [rgt_dpt _ ne] at h
  simp only [Bool.and_eq_true, List.all_eq_true] at h
  intro p hp
  exact h.2.1 (ndP p) (List.mem_map.mpr ⟨p, hp, rfl⟩)
theorem okLab_mem {s : Str} (h : okLab s = true) : s ∈ labA := by
  have h : s ∈ (["a", "b", "node", "abcdefgh"] : List Str) := by simpa [okLab] using h
  have : ∀ s ∈ (["a", "b", "node", "abcdefgh"] : List Str), s ∈ labA := by decide +kernel
  exact this s h
theorem labA_len {s : Str} (h : s ∈ labA) : s.length ≤ 100 := by
  have : ∀ s ∈ labA, s.length ≤ 100 := by decide +kernel
  exact this s h
def rOk (r : PV) : Prop := rowD r = true ∧ clV 0 r = true
theorem rOk_nd {s : Str} {d : Int} (h : s ∈ labA) : rOk (.tup [.str s, .int d]) := by
  refine ⟨?_, rfl⟩
  have l := labA_len h
  simp [rowD, cellB, l, h]
theorem rOk_sx {s : Str} {x : PV} (h : s ∈ labA) (c : cellB x = true) (z : clV 0 x = true) : rOk (.tup [.str s, x]) := by
  have l := labA_len h
  refine ⟨by simp [rowD, cellB, l, h]; simpa [cellB] using c, ?_⟩
  simp only [clV, clVs, z]; rfl
theorem t_spoilt : TB 35 = some f_law_spoilt := rfl
theorem ok_spoilt {n i : Nat} {B : Int} {h : PHeap} {ns : List Nd} (d : Dc h i B) (hb : B + 1000 < 2 ^ 100) (h0 : 0 ≤ B) (hl : ∀ p ∈ ns, okLab p.1 = true) (n1 : ns ≠ []) (n2 : ns.length ≤ 9) :
    Ok (cl (n + 3) 35 [.ref i, .tup (ns.map ndP)] h) fun v h' => ∃ rs, v = .tup rs ∧ rs.length ≤ 9 ∧ (∀ r ∈ rs, rOk r) ∧ Dr i (B + 4) h h' := by
  have hi := d.lt
  have np := List.length_pos_iff.mpr n1
  refine (f_call t_spoilt rfl rfl).mpr ?_
  (unfold f_law_spoilt; dsimp only [List.map, List.append, HAppend.hAppend, Append.append, List.replicate, Nat.reduceSub])
  walk_at "zw"
  refine (ok_roll (n := n + 1) d (by rw [List.length_map]; omega) (by omega) (by rw [List.length_map]; omega)).mono fun y h1 ⟨a, ea, a0, a1, f1⟩ => ?_
  subst ea
  rw [List.length_map] at a1
  walk_at "zw"
  refine (ok_roll (n := n + 1) f1.dc (by omega) (by omega) (by omega)).mono fun y h2 ⟨w, ew, w0, w1, f2⟩ => ?_
  subst ew
  obtain ⟨k, rfl⟩ : ∃ k : Nat, a = (k : Int) := ⟨a.toNat, by omega⟩
  have hk : k < ns.length := by omega
  obtain ⟨p, hp⟩ : ∃ p, ns[k]? = some p := ⟨_, List.getElem?_eq_getElem hk⟩
  obtain ⟨s, dd⟩ := p
  have hs : s ∈ labA := okLab_mem (hl _ (List.mem_of_getElem? hp))
  walk_at "zw"
  refine okO_ndT hp ?_
  rw [show ndP (s, dd) = .tup [.str s, .int dd] from rfl]
  walk_at "zw"
  have ls := labA_len hs
  refine (ok_one_of (n := n) f2.dc (by simp) (by simp) (by omega) rfl).mono fun r h3 ⟨mr, f3⟩ => ?_
  have rr : rOk r := by
    simp only [List.mem_cons, List.not_mem_nil, or_false] at mr
    rcases mr with rfl | rfl | rfl | rfl | rfl | rfl | rfl | rfl
    · exact ⟨rfl, rfl⟩
    · exact ⟨by simp [rowD, cellB, ls], rfl⟩
    · exact ⟨rfl, rfl⟩
    · exact ⟨rfl, rfl⟩
    · exact ⟨rfl, rfl⟩
    · exact ⟨by simp [rowD, cellB, ls], rfl⟩
    · exact ⟨rfl, rfl⟩
    · exact ⟨rfl, rfl⟩
  clear mr
  walk_at "zw"
  have fx := (f1.trans f2).trans f3
  have all9 : ∀ r ∈ ns.map ndP, rOk r := fun r hr => by
    obtain ⟨q, hq, rfl⟩ := List.mem_map.mp hr
    exact rOk_nd (okLab_mem (hl q hq))
  -- the end
  have fin : ∀ (r : PV) (h4 : PHeap), rOk r → Dr i (B + 4) h h4 → ∃ rs, PV.tup ((ns.map ndP).take k ++ [r] ++ (ns.map ndP).drop (k + 1)) = .tup rs ∧ rs.length ≤ 9 ∧ (∀ r ∈ rs, rOk r) ∧ Dr i (B + 4) h h4 := fun r h4 hr f4 => by
    refine ⟨_, rfl, by simp; omega, fun x hx => ?_, f4⟩
    rcases List.mem_append.mp hx with z | z
    · rcases List.mem_append.mp z with z | z
      · exact all9 x (List.mem_of_mem_take z)
      · cases List.mem_singleton.mp z; exact hr
    · exact all9 x (List.mem_of_mem_drop z)
  have ccl : ∀ (r : PV), rOk r → clV 0 (.tup ((ns.map ndP).take k ++ [r] ++ (ns.map ndP).drop (k + 1))) = true := fun r hr => by
    simp only [clV]
    refine cls_app (cls_app ?_ ?_) ?_
    · rw [← List.map_take]; exact nds_cl _
    · simp only [clVs, hr.2]; rfl
    · rw [← List.map_drop]; exact nds_cl _
  rcases (by omega : w = 0 ∨ w = 1 ∨ w = 2 ∨ w = 3 ∨ w = 4 ∨ w = 5) with rfl | rfl | rfl | rfl | rfl | rfl
  · walk_at "zw"
    refine w_neg1.mpr ?_
    walk_at "zw"
    refine (ok_one_of (n := n) f3.dc (by simp) (by simp) (by omega) rfl).mono fun x h4 ⟨mx, f4⟩ => ?_
    have rx : rOk (.tup [.str s, x]) := by
      refine rOk_sx hs ?_ ?_ <;> (simp only [List.mem_cons, List.not_mem_nil, or_false] at mx; rcases mx with rfl | rfl | rfl | rfl | rfl | rfl | rfl | rfl | rfl | rfl | rfl <;> rfl)
    clear mx
    walk_at "zw"
    have f5 : Dr i (B + 4) h h4 := (fx.trans f4).up (by omega)
    refine okP_slcT ?_
    rw [cutP_upto]
    walk_at "zw"
    refine okP_addT (by simp; omega) ?_
    walk_at "zw"
    refine okP_slcT ?_
    rw [show ((k : Int) + 1) = ((k + 1 : Nat) : Int) by omega, cutP_nat]
    refine okP_addT (by simp; omega) ?_
    exact sl_dr0 f5 (ccl _ rx) (fin _ h4 rx f5)
  · walk_at "zw"
    refine w_neg1.mpr ?_
    walk_at "zw"
    refine (ok_one_of (n := n) f3.dc (by simp) (by simp) (by omega) rfl).mono fun x h4 ⟨mx, f4⟩ => ?_
    have rx : rOk (.tup [.str s, x]) := by
      refine rOk_sx hs ?_ ?_ <;> (simp only [List.mem_cons, List.not_mem_nil, or_false] at mx; rcases mx with rfl | rfl | rfl | rfl | rfl | rfl | rfl | rfl | rfl | rfl | rfl <;> rfl)
    clear mx
    walk_at "zw"
    have f5 : Dr i (B + 4) h h4 := (fx.trans f4).up (by omega)
    refine okP_slcT ?_
    rw [cutP_upto]
    walk_at "zw"
    refine okP_addT (by simp; omega) ?_
    walk_at "zw"
    refine okP_slcT ?_
    rw [show ((k : Int) + 1) = ((k + 1 : Nat) : Int) by omega, cutP_nat]
    refine okP_addT (by simp; omega) ?_
    exact sl_dr0 f5 (ccl _ rx) (fin _ h4 rx f5)
  · walk_at "zw"
    refine (ok_one_of (n := n) f3.dc (by simp) (by simp) (by omega) rfl).mono fun x h4 ⟨mx, f4⟩ => ?_
    have rx : rOk (.tup [x, .int dd]) := by
      simp only [List.mem_cons, List.not_mem_nil, or_false] at mx
      rcases mx with rfl | rfl | rfl | rfl | rfl | rfl | rfl | rfl | rfl <;> first | exact ⟨rfl, rfl⟩ | exact rOk_nd (by decide +kernel)
    clear mx
    walk_at "zw"
    have f5 : Dr i (B + 4) h h4 := (fx.trans f4).up (by omega)
    refine okP_slcT ?_
    rw [cutP_upto]
    walk_at "zw"
    refine okP_addT (by simp; omega) ?_
    walk_at "zw"
    refine okP_slcT ?_
    rw [show ((k : Int) + 1) = ((k + 1 : Nat) : Int) by omega, cutP_nat]
    refine okP_addT (by simp; omega) ?_
    exact sl_dr0 f5 (ccl _ rx) (fin _ h4 rx f5)
  · walk_at "zw"
    refine okP_slcT ?_
    rw [cutP_upto]
    walk_at "zw"
    refine okP_slcT ?_
    rw [show ((k : Int) + 1) = ((k + 1 : Nat) : Int) by omega, cutP_nat]
    refine okP_addT (by simp; omega) ?_
    have f5 : Dr i (B + 4) h h3 := fx.up (by omega)
    refine sl_dr0 f5 ?_ ⟨_, rfl, by simp; omega, fun x hx => ?_, f5⟩
    · simp only [clV]
      refine cls_app ?_ ?_
      · rw [← List.map_take]; exact nds_cl _
      · rw [← List.map_drop]; exact nds_cl _
    · rcases List.mem_append.mp hx with z | z
      · exact all9 x (List.mem_of_mem_take z)
      · exact all9 x (List.mem_of_mem_drop z)
  · walk_at "zw"
    have f5 : Dr i (B + 4) h h3 := fx.up (by omega)
    refine okP_slcT ?_
    rw [cutP_upto]
    walk_at "zw"
    refine okP_addT (by simp; omega) ?_
    walk_at "zw"
    refine okP_slcT ?_
    rw [show ((k : Int) + 1) = ((k + 1 : Nat) : Int) by omega, cutP_nat]
    refine okP_addT (by simp; omega) ?_
    exact sl_dr0 f5 (ccl _ rr) (fin _ h3 rr f5)
  · walk_at "zw"
    have f5 : Dr i (B + 4) h h3 := fx.up (by omega)
    refine okP_slcT ?_
    rw [cutP_upto]
    walk_at "zw"
    refine okP_addT (by simp; omega) ?_
    walk_at "zw"
    refine okP_slcT ?_
    rw [show ((k : Int) + 1) = ((k + 1 : Nat) : Int) by omega, cutP_nat]
    refine okP_addT (by simp; omega) ?_
    exact sl_dr0 f5 (ccl _ rr) (fin _ h3 rr f5)
end Law
end Zed
end
section
set_option Elab.async false
set_option linter.all false
set_option maxRecDepth 100000
set_option maxHeartbeats 1000000
/-! D03f: indices that are none; what is no document. -/
namespace Zed
namespace Law
open PySem L2
def odds (n : Int) : List PV := [.non, .int (-1), .int n, .bl true, .str "0", .tup [], .int (10 ^ 30), .fl [.int 0], .bl false]
def rpOk (v : PV) (x : Str) : Prop := (∀ h, reprC h v = some x) ∧ ("number " : Str).length + x.length ≤ 100 ∧ PyData.strOk ("number " ++ x) = true
theorem rp1 : rpOk .non "None" := ⟨fun h => rfl, by decide +kernel, by decide +kernel⟩
theorem rp2 : rpOk (.int (-1)) "-1" := ⟨fun h => rfl, by decide +kernel, by decide +kernel⟩
theorem rp3 : rpOk (.bl true) "True" := ⟨fun h => rfl, by decide +kernel, by decide +kernel⟩
theorem rp4 : rpOk (.str "0") "'0'" := ⟨fun h => by unfold reprC; simp only [reprP]; decide +kernel, by decide +kernel, by decide +kernel⟩
theorem rp5 : rpOk (.tup []) "()" := ⟨fun h => by unfold reprC; simp only [reprP, toD, mapO, Option.map]; decide +kernel, by decide +kernel, by decide +kernel⟩
theorem rp6 : rpOk (.fl [.int 0]) "[0]" := ⟨fun h => by unfold reprC; simp only [reprP, toD, mapO, Option.map]; decide +kernel, by decide +kernel, by decide +kernel⟩
theorem rp7 : rpOk (.int (10 ^ 30)) "1000000000000000000000000000000" := ⟨fun h => by rfl, by decide +kernel, by decide +kernel⟩
theorem okP_isiR {h : PHeap} {i c d : Nat} {fs : List (Nat × PV)} {b : Bool} {Q : PV → PHeap → Prop} (e : h[i]? = some (.ins d fs)) (k : CT.sub d c = some b) (q : Q (.bl b) h) : OkP (isiP CT [.ref i, .gl c] h) Q := by
  refine okP_of ?_ q
  simp only [isiP, objOf, e, k]; rfl
theorem okP_attrR {h : PHeap} {i c f : Nat} {fs : List (Nat × PV)} {v : PV} {Q : PV → PHeap → Prop} (e : h[i]? = some (.ins c fs)) (ow : ownF CT c f = true) (k : fs.lookup f = some v) (q : Q v h) : OkP (attrF CT f [.ref i] h) Q := by
  refine okP_of ?_ q
  simp only [attrF, objOf, e, ow, k]; rfl

theorem t_is_index : TB 3 = some f_is_index := rfl
theorem t_req_node : TB 100 = some f_require_node := rfl
theorem t_req_doc : TB 103 = some f_require_document := rfl
theorem t_under : TB 104 = some f_Document_under := rfl
theorem t_child : TB 105 = some f_Document_with_child := rfl
theorem t_item : TB 106 = some f_Document___getitem__ := rfl
theorem rp_len : ∀ n : Nat, 1 ≤ n → n ≤ 9 → ∃ x, rpOk (.int n) x := by
  intro n h1 h2
  rcases (by omega : n = 1 ∨ n = 2 ∨ n = 3 ∨ n = 4 ∨ n = 5 ∨ n = 6 ∨ n = 7 ∨ n = 8 ∨ n = 9) with rfl | rfl | rfl | rfl | rfl | rfl | rfl | rfl | rfl
  · exact ⟨"1", fun h => rfl, by decide +kernel, by decide +kernel⟩
  · exact ⟨"2", fun h => rfl, by decide +kernel, by decide +kernel⟩
  · exact ⟨"3", fun h => rfl, by decide +kernel, by decide +kernel⟩
  · exact ⟨"4", fun h => rfl, by decide +kernel, by decide +kernel⟩
  · exact ⟨"5", fun h => rfl, by decide +kernel, by decide +kernel⟩
  · exact ⟨"6", fun h => rfl, by decide +kernel, by decide +kernel⟩
  · exact ⟨"7", fun h => rfl, by decide +kernel, by decide +kernel⟩
  · exact ⟨"8", fun h => rfl, by decide +kernel, by decide +kernel⟩
  · exact ⟨"9", fun h => rfl, by decide +kernel, by decide +kernel⟩
theorem odd_rp {n : Nat} (h1 : 1 ≤ n) (h2 : n ≤ 9) {v : PV} (hv : v ∈ odds n) : ∃ x, rpOk v x := by
  simp only [odds, List.mem_cons, List.not_mem_nil, or_false] at hv
  rcases hv with rfl | rfl | rfl | rfl | rfl | rfl | rfl | rfl | rfl
  · exact ⟨_, rp1⟩
  · exact ⟨_, rp2⟩
  · exact rp_len n h1 h2
  · exact ⟨_, rp3⟩
  · exact ⟨_, rp4⟩
  · exact ⟨_, rp5⟩
  · exact ⟨_, rp7⟩
  · exact ⟨_, rp6⟩
  · exact ⟨"False", fun h => rfl, by decide +kernel, by decide +kernel⟩
theorem odd_cl {n : Int} {v : PV} (hv : v ∈ odds n) : clV 0 v = true := by
  simp only [odds, List.mem_cons, List.not_mem_nil, or_false] at hv
  rcases hv with rfl | rfl | rfl | rfl | rfl | rfl | rfl | rfl | rfl <;> rfl
theorem ok_index_odd {n N : Nat} {h : PHeap} {v : PV} (h1 : 1 ≤ N) (h2 : N ≤ 9) (hv : v ∈ odds N) : Ok (cl (n + 1) 3 [v, .int N] h) fun d h' => d = .bl false ∧ h' = h := by
  refine (f_call t_is_index rfl rfl).mpr ?_
  (unfold f_is_index; dsimp only [List.map, List.append, HAppend.hAppend, Append.append, List.replicate, Nat.reduceSub])
  simp only [odds, List.mem_cons, List.not_mem_nil, or_false] at hv
  rcases hv with rfl | rfl | rfl | rfl | rfl | rfl | rfl | rfl | rfl
  · walk_at "zw"; exact sl_same rfl ⟨rfl, rfl⟩
  · walk_at "zw"; exact sl_same rfl ⟨rfl, rfl⟩
  · walk_at "zw"
    rw [decide_eq_false (by omega)]
    exact sl_same rfl ⟨rfl, rfl⟩
  · walk_at "zw"; exact sl_same rfl ⟨rfl, rfl⟩
  · walk_at "zw"; exact sl_same rfl ⟨rfl, rfl⟩
  · walk_at "zw"; exact sl_same rfl ⟨rfl, rfl⟩
  · walk_at "zw"
    rw [decide_eq_false (by omega)]
    exact sl_same rfl ⟨rfl, rfl⟩
  · walk_at "zw"; exact sl_same rfl ⟨rfl, rfl⟩
  · walk_at "zw"; exact sl_same rfl ⟨rfl, rfl⟩
theorem ok_index_last {n N : Nat} {h : PHeap} (h1 : 1 ≤ N) : Ok (cl (n + 1) 3 [.int ((N : Int) - 1), .int N] h) fun d h' => d = .bl true ∧ h' = h := by
  refine (f_call t_is_index rfl rfl).mpr ?_
  (unfold f_is_index; dsimp only [List.map, List.append, HAppend.hAppend, Append.append, List.replicate, Nat.reduceSub])
  walk_at "zw"
  refine br_t (decide_eq_true (by omega)) ?_
  walk_at "zw"
  rw [decide_eq_true (by omega)]
  exact sl_same rfl ⟨rfl, rfl⟩
abbrev X153 (h : PHeap) (v : PV) : XP := fun c fs h' => c = .gl 153 ∧ fs = [(149, v)] ∧ h' = h
theorem ok_req_odd {n j : Nat} {h : PHeap} {ns : List Nd} {v : PV} (e : h[j]? = some (docO ns)) (n1 : ns ≠ []) (n9 : ns.length ≤ 9) (hv : v ∈ odds ns.length) :
    Okx (X153 h v) (cl (n + 2) 100 [.ref j, v] h) fun _ _ => False := by
  have np := List.length_pos_iff.mpr n1
  refine (f_callx t_req_node rfl rfl).mpr ?_
  (unfold f_require_node; dsimp only [List.map, List.append, HAppend.hAppend, Append.append, List.replicate, Nat.reduceSub])
  walk_at "zw"
  refine okP_attrR e rfl rfl ?_
  walk_at "zw"
  rw [List.length_map]
  refine (ok_index_odd (n := n) np n9 hv).mono fun d h1 ⟨e1, e2⟩ => ?_
  subst e1; subst e2
  walk_at "zw"
  exact sxf (cl_up (Nat.zero_le _) _ (odd_cl hv)) ⟨rfl, rfl, rfl⟩
theorem ok_req_last {n j : Nat} {h : PHeap} {ns : List Nd} (e : h[j]? = some (docO ns)) (n1 : ns ≠ []) :
    Ok (cl (n + 2) 100 [.ref j, .int ((ns.length : Int) - 1)] h) fun _ h' => h' = h := by
  have np := List.length_pos_iff.mpr n1
  refine (f_call t_req_node rfl rfl).mpr ?_
  (unfold f_require_node; dsimp only [List.map, List.append, HAppend.hAppend, Append.append, List.replicate, Nat.reduceSub])
  walk_at "zw"
  refine okP_attrR e rfl rfl ?_
  walk_at "zw"
  rw [List.length_map]
  refine (ok_index_last (n := n) np).mono fun d h1 ⟨e1, e2⟩ => ?_
  subst e1; subst e2
  walk_at "zw"
  exact sl_same rfl rfl
theorem ok_req_doc {n : Nat} {h : PHeap} {v : PV} (c : cellB v = true) : Okx (X39 h True) (cl (n + 1) 103 [v] h) fun _ _ => False := by
  refine (f_callx t_req_doc rfl rfl).mpr ?_
  (unfold f_require_document; dsimp only [List.map, List.append, HAppend.hAppend, Append.append, List.replicate, Nat.reduceSub])
  unfold cellB at c
  split at c <;> first | (walk_at "zw"; exact sx0 ⟨⟨rfl, rfl, rfl⟩, trivial⟩) | (cases c; done)
theorem sx_153 {h : PHeap} {v : PV} (z : clV 0 v = true) {c : PV} {fs : List (Nat × PV)} {h' : PHeap} (x : X153 h v c fs h') : SealX h (X153 h v) c fs h' := by
  obtain ⟨rfl, rfl, rfl⟩ := x
  exact sxf (cl_up (Nat.zero_le _) _ z) ⟨rfl, rfl, rfl⟩
theorem ok_under_odd {n j : Nat} {h : PHeap} {ns : List Nd} {v : PV} (e : h[j]? = some (docO ns)) (n1 : ns ≠ []) (n9 : ns.length ≤ 9) (hv : v ∈ odds ns.length) :
    Okx (X153 h v) (cl (n + 3) 104 [.ref j, v] h) fun _ _ => False := by
  refine (f_callx t_under rfl rfl).mpr ?_
  (unfold f_Document_under; dsimp only [List.map, List.append, HAppend.hAppend, Append.append, List.replicate, Nat.reduceSub])
  walk_at "zw"
  exact Okx.imp (ok_req_odd (n := n) e n1 n9 hv) (fun _ _ z => z.elim) fun _ _ _ x => sx_153 (odd_cl hv) x
theorem ok_item_odd {n j : Nat} {h : PHeap} {ns : List Nd} {v : PV} (e : h[j]? = some (docO ns)) (n1 : ns ≠ []) (n9 : ns.length ≤ 9) (hv : v ∈ odds ns.length) :
    Okx (X153 h v) (cl (n + 3) 106 [.ref j, v] h) fun _ _ => False := by
  refine (f_callx t_item rfl rfl).mpr ?_
  (unfold f_Document___getitem__; dsimp only [List.map, List.append, HAppend.hAppend, Append.append, List.replicate, Nat.reduceSub])
  walk_at "zw"
  exact Okx.imp (ok_req_odd (n := n) e n1 n9 hv) (fun _ _ z => z.elim) fun _ _ _ x => sx_153 (odd_cl hv) x
theorem ok_child_odd {n j : Nat} {h : PHeap} {ns : List Nd} {v w : PV} (e : h[j]? = some (docO ns)) (n1 : ns ≠ []) (n9 : ns.length ≤ 9) (hv : v ∈ odds ns.length) :
    Okx (X153 h v) (cl (n + 3) 105 [.ref j, v, w] h) fun _ _ => False := by
  refine (f_callx t_child rfl rfl).mpr ?_
  (unfold f_Document_with_child; dsimp only [List.map, List.append, HAppend.hAppend, Append.append, List.replicate, Nat.reduceSub])
  walk_at "zw"
  exact Okx.imp (ok_req_odd (n := n) e n1 n9 hv) (fun _ _ z => z.elim) fun _ _ _ x => sx_153 (odd_cl hv) x
theorem ok_child_none {n j : Nat} {h : PHeap} {ns : List Nd} {w : PV} (e : h[j]? = some (docO ns)) (n1 : ns ≠ []) (c : cellB w = true) :
    Okx (X39 h True) (cl (n + 3) 105 [.ref j, .int ((ns.length : Int) - 1), w] h) fun _ _ => False := by
  refine (f_callx t_child rfl rfl).mpr ?_
  (unfold f_Document_with_child; dsimp only [List.map, List.append, HAppend.hAppend, Append.append, List.replicate, Nat.reduceSub])
  walk_at "zw"
  refine (ok_req_last (n := n) e n1).mono fun d h1 e2 => ?_
  subst e2
  walk_at "zw"
  exact Okx.imp (ok_req_doc (n := n + 1) c) (fun _ _ z => z.elim) fun c fs h2 ⟨⟨e1, e2, e3⟩, _⟩ => by subst e1; subst e2; subst e3; exact sx0 ⟨⟨rfl, rfl, rfl⟩, trivial⟩
def hs10 : List (Nat × Hx) := [(39, (.con (.str "document"))), (40, (.con (.str "question"))), (41, (.con (.str "reader"))), (31, (.con (.str "operation"))), (156, (.add (.con (.str "parse ")) (.rep (.fld 147)))), (159, (.add (.con (.str "name ")) (.rep (.fld 148)))), (153, (.add (.con (.str "number ")) (.rep (.fld 149)))), (158, (.add (.con (.str "many ")) (.num (.fld 150)))), (155, (.add (.con (.str "undo ")) (.rep (.fld 151)))), (157, (.add (.con (.str "refused ")) (.rep (.fld 152))))]
theorem met37 : CT.met 37 = some (hs10, .drop (.str "fine")) := rfl
theorem met_39 {h : PHeap} : metGo CT 39 [] h hs10 = .ok (.str "document") h := rfl
theorem met_153 {h : PHeap} {v : PV} {x : Str} (r : rpOk v x) : metGo CT 153 [(149, v)] h hs10 = .ok (.str ("number " ++ x)) h := by
  show (match hxV CT h 153 [(149, v)] (.add (.con (.str "number ")) (.rep (.fld 149))) with | some v => R.ok v h | none => .stuck) = _
  have e : hxV CT h 153 [(149, v)] (.add (.con (.str "number ")) (.rep (.fld 149))) = some (.str ("number " ++ x)) := by
    have e1 : hxV CT h 153 [(149, v)] (.rep (.fld 149)) = some (.str x) := by
      show (match (some v : Option PV) with | some v => (reprC h v).map PV.str | none => none) = _
      simp only [r.1 h]; rfl
    unfold hxV
    rw [e1]
    show (if _ then _ else _) = _
    rw [if_pos (line_of (Nat.le_trans r.2.1 (by decide)))]
  rw [e]
/-- a document is made, or not -/
theorem ok_mkmet {n k : Nat} {l : Loc} {h : PHeap} {v : PV} {X : XP} {Q : PV → PHeap → Prop} (hv : valD v = true) (el : l[k]? = some (some v)) (q : ∀ g, Q (.str (if docB v = true then "fine" else "document")) (h ++ g)) :
    Okx X (evE ⟨cl (n + 4), CT⟩ (.met 37 (.make 58 59 (.cons (.loc k) .nil))) l h) Q := by
  refine x_met met37 ?_
  refine w_make.mpr ?_
  refine w_cons.mpr ?_
  refine x_loc el ?_
  refine w_nil.mpr ?_
  refine Okx.imp (ok_dinit (n := n) hv) (fun d h1 ⟨e1, eb, ns, _, _, _, e2⟩ => ?_) fun c fs h1 ⟨⟨e1, e2⟩, ⟨g, e3⟩, eb⟩ => ?_
  · subst e1; subst e2
    refine ⟨rfl, ?_⟩
    have := q [docO ns]
    rw [eb, if_pos rfl] at this
    exact this
  · subst e1; subst e2; subst e3
    refine ⟨39, rfl, ?_⟩
    rw [met_39]
    have := q g
    rw [eb, if_neg (by simp)] at this
    exact this
end Law
end Zed
end
section
set_option Elab.async false
set_option linter.all false
set_option maxRecDepth 100000
set_option maxHeartbeats 1000000
/-! D03g: one turn. -/
namespace Zed
namespace Law
open PySem L2
theorem eqD_same {h : PHeap} {x y : PV} {d : PyData} (h1 : toD h 70 x = some d) (h2 : toD h 70 y = some d) (s : SeqAt.shaped d = true) : eqD h x y = some true := by
  unfold eqD
  rw [h1, h2]
  dsimp only
  rw [if_pos ⟨s, s⟩]
  have : d.canLay0 = true := by unfold SeqAt.shaped at s; exact (Bool.and_eq_true_iff.mp s).1
  rw [SeqAt.eqv_refl d this]
theorem okO_nsame {h : PHeap} {x y : PV} {d : PyData} {Q : Bool → Prop} (h1 : toD h 70 x = some d) (h2 : toD h 70 y = some d) (s : SeqAt.shaped d = true) (q : Q false) : OkO (cmpB .ne h x y) Q :=
  okO_of (show (eqD h x y).map _ = some false by rw [eqD_same h1 h2 s]; rfl) q
theorem okO_same {h : PHeap} {x y : PV} {d : PyData} {Q : Bool → Prop} (h1 : toD h 70 x = some d) (h2 : toD h 70 y = some d) (s : SeqAt.shaped d = true) (q : Q true) : OkO (cmpB .eq h x y) Q :=
  okO_of (show eqF h x y = some true by unfold eqF; rw [eqD_same h1 h2 s]) q

theorem chain_rgt : ∀ {ns : List Nd} {p : Nat}, 1 ≤ p → (∀ q ∈ ns, okLab q.1 = true) → Chain p ns → rgt (p : Int) (ns.map ndP) = true
  | [], _, _, _, _ => rfl
  | (s, d) :: r, p, hp, hl, ⟨c1, c2, c3⟩ => by
    have m2 : mn (p : Int) = 2 := by unfold mn; rw [if_neg (by omega)]
    have h1 : ndJ (ndP (s, d)) = true := hl (s, d) List.mem_cons_self
    have h2 : dOf (ndP (s, d)) = (d : Int) := rfl
    simp only [List.map, rgt, h1, h2, m2, Bool.true_and]
    rw [decide_eq_false (by omega), decide_eq_false (by omega), chain_rgt (by omega) (fun q hq => hl q (List.mem_cons_of_mem _ hq)) c3]
    rfl
theorem tree_isR {ns : List Nd} (t : Tree ns) (hl : ∀ q ∈ ns, okLab q.1 = true) (n40 : ns.length ≤ 40) : isR (ns.map ndP) = true := by
  cases ns with
  | nil => exact t.elim
  | cons p r =>
    obtain ⟨s, d⟩ := p
    obtain ⟨rfl, c⟩ := t
    have h1 : ndJ (ndP (s, 1)) = true := hl (s, 1) List.mem_cons_self
    have h2 : dOf (ndP (s, 1)) = ((1 : Nat) : Int) := rfl
    unfold isR
    simp only [List.map, rgt, h1, h2, Bool.true_and]
    rw [chain_rgt (Nat.le_refl _) (fun q hq => hl q (List.mem_cons_of_mem _ hq)) c]
    rw [decide_eq_true (by simp), decide_eq_true (by simp at n40 ⊢; omega)]
    rfl
theorem valD_nds {ns : List Nd} (hl : ∀ q ∈ ns, okLab q.1 = true) (n : ns.length ≤ 200) : valD (.tup (ns.map ndP)) = true := by
  simp only [valD, Bool.and_eq_true, decide_eq_true_eq, List.all_eq_true]
  refine ⟨by simpa using n, fun r hr => ?_⟩
  obtain ⟨q, hq, rfl⟩ := List.mem_map.mp hr
  exact (rOk_nd (okLab_mem (hl q hq))).1
theorem valD_rs {rs : List PV} (hl : ∀ r ∈ rs, rOk r) (n : rs.length ≤ 200) : valD (.tup rs) = true := by
  simp only [valD, Bool.and_eq_true, decide_eq_true_eq, List.all_eq_true]
  exact ⟨n, fun r hr => (hl r hr).1⟩
theorem rowD_nds : ∀ ns : List Nd, rowD (.tup (ns.map ndP)) = true
  | [] => rfl
  | [_] => rfl
  | [_, _] => rfl
  | _ :: _ :: _ :: _ => rfl
theorem okP_mul5 {h : PHeap} {xs : List PV} {Q : PV → PHeap → Prop} (hl : xs.length ≤ 100) (q : Q (.tup (List.replicate 5 xs).flatten) h) : OkP (bopF .mul [.tup xs, .int 5] h) Q := by
  by_cases z : xs = []
  · subst z
    exact okP_of (show mulF (.tup []) (.int 5) h = some (.tup [], h) by unfold mulF; dsimp only; rw [if_neg (by simp), if_pos ⟨rfl, by decide, by decide⟩]) q
  · exact okP_of (show mulF (.tup xs) (.int 5) h = some (.tup (List.replicate 5 xs).flatten, h) by unfold mulF; dsimp only; rw [if_pos ⟨z, by decide, by decide, by omega⟩]; rfl) q
theorem layAll {α : Type} {k : α → PyData} : ∀ {l : List α}, (∀ a ∈ l, (k a).canLay0 = true) → PyData.canLayAll0 (l.map k) = true
  | [], _ => by simp only [List.map, PyData.canLayAll0]
  | a :: r, h => by
    simp only [List.map, PyData.canLayAll0, h a List.mem_cons_self, layAll fun b hb => h b (List.mem_cons_of_mem _ hb)]; rfl
theorem depAll {α : Type} {k : α → PyData} {n : Nat} : ∀ {l : List α}, (∀ a ∈ l, (k a).depth ≤ n) → PyData.depthAll (l.map k) ≤ n
  | [], _ => by simp only [List.map, PyData.depthAll]; omega
  | a :: r, h => by
    have h1 := h a List.mem_cons_self
    have h2 := depAll fun b hb => h b (List.mem_cons_of_mem _ hb)
    simp only [List.map, PyData.depthAll]
    omega
theorem sh_lst {α : Type} {k : α → PyData} {l : List α} (h1 : ∀ a ∈ l, (k a).canLay0 = true) (h2 : ∀ a ∈ l, (k a).depth ≤ 20) : SeqAt.shaped (.list (l.map k)) = true := by
  unfold SeqAt.shaped
  have := depAll h2
  have d : (PyData.list (l.map k)).depth ≤ 21 := by simp only [PyData.depth]; omega
  rw [show (PyData.list (l.map k)).canLay0 = true by simp only [PyData.canLay0]; exact layAll h1, Bool.true_and]
  exact decide_eq_true (by omega)
theorem mul3_ref {h : PHeap} {i : Nat} {v : PV} (e : h[i]? = some (.lst [v])) : bopF .mul [.ref i, .int 3] h = some (.fl [v, v, v], h) := by
  show mulF (.ref i) (.int 3) h = _
  unfold mulF
  dsimp only
  rw [e]
  dsimp only
  rw [if_pos ⟨by decide, by decide, by show 3 ≤ sizeLine; exact line_of (by decide)⟩]
  rfl
theorem mth_doc {H : PHeap} {j m f : Nat} {ns : List Nd} (e : H[j]? = some (docO ns)) (k : CT.mth 58 m = some f) : mthF CT H (.ref j) m = some f := by
  unfold mthF objOf
  dsimp only
  rw [e]
  exact k
theorem x153_met {H : PHeap} {v : PV} {x : Str} {X : XP} {Q : PV → PHeap → Prop} (r : rpOk v x) (q : Q (.str ("number " ++ x)) H) {c : PV} {fs : List (Nat × PV)} {h' : PHeap} (z : X153 H v c fs h') : ∃ k, c = .gl k ∧ Okx X (metGo CT k fs h' hs10) Q := by
  obtain ⟨rfl, rfl, rfl⟩ := z
  exact ⟨153, rfl, by rw [met_153 r]; exact q⟩
theorem x39_met {H : PHeap} {X : XP} {Q : PV → PHeap → Prop} (q : Q (.str "document") H) {c : PV} {fs : List (Nat × PV)} {h' : PHeap} (z : X39 H True c fs h') : ∃ k, c = .gl k ∧ Okx X (metGo CT k fs h' hs10) Q := by
  obtain ⟨⟨rfl, rfl, rfl⟩, _⟩ := z
  exact ⟨39, rfl, by rw [met_39]; exact q⟩
theorem t_right : TB 23 = some f_law_right := rfl
theorem ok_right {n i : Nat} {B : Int} {h : PHeap} (d : Dc h i B) (hb : B + 10000 < 2 ^ 100) (h0 : 0 ≤ B) : Ok (cl (n + 8) 23 [.ref i] h) fun v h' => v = .bl true ∧ Dr i (B + 400) h h' := by
  have hi := d.lt
  refine (f_call t_right rfl rfl).mpr ?_
  (unfold f_law_right; dsimp only [List.map, List.append, HAppend.hAppend, Append.append, List.replicate, Nat.reduceSub])
  walk_at "zw"
  refine (ok_document (n := n + 4) (ls := lab6) (m := 9) d (by omega) h0 (fun s hs => hs) (by decide) (by decide) (by decide) (by decide)).mono fun v h1 ⟨ns, e1, tr, l9, lb, f1⟩ => ?_
  subst e1
  have n1 := tree_ne tr
  have hl : ∀ p ∈ ns, okLab p.1 = true := fun p hp => lab6_ok (lb p hp)
  walk_at "zw"
  refine (ok_spoilt (n := n + 4) f1.dc (by omega) (by omega) hl n1 l9).mono fun v h2 ⟨rs1, e1, k1, r1, f2⟩ => ?_
  subst e1
  refine okO_bind (Nat.le_of_ble_eq_true rfl) ?_
  dsimp only [List.set]
  refine s_cons.mpr (s_asg.mpr (Okx.mono (Q := fun v h3 => ∃ rs2, v = .tup rs2 ∧ rs2.length ≤ 9 ∧ (∀ r ∈ rs2, rOk r) ∧ Dr i (B + 308) h1 h3) ?_ fun v h3 ⟨rs2, e1, k2, r2, f3⟩ => ?_))
  · walk_at "zw"
    refine (ok_isrA (n := n + 6) (valD_rs r1 (by omega))).mono fun v h3 ⟨e1, e2⟩ => ?_
    subst e1; subst e2
    walk_at "zw"
    refine ⟨fun z => ?_, fun z => ?_⟩
    · walk_at "zw"
      obtain ⟨ns1, en, t1, l1⟩ := tree_of z
      subst en
      refine (ok_spoilt (n := n + 4) f2.dc (by omega) (by omega) (labs_of z) (tree_ne t1) (by simpa using k1)).mono fun v h4 ⟨rs2, e1, k2, r2, f3⟩ => ?_
      exact ⟨rs2, e1, k2, r2, (f2.trans f3).up (by omega)⟩
    · walk_at "zw"
      exact ⟨rs1, rfl, k1, r1, f2.up (by omega)⟩
  subst e1
  have f4 := f1.trans f3
  have np := List.length_pos_iff.mpr n1
  have c1 : valD (.tup (ns.map ndP)) = true := valD_nds hl (by omega)
  have c2 : valD (.tup rs1) = true := valD_rs r1 (by omega)
  have c3 : valD (.tup rs2) = true := valD_rs r2 (by omega)
  walk_at "zw"
  refine okP_slcT ?_
  rw [show cutP (ns.map ndP) (some 1) none = (ns.map ndP).drop 1 from cutP_nat (a := 1)]
  walk_at "zw"
  refine okP_mul5 (by simp; omega) ?_
  have l5 : (List.replicate 5 ((ns.map ndP).drop 1)).flatten.length ≤ 45 := by simp; omega
  refine okP_addT (by simp at l5 ⊢; omega) ?_
  walk_at "zw"
  refine okP_addT (by simp; omega) ?_
  walk_at "zw"
  obtain ⟨big, hbig⟩ : ∃ big, big = ns.map ndP ++ (List.replicate 5 ((ns.map ndP).drop 1)).flatten := ⟨_, rfl⟩
  rw [← hbig]
  have r9 : ∀ r ∈ ns.map ndP, rOk r := fun r hr => by
    obtain ⟨q, hq, rfl⟩ := List.mem_map.mp hr
    exact rOk_nd (okLab_mem (hl q hq))
  have c5 : valD (.tup big) = true := valD_rs (fun r hr => by
    subst hbig
    rcases List.mem_append.mp hr with z | z
    · exact r9 r z
    · simp only [List.mem_flatten, List.mem_replicate] at z
      obtain ⟨l, ⟨_, rfl⟩, z⟩ := z
      exact r9 r (List.mem_of_mem_drop z)) (by subst hbig; rw [List.length_append]; simp at l5 ⊢; omega)
  have c6 : valD (.tup (ns.map ndP ++ ns.map ndP)) = true := valD_rs (fun r hr => by
    rcases List.mem_append.mp hr with z | z <;> exact r9 r z) (by simp; omega)
  have c7 : valD (.tup [.tup (ns.map ndP)]) = true := by
    simp only [valD, List.all_cons, List.all_nil, rowD_nds]
    rfl
  have call : ∀ v ∈ [PV.tup (ns.map ndP), .tup rs1, .tup rs2, .fl (ns.map ndP), .tup big, .tup (ns.map ndP ++ ns.map ndP), .tup [.tup (ns.map ndP)]], valD v = true := by
    intro v hv
    simp only [List.mem_cons, List.not_mem_nil, or_false] at hv
    rcases hv with rfl | rfl | rfl | rfl | rfl | rfl | rfl
    · exact c1
    · exact c2
    · exact c3
    · rfl
    · exact c5
    · exact c6
    · exact c7
  have okT : PyData.strOk "fine" = true ∧ PyData.strOk "document" = true := ⟨by decide +kernel, by decide +kernel⟩
  refine ok_for (ds := [PV.tup (ns.map ndP), .tup rs1, .tup rs2, .fl (ns.map ndP), .tup big, .tup (ns.map ndP ++ ns.map ndP), .tup [.tup (ns.map ndP)]]) (fun j l h' => ∃ x4 g, l = [some (.ref i), some (.tup (ns.map ndP)), some (.tup rs1), some (.tup rs2), x4, none, none, none, none] ∧ h' = h3 ++ g) (fun j l h' _ => rfl)
    (fun j v l h' hj ⟨x4, g, el, eh⟩ => ?_) (fun l h' ⟨x4, g, el, eh⟩ => ?_) _ 0 _ _ rfl (Nat.zero_le _) ⟨none, [], rfl, by simp⟩
  · subst el; subst eh
    have vd := call v (List.mem_of_getElem? hj)
    walk_at "zw"
    refine ok_mkmet (n := n + 3) vd rfl fun g2 => ?_
    rw [List.append_assoc]
    walk_at "zw"
    refine (ok_isrA (n := n + 6) vd).mono fun w h5 ⟨e1, e2⟩ => ?_
    subst e1; subst e2
    walk_at "zw"
    refine ⟨fun z => ?_, fun z => ?_⟩
    · rw [z, if_pos rfl]
      walk_at "zw"
      exact ⟨_, _, rfl, rfl⟩
    · rw [z, if_neg (by simp)]
      walk_at "zw"
      exact ⟨_, _, rfl, rfl⟩
  · subst el; subst eh
    walk_at "zw"
    refine Okx.imp (ok_dinit (n := n + 3) c1) (fun w h5 ⟨e1, eb, ns', e2, t', l', e3⟩ => ?_) fun c fs h5 ⟨_, _, eb⟩ => ?_
    · subst e1; subst e3
      refine ⟨rfl, ?_⟩
      have nn : ns'.length = ns.length := by
        have z : ns.map ndP = ns'.map ndP := PV.tup.inj e2
        have := congrArg List.length z
        simpa using this.symm
      have n1' : ns' ≠ [] := fun z => by subst z; simp at nn; omega
      obtain ⟨g1, hg1⟩ : ∃ g1, g1 = g ++ [docO ns'] := ⟨_, rfl⟩
      obtain ⟨j, hj⟩ : ∃ j, j = (h3 ++ g).length := ⟨_, rfl⟩
      rw [List.append_assoc, ← hg1, ← hj]
      have gj : ∀ (k : PHeap) (r : PHeap), k.length = h3.length → (k ++ g1 ++ r)[j]? = some (docO ns') := fun k r ek => by
        subst hg1; subst hj
        rw [show k ++ (g ++ [docO ns']) ++ r = (k ++ g) ++ ([docO ns'] ++ r) by simp, List.getElem?_append_right (by simp; omega)]
        simp [ek]
      walk_at "zw"
      refine w_neg1.mpr ?_
      walk_at "zw"
      rw [List.length_map]
      refine (ok_one_of (n := n + 5) f4.dc.app (by simp) (by simp) (by omega) rfl).mono fun odd h5 ⟨mo, f5⟩ => ?_
      obtain ⟨h6, f6, rfl⟩ := f5.app (by rw [f4.len]; exact hi)
      have mo : odd ∈ odds ns'.length := by rw [nn]; exact mo
      have l6 := f6.len
      obtain ⟨x, rx⟩ := odd_rp (List.length_pos_iff.mpr n1') (by omega) mo
      walk_at "zw"
      refine (ok_one_of (n := n + 5) f6.dc.app (by simp) (by simp) (by omega) ?_).mono fun none' h7 ⟨mn', f7⟩ => ?_
      · simp only [clVs, clV, clO, clKs, nds_cl, Bool.and_true, Bool.true_and, decide_eq_true_eq]
        rw [hj, hg1]
        simp
        omega
      obtain ⟨h8, f8, rfl⟩ := f7.app (by rw [l6, f4.len]; exact hi)
      have l8 := f8.len
      have cn : cellB none' = true := by
        simp only [List.mem_cons, List.not_mem_nil, or_false] at mn'
        rcases mn' with rfl | rfl | rfl | rfl | rfl | rfl | rfl <;> rfl
      have f9 := (f4.trans f6).trans f8
      have l9' : ns'.length ≤ 9 := by omega
      obtain ⟨k, hk⟩ : ∃ k, k = (h8 ++ g1).length := ⟨_, rfl⟩
      obtain ⟨H, hH⟩ : ∃ H, H = h8 ++ g1 := ⟨_, rfl⟩
      have gH : H[j]? = some (docO ns') := by have := gj h8 [] (l8.trans l6); rwa [List.append_nil, ← hH] at this
      have gH2 : ∀ o : PObj, (H ++ [o])[j]? = some (docO ns') := fun o => by rw [List.getElem?_append_left (lt_of_get gH)]; exact gH
      rw [← hH]
      walk_at "zw"
      refine x_met met37 ?_
      walk_at "zw"
      refine okO_of (mth_doc gH rfl) ?_
      walk_at "zw"
      refine Okx.imp (ok_under_odd (n := n + 4) gH n1' l9' mo) (fun _ _ z => z.elim) fun c fs h' z => x153_met rx ?_ z
      walk_at "zw"
      refine ⟨rcv_lst get_new, ?_⟩
      walk_at "zw"
      refine x_met met37 ?_
      walk_at "zw"
      refine okO_of (mth_doc (gH2 _) rfl) ?_
      refine Okx.imp (ok_item_odd (n := n + 4) (gH2 _) n1' l9' mo) (fun _ _ z => z.elim) fun c fs h' z => x153_met rx ?_ z
      walk_at "zw"
      refine okP_app get_new (by simp) ?_
      rw [set_new]
      walk_at "zw"
      refine ⟨rcv_lst get_new, ?_⟩
      walk_at "zw"
      refine x_met met37 ?_
      walk_at "zw"
      refine okO_of (mth_doc (gH2 _) rfl) ?_
      walk_at "zw"
      refine Okx.imp (ok_child_odd (n := n + 4) (gH2 _) n1' l9' mo) (fun _ _ z => z.elim) fun c fs h' z => x153_met rx ?_ z
      walk_at "zw"
      refine okP_app get_new (by simp) ?_
      rw [set_new]
      walk_at "zw"
      refine okP_of (show bltF .reprc [odd] _ = some (.str x, _) by show (reprC _ odd).map _ = _; rw [rx.1]; rfl) ?_
      refine okP_of (show bopF .add [.str "number ", .str x] _ = some (.str ("number " ++ x), _) by show addF (.str "number ") (.str x) _ = _; simp only [addF]; rw [if_pos (line_of (Nat.le_trans rx.2.1 (by decide)))]) ?_
      obtain ⟨y, hy⟩ : ∃ y : Str, y = "number " ++ x := ⟨_, rfl⟩
      have sy : PyData.strOk y = true := by rw [hy]; exact rx.2.2
      rw [← hy]
      walk_at "zw"
      refine okP_of (mul3_ref get_new) ?_
      have g3 : (H ++ [PObj.lst [.str y, .str y, .str y]] ++ [PObj.lst [.str y]])[H.length]? = some (.lst [.str y, .str y, .str y]) := by
        rw [List.getElem?_append_left (by simp), get_new]
      refine okO_nsame (d := .list [.str y, .str y, .str y]) ?_ rfl ?_ ?_
      · show (match (H ++ [PObj.lst ([.str y] ++ [.str y] ++ [.str y])] ++ [PObj.lst [.str y]])[H.length]? with | some (.lst ds) => (mapO (toD _ 69) ds).map PyData.list | _ => none) = _
        rw [show [PV.str y] ++ [.str y] ++ [.str y] = [.str y, .str y, .str y] from rfl, g3]
        rfl
      · exact sh_lst (α := Str) (k := PyData.str) (l := [y, y, y]) (fun a ha => by
          simp only [List.mem_cons, List.not_mem_nil, or_false] at ha
          rcases ha with rfl | rfl | rfl <;> (simp only [PyData.canLay0]; exact sy)) (fun a _ => by simp [PyData.depth])
      walk_at "zw"
      refine x_met met37 ?_
      walk_at "zw"
      refine okO_of (mth_doc (by rw [List.getElem?_append_left (by have := lt_of_get gH; simp; omega)]; exact gH2 _) rfl) ?_
      walk_at "zw"
      obtain ⟨tl, htl⟩ : ∃ tl : PHeap, tl = [PObj.lst ([.str y] ++ [.str y] ++ [.str y]), PObj.lst [.str y]] := ⟨_, rfl⟩
      rw [show H ++ [PObj.lst ([.str y] ++ [.str y] ++ [.str y])] ++ [PObj.lst [.str y]] = H ++ tl by rw [htl]; simp, List.length_map, ← nn]
      have gH3 : (H ++ tl)[j]? = some (docO ns') := by rw [List.getElem?_append_left (lt_of_get gH)]; exact gH
      refine Okx.imp (ok_child_none (n := n + 4) gH3 n1' cn) (fun _ _ z => z.elim) fun c fs h' z => x39_met ?_ z
      walk_at "zw"
      rw [hH, List.append_assoc]
      exact sl_dr f9 rfl ⟨rfl, f9.up (by omega)⟩
    · rw [show docB (.tup (ns.map ndP)) = true from tree_isR tr hl (by omega)] at eb
      cases eb
end Law
end Zed
end
section
set_option Elab.async false
set_option linter.all false
set_option maxRecDepth 100000
set_option maxHeartbeats 4000000
namespace Zed
namespace Law
open PySem L2
theorem t_dice : TB 22 = some f_law_dice := rfl
theorem ok_dice {n : Nat} {h : PHeap} {ns : List Int} {a : Int} (a0 : 0 ≤ a) (a1 : a < 100) : Ok (cl (n + 1) 22 [.scr ns, .int a] h) fun v h' => v = .ref h.length ∧ Dc h' h.length 0 := by
  have key : ∀ (c : Int), OkS (exSs ⟨cl n, CT⟩ (.cons (.asg (.nm 3) (.bin .mod (.blt .int (.cons (.blt .abs (.cons (.loc 2) .nil)) .nil)) (.bin .pow (.bin .pow (.con (.int 10)) (.con (.int 60))) (.con (.int 10)))))
  (.cons (.asg (.nm 4) (.bin .fdiv (.loc 3) (.bin .pow (.con (.int 10)) (.con (.int 18)))))
  (.cons (.asg (.nm 5) (.bin .add (.bin .add (.bin .add (.bin .mul (.bin .mod (.loc 3) (.con (.int 2147483409))) (.con (.int 50053))) (.bin .mul (.con (.int 2801)) (.loc 1))) (.bin .mul (.con (.int 41)) (.blt .int (.cons (.cmp .lt (.loc 2) (.con (.int 0))) .nil)))) (.con (.int 67))))
  (.cons (.ret (.lst false (.cons (.loc 4) (.cons (.bin .mod (.loc 5) (.con (.int 2147483399))) (.cons (.con (.int 0)) .nil)))))
  .nil)))) [some (.scr ns), some (.int a), some (.int c), none, none, none] h) (fun _ h1 => (PV.non : PV) = .ref h.length ∧ Dc h1 h.length 0) fun v h' => v = .ref h.length ∧ Dc h' h.length 0 := by
    intro c
    walk_at "zy"
    have g0 : 0 ≤ (if c < 0 then -c else c) % (10 ^ Int.toNat 60) ^ Int.toNat 10 := Int.emod_nonneg _ (Int.ne_of_gt (Int.pow_pos (Int.pow_pos (by decide))))
    generalize (if c < 0 then -c else c) % (10 ^ Int.toNat 60) ^ Int.toNat 10 = G at g0 ⊢
    refine okP_mul (by omega) (by omega) ?_
    walk_at "zy"
    refine okP_mul (by omega) (by omega) ?_
    walk_at "zy"
    have b0 : ∀ k : Bool, -2 ^ 200 < (if k = true then (1 : Int) else 0) ∧ (if k = true then (1 : Int) else 0) < 2 ^ 200 := fun k => by cases k <;> decide
    refine okP_mul (by omega) (b0 _) ?_
    walk_at "zy"
    exact ⟨rfl, _, _, _, get_new, Int.ediv_nonneg g0 (Int.le_of_lt (Int.pow_pos (by decide))), by decide, by decide⟩
  refine (f_open t_dice rfl rfl).mpr ?_
  (unfold f_law_dice; dsimp only [List.map, List.append, HAppend.hAppend, Append.append, List.replicate, Nat.reduceSub])
  walk_at "zy"
  refine okP_mul (by omega) (by omega) ?_
  walk_at "zy"
  refine ⟨fun k => ?_, fun k => ?_⟩
  · have k := of_decide_eq_true k
    walk_at "zy"
    obtain ⟨d, d1, d2, d3⟩ := atI_mem a0 k
    refine okO_of (show getF (.scr ns) (.int a) h = some d from d1) ?_
    obtain ⟨c, _, rfl⟩ := List.mem_map.mp d2
    walk_at "z1"
    refine s_nil.mpr ?_
    exact key c
  · refine s_nil.mpr ?_
    exact key _

theorem t_law : TB 25 = some f_law := rfl
def rsA : List PV := (List.range 41).map fun i => ndP ("a", i + 1)
def rsB : List PV := ndP ("a", 1) :: List.replicate 40 (ndP ("a", 2))
def lawL : List PV := [.non, .int 0, .str "a", .tup [], .fl [], .fz (.dic []), .bl true, .tup [.str "a", .int 1], .tup [.tup [.str "a", .int 1], .tup [.str "a", .int 1]], .tup [.tup [.str "a", .int 2]], .fl [.tup [.str "a", .int 1]], .int (10 ^ Int.toNat 39)]
def lawM : List PV := [.tup rsA, .tup rsB, .tup [.tup [.tup [.str "a", .int 1]]]]
theorem lawV : ∀ v ∈ lawL ++ lawM, valD v = true ∧ docB v = false := by
  have k : ((lawL ++ lawM).all fun v => valD v && !docB v) = true := by decide +kernel
  intro v hv
  have := List.all_eq_true.mp k v hv
  simpa using this
theorem ok_law {n : Nat} {ns : List Int} (hns : ns.length ≤ 63) : Ok (cl (n + 10) 25 [.scr ns] []) fun v h' => v = .bl true := by
  have ED := fun (h : PHeap) (ns : List Int) (a : Int) x y => @ok_dice (n + 8) h ns a x y
  have ER := fun (i : Nat) (B : Int) (h : PHeap) a b c => @ok_right (n + 1) i B h a b c
  have EM := fun (k : Nat) (l : Loc) (h : PHeap) (v : PV) (Q : PV → PHeap → Prop) a b c => @ok_mkmet (n + 5) k l h v NoX Q a b c
  have EV := lawV
  simp only [Nat.add_assoc, Nat.reduceAdd] at ED ER EM
  refine (f_call t_law rfl rfl).mpr ?_
  generalize n + 9 = N at *
  (unfold f_law; dsimp only [List.map, List.append, HAppend.hAppend, Append.append, List.replicate, Nat.reduceSub])
  walk_at "zw"
  obtain ⟨J, hJ⟩ : ∃ J : Int, J = if (if ((ns.map PV.int).length : Int) < 12 then ((ns.map PV.int).length : Int) else 12) > 1 then (if ((ns.map PV.int).length : Int) < 12 then ((ns.map PV.int).length : Int) else 12) else 1 := ⟨_, rfl⟩
  have J0 : 0 ≤ J := by rw [hJ]; split <;> split <;> omega
  have J1 : J ≤ 12 := by rw [hJ]; split <;> split <;> omega
  refine ⟨J, by rw [hJ], J0, by omega, ?_⟩
  refine ok_for (ds := (List.range J.toNat).map fun (i : Nat) => PV.int (0 + i)) (fun t l h' => ∃ z1 z3 z4, l = [some (.scr ns), z1, none, z3, z4, none]) ?_ ?_ ?_ _ 0 _ _ (by simp [srcLen]) (Nat.zero_le _) ⟨_, _, _, rfl⟩
  · intro t l h' _; rfl
  · intro t dd l h' hd ⟨z1, z3, z4, el⟩
    subst el
    have ht : t < J.toNat := by
      have := (List.getElem?_eq_some_iff.mp hd).1
      simpa using this
    rw [List.getElem?_map, List.getElem?_range ht] at hd
    cases hd
    walk_at "zw"
    refine (ED _ ns (0 + t) (by omega) (by omega)).mono fun x h1 ⟨e1, dc⟩ => ?_
    subst e1
    walk_at "zw"
    refine ⟨4, rfl, by decide, by decide, ?_⟩
    refine ok_for (ds := (List.range 4).map fun (i : Nat) => PV.int (0 + i)) (fun u l h2 => (∃ z4, l = [some (.scr ns), some (.int (0 + t)), none, some (.ref h'.length), z4, none]) ∧ Dc h2 h'.length (2000 * u)) ?_ ?_ ?_ _ 0 _ _ (by simp [srcLen]) (Nat.zero_le _) ⟨⟨_, rfl⟩, dc.up (by omega)⟩
    · intro u l h2 _; rfl
    · intro u dd l h2 hd ⟨⟨z7, el⟩, dc⟩
      subst el
      have hu : u < 4 := by
        have := (List.getElem?_eq_some_iff.mp hd).1
        simpa using this
      walk_at "zw"
      refine (ER _ _ _ dc (by omega) (by omega)).mono fun x h3 ⟨e1, dr⟩ => ?_
      subst e1
      walk_at "zw"
      exact ⟨⟨_, rfl⟩, dr.dc.up (by omega)⟩
    · intro l h2 ⟨⟨z7, el⟩, _⟩
      subst el
      walk_at "zw"
      exact ⟨_, _, _, rfl⟩
  · intro l h' ⟨z1, z3, z4, el⟩
    subst el
    walk_at "zw"
    refine ⟨41, rfl, by decide, by decide, ?_⟩
    rw [show ([.non, .int 0, .str "a", .tup [], .fl [], .fz (.dic []), .bl true, .tup [.str "a", .int 1], .tup [.tup [.str "a", .int 1], .tup [.str "a", .int 1]], .tup [.tup [.str "a", .int 2]], .fl [.tup [.str "a", .int 1]], .int (10 ^ Int.toNat 39)] : List PV) = lawL from rfl]
    have L0 : lawL.length = 12 := rfl
    have LB : [ndP ("a", 1)] ++ (List.replicate 40 [ndP ("a", 2)]).flatten = rsB := rfl
    have z3' := ok_lcmap (X := NoX) (h := h') (tg := .nm 1) (tt := evT1 ⟨cl N, CT⟩ .no) (el := evE ⟨cl N, CT⟩ (.tup (.cons (.con (.str "a")) (.cons (.bin .add (.loc 1) (.con (.int 1))) .nil)))) (lw := [some (.scr ns), none, some (.fl lawL), z3, z4, none]) (qs := List.range 41) (S := fun (i : Nat) => .int (0 + i)) (F := fun i => ndP ("a", i + 1))
      (L := fun i => [some (.scr ns), some (.int (0 + i)), some (.fl lawL), z3, z4, none]) (by rw [List.length_range]; decide) rfl (fun w => rfl) tt_no (fun i hi => by
      walk_at "zw"
      refine ⟨?_, rfl⟩
      show PV.tup [.str "a", .int (0 + (i : Int) + 1)] = .tup [.str "a", .int ((i + 1 : Nat) : Int)]
      rw [show (0 + (i : Int) + 1) = ((i + 1 : Nat) : Int) by omega])
    refine Ok.mono z3' fun acc h2 ⟨e1, e2⟩ => ?_
    subst e1; subst e2
    rw [show (List.range 41).map (fun i => ndP ("a", i + 1)) = rsA from rfl]
    walk_at "zw"
    have LE : lawL ++ [PV.tup rsA, .tup ([PV.tup [.str "a", .int 1]] ++ (List.replicate (Int.toNat 40) [PV.tup [.str "a", .int 2]]).flatten), .tup [.tup [.tup [.str "a", .int 1]]]] = lawL ++ lawM := rfl
    rw [LE]
    have LN : (lawL ++ lawM).length = 15 := rfl
    clear LE LB L0
    generalize lawL ++ lawM = LL at *
    refine Ok.mono (ok_lc (X := NoX) (ds := LL) (fun j acc h3 => acc = [] ∧ ∃ g, h3 = h2 ++ g) (by omega) (fun _ _ _ _ => rfl) (fun j v acc h3 hv ⟨ea, g, eh⟩ => ?_) _ 0 [] _ rfl (Nat.zero_le _) (Nat.le_refl _) ⟨rfl, [], by simp⟩) fun acc h3 ⟨ea, g, eh⟩ => ?_
    · subst ea; subst eh
      obtain ⟨v1, v2⟩ := EV v (List.mem_of_getElem? hv)
      walk_at "zw"
      refine EM _ _ _ v _ v1 rfl fun g2 => ?_
      rw [v2, if_neg (by simp), List.append_assoc]
      walk_at "zw"
      refine ⟨fun _ => ⟨rfl, _, rfl⟩, fun z => ?_⟩
      cases z
    · subst ea; subst eh
      walk_at "zw"
      exact ⟨_, _, frz_cl rfl, rfl, rfl⟩
theorem pure_ok : ∀ ns : List Int, ns.length ≤ 63 → ∃ h', callN CT TB 40 25 [.scr ns] [] = .ok (.bl true) h' := by
  intro ns hns
  obtain ⟨v, h', e, rfl⟩ := (ok_law (n := 30) hns).get
  exact ⟨h', e⟩
end Law
end Zed
end
set_option Elab.async false
set_option linter.all false
set_option maxRecDepth 100000
set_option maxHeartbeats 0
namespace Zed
namespace Law
open PySem L2
end Law
end Zed
open PySem L2 Zed Zed.Law in
theorem PySem.Challenge.cw_depthmarks_k03_nodes_that_are_no_documen_holds : PySem.Challenge.rw_depthmarks_k03_nodes_that_are_no_documen.Holds := by
  w_on
  o_law
  refine HandSHeadRun.head_any (r := Zed.Law.R) (q := PySem.W.view Zed.Law.R.prog [39]) (H := hk) (ob := ob) (M := 12000) (loose := names) (d := HandSHeadRun.topDef PySem.Challenge.pw_depthmarks_k03_nodes_that_are_no_documen 39) (kwd := []) ob_eq (by kernel_rfl) (fun s => by kernel_rfl) Zed.Law.run (by kernel_rfl) (by kernel_rfl) (by kernel_rfl) (by rfl)
    (by first | assumption | decide +kernel) (by decide +kernel) ⟨rfl, rfl, rfl, rfl, rfl, by decide +kernel⟩ ?hw ?hc
  case hw => w_witness2
  case hc =>
    refine law_walk (k := 40) (f := 25) (x := "_law_script") (r := r_law) rfl rfl ⟨rfl, by decide, by decide⟩ rfl (by rfl) rfl rfl rows_ok crs_ok exb_ok mts_ok mths_ok binds_ok bindm_ok fo_ok pure_ok
