import PyProof.Rows.All
import Wide.All
import OpenK.AllK
import Wide.FinOn
import HandS.ForMost
import HandS.Wide
import HandS.WideBits
import PyProof.Rows.ListStrD
import HandS.Set
import HandS.SetFor
import HandS.OwnEq
import PyProof.TupleKey
import PyProof.DictMoreH
import HandS.TupLen
import HandS.SetKeys
import PySem.Challenge.RW_sealedslots_k28_whole_states_by_all_text
import HandS.Walk
import HandS.IsInst
import KE.GoesEnum
import KE.KDictWalk
import KE.KDictCopyH
import HandS.Finally
import HandS.DictComp
import HandS.MakeKwOnly
import HandS.Property
import PyProof.ReprRoads
import HandS.Ends
import HandS.FStr
import HandS.DeepEq
import OpenK.KOps
import PyProof.ReprBulk
import KE.KDictDisplayH
import HandS.Style
import HandS.Codes
import HandS.ExcValue
import KE.KEqNest
import PyProof.EqKinds
import HandS.CallLocal
import KE.GoesEnumKw
import PyProof.ZipIter
import HandS.SortKw
import HandS.Defaults
import HandS.GenList
import KE.GoesMore
import HandS.Conv
import HandS.ClsMeth
import HandS.More
set_option Elab.async false
set_option linter.all false
set_option maxRecDepth 100000
set_option maxHeartbeats 4000000
namespace SR
open PySem PySem.Spec PyProof.Rows L2
def lt (c : Nat) : Str := ⟨#[c]⟩
def ltV (c : Nat) : V := .str (lt c)
section
variable {X : Cx}
/-- list(text) -/
theorem call_list_txt (hc : X.calm = true) : CallR X (.type "list") (fun xs H Q => ∃ z : Str, xs = [.str z] ∧ z.length ≤ sizeLine ∧ ∀ l, H l = none → Q (.ref l) (upd H l (.lst (z.cps.toList.map ltV)))) := by
  intro pins s σ H xs us Q I r h
  obtain ⟨z, rfl, hz, q⟩ := h
  obtain ⟨u, rfl, rx⟩ := vals1 r
  obtain ⟨t, rfl⟩ := rx
  refine call_list_str (I.ok.hd hc) z t (hn := hz) fun h' tk acc' c' hk hS' hacc => ?_
  have hv : Vals (z.cps.toList.map ltV) acc'.toList := by
    have h1 : acc'.size = z.cps.size := by simpa using hacc.1
    have key : ∀ (l : List Nat) (ys : List Value), ys.length = l.length → (∀ (j : Nat) v, ys[j]? = some v → ∃ c, l[j]? = some c ∧ ∃ u, v = Value.str (lt c) u) → Vals (l.map ltV) ys := by
      intro l
      induction l with
      | nil =>
        intro ys hl _
        have : ys = [] := List.length_eq_zero_iff.mp hl
        subst this
        exact .nil
      | cons c l ih =>
        intro ys hl hy
        cases ys with
        | nil => simp at hl
        | cons y ys =>
          obtain ⟨c', e, u, hu⟩ := hy 0 y rfl
          have e' : c = c' := by simpa using e
          subst e'
          refine .cons ⟨u, hu⟩ (ih ys (by simpa using hl) fun j v hv => hy (j + 1) v (by simpa using hv))
    refine key _ _ (by simp [h1]) fun j v hv => ?_
    obtain ⟨c, u, hc', e⟩ := hacc.2 j v (by simpa using hv)
    exact ⟨c, by simpa using hc', u, e⟩
  refine ⟨.ref s.heap.objs.size, _, I.laid (t' := tk) hk (Nat.le_refl _) (show ObjOk X.prog X.w _ h' _ (.lst (z.cps.toList.map ltV)) from ⟨by simpa [Str.length] using hz, acc'.toList, c', hv, by simpa using hS'⟩), rfl, q _ (I.hok.fresh (Nat.le_refl _))⟩
end
end SR

set_option maxRecDepth 100000
set_option maxHeartbeats 4000000
namespace SR
open PySem PySem.Spec PyProof.Rows L2
/-! Sets of ints and texts whose table can be walked: made of a list, a tuple or a text; len, sorted. -/
def kOf (v : Value) : Key := match v with
  | .int i _ => .inl i
  | .str x _ => .inr x
  | _ => .inl 0
theorem kOf_of {k : Key} {v : Value} (h : keyIs k v = true) : kOf v = k := by
  rcases keyIs_shape h with ⟨i, t, rfl, rfl⟩ | ⟨x, t, rfl, rfl⟩ <;> rfl
def GoodM (w : World) (e : Int × Value) : Prop := keyIs (kOf e.2) e.2 = true ∧ e.1 = keyH w (kOf e.2)
structure MData (w : World) (es : Array (Int × Value)) (t : SetTable) (l : List Key) : Prop where
  good : ∀ e ∈ es.toList, GoodM w e
  keys : es.toList.map (fun e => kOf e.2) = l
  nd : l.Nodup
  few : es.size < scanBound
  fit : t.fits es.size = true
  ris : Ris t.place.toList
  led : w.params.followText "set-order" = true ∨ t.led = true
def SetM (w : World) (h : Heap) (a : Addr) (l : List Key) : Prop := ∃ o es ep t, h.get? a = some o ∧ o.ExactSet ∧ o.data = .set es ep t ∧ MData w es t l
theorem SetM.at {w : World} {h h' : Heap} {a : Addr} {l : List Key} (R : SetM w h a l) (k : ∀ o, h.get? a = some o → h'.get? a = some o) : SetM w h' a l := by
  obtain ⟨o, es, ep, t, e, r⟩ := R
  exact ⟨o, es, ep, t, k o e, r⟩
section
variable {P : Program} {w : World} {A : Around} {E : Value → Shared → Prop} {s : Shared}
theorem MData.elems {es : Array (Int × Value)} {t : SetTable} {l : List Key} (M : MData w es t l) : ElemsOf (mixKind P w) es.toList := fun e he => by
  obtain ⟨g1, g2⟩ := M.good e he
  refine ⟨⟨kOf e.2, g1, g2⟩, ?_⟩
  rcases keyIs_shape g1 with ⟨i, tk, _, q⟩ | ⟨x, tk, _, q⟩ <;> rw [q] <;> rfl
theorem MData.size {es : Array (Int × Value)} {t : SetTable} {l : List Key} (M : MData w es t l) : es.size = l.length := by
  rw [← M.keys, List.length_map, Array.length_toList]
/-- the tail of an add: the table stored, and laid anew where it is too full -/
theorem addTail {a : Addr} {l : List Key} {o : Obj} {es : Array (Int × Value)} {ep : Nat} {t : SetTable} (ho : s.heap.get? a = some o) (hex : o.ExactSet) (hd : o.data = .set es ep t)
    {es1 : Array (Int × Value)} {t2 : SetTable} (M : MData w es1 t2 l) {wasDummy : Bool} {g : Bool → Sem Unit} (hg : ∀ (b : Bool) (s₁ : Shared) (Q' : Unit → Shared → Prop), Q' () s₁ → wpAny (model P w) A (g b) Q' E s₁) {R : Option Bool → Shared → Prop}
    (hR : ∀ h' l', Heap.SameBut a s.heap h' → SetM w h' a l' → l'.Perm l → R (some true) { s with heap := h' }) :
    wpAny (model P w) A (do
        storeSet a es1 t2
        if (!wasDummy && t2.tooFull) = true then do
            g (relayAll t2 es1 (SetTable.grown es1.size)).2.2
            storeSet a (relayAll t2 es1 (SetTable.grown es1.size)).1 (relayAll t2 es1 (SetTable.grown es1.size)).2.1
            pure (some true)
          else pure (some true)) R E s := by
  have ho1 := store_at (es' := es1) (t' := t2) ho hd
  have sb1 := Heap.SameBut.update s.heap a (Obj.putSet es1 t2)
  refine wpAny_bind (wpAny_storeSet_of ho hd ?_ (fits_of_scanBound M.few))
  by_cases c : (!wasDummy && t2.tooFull) = true
  · rw [if_pos c]
    obtain ⟨es2, t3, gave, hZ⟩ : ∃ es2 t3 gave, relayAll t2 es1 (SetTable.grown es1.size) = (es2, t3, gave) := ⟨_, _, _, rfl⟩
    have pm := relayAll_perm t2 es1 (SetTable.grown es1.size)
    have f3 := relayAll_fits t2 es1 (SetTable.grown es1.size)
    have r3 := relayAll_ris t2 es1 (SetTable.grown es1.size)
    have l3 := relayAll_led t2 es1 (SetTable.grown es1.size)
    rw [hZ] at pm f3 r3 l3 ⊢
    have pm' : es2.toList.Perm es1.toList := pm
    have hsz : es2.size = es1.size := by simpa using pm'.length_eq
    have few2 : es2.size < scanBound := hsz ▸ M.few
    refine wpAny_bind (hg gave _ _ ?_)
    refine wpAny_bind (wpAny_storeSet_of ho1 rfl ?_ (fits_of_scanBound few2))
    have pk : (es2.toList.map (fun e => kOf e.2)).Perm l := (pm'.map _).trans (List.Perm.of_eq M.keys)
    refine wpAny_pure (hR _ _ (sb1.trans (Heap.SameBut.update _ a _)) ⟨_, es2, _, t3, store_at (es' := es2) (t' := t3) ho1 rfl, hex, rfl, ⟨fun e he => M.good e (pm'.mem_iff.mp he), rfl, pk.nodup_iff.mpr M.nd, few2, f3, r3, M.led.imp id fun z => l3.trans z⟩⟩ pk)
  · rw [if_neg c]
    exact wpAny_pure (hR _ l sb1 ⟨_, es1, _, t2, ho1, hex, rfl, M⟩ (List.Perm.refl _))
theorem add_key {a : Addr} {l : List Key} {k : Key} {v : Value} {Q : Bool → Shared → Prop} (R : SetM w s.heap a l) (room : l.length + 1 < scanBound) (hk : keyIs k v = true)
    (hQ : ∀ b h' l', Heap.SameBut a s.heap h' → SetM w h' a l' → (k ∈ l → l' = l) → (k ∉ l → l'.Perm (k :: l)) → Q b { s with heap := h' }) :
    wpAny (model P w) A (setAddHashed a v (keyH w k)) Q E s := by
  obtain ⟨o, es, ep, t, ho, hex, hd, M⟩ := R
  have hkey : (mixKind P w).is k v = true := hk
  have hsc : v.scannable = true := by rcases keyIs_shape hk with ⟨i, tk, _, q⟩ | ⟨x, tk, _, q⟩ <;> rw [q] <;> rfl
  have hel : ElemsOf (mixKind P w) es.toList := M.elems
  have hmem : k ∈ l ↔ ∃ e ∈ es.toList, (mixKind P w).is k e.2 = true := by
    rw [← M.keys, List.mem_map]
    constructor
    · rintro ⟨e, he, q⟩
      exact ⟨e, he, by rw [← q]; exact (M.good e he).1⟩
    · rintro ⟨e, he, q⟩
      exact ⟨e, he, kOf_of q⟩
  unfold setAddHashed setAddHashedIn
  refine wpAny_holding (wpAny_bind (wpAny_setState_of ho hd M.fit ?_))
  dsimp only
  rw [byScan_of hsc M.few hel, if_pos rfl]
  unfold setAddByScan
  refine wpAny_bind (wpAny_bind (wpAny_rule (wpAny_bind (wpAny_setScan_of hkey ho hd M.fit hel ?_))))
  cases hfi : List.findIdx? (fun e => (mixKind P w).is k e.2) es.toList with
  | some j =>
    obtain ⟨hj, pj, _⟩ := List.findIdx?_eq_some_iff_getElem.mp hfi
    have hin : k ∈ l := hmem.mpr ⟨_, List.getElem_mem hj, pj⟩
    exact wpAny_pure (wpAny_pure (hQ false s.heap l (Heap.SameBut.refl a s.heap) ⟨o, es, ep, t, ho, hex, hd, M⟩ (fun _ => rfl) fun z => absurd hin z))
  | none =>
    have hout : k ∉ l := fun z => by
      obtain ⟨e, he, q⟩ := hmem.mp z
      exact Bool.noConfusion ((List.findIdx?_eq_none_iff.mp hfi e he).symm.trans q)
    obtain ⟨es1, t1, wasDummy, gave, hZ⟩ : ∃ es1 t1 wd gv, layNew t es (keyH w k) v = (es1, t1, wd, gv) := ⟨_, _, _, _, rfl⟩
    have pm := layNew_perm t es (keyH w k) v
    have f1 := layNew_fits t es (keyH w k) v
    have r1 := layNew_ris t es (keyH w k) v M.ris
    have l1 := layNew_led t es (keyH w k) v
    dsimp only
    rw [hZ] at pm f1 r1 l1 ⊢
    have pm' : es1.toList.Perm (es.push (keyH w k, v)).toList := pm
    rw [Array.toList_push] at pm'
    have pc : es1.toList.Perm ((keyH w k, v) :: es.toList) := pm'.trans (List.perm_append_singleton _ _)
    have pk : (es1.toList.map (fun e => kOf e.2)).Perm (k :: l) := by
      refine (pc.map (fun e => kOf e.2)).trans (List.Perm.of_eq ?_)
      rw [List.map_cons, M.keys, kOf_of hk]
    have hsz : es1.size = l.length + 1 := by
      have q := pk.length_eq
      rwa [List.length_map, Array.length_toList, List.length_cons] at q
    have mk : ∀ t2 : SetTable, t2.fits es1.size = true → t2.place = t1.place → t2.led = t1.led → MData w es1 t2 (es1.toList.map (fun e => kOf e.2)) := fun t2 hf hp hl =>
      ⟨fun e he => by
        rcases List.mem_cons.mp (pc.mem_iff.mp he) with z | z
        · rw [z]; exact ⟨by show keyIs (kOf v) v = true; rw [kOf_of hk]; exact hk, by show keyH w k = keyH w (kOf v); rw [kOf_of hk]⟩
        · exact M.good e z, rfl, pk.nodup_iff.mpr (List.nodup_cons.mpr ⟨hout, M.nd⟩), hsz ▸ room, hf, by rw [hp]; exact r1, by rw [hl]; exact M.led.imp id fun z => l1.trans z⟩
    have hg : ∀ (b : Bool) (s₁ : Shared) (Q' : Unit → Shared → Prop), Q' () s₁ → wpAny (model P w) A (match b with | true => rule "set.scan.the-table-gave-way" | false => pure ()) Q' E s₁ := fun b s₁ Q' q => by
      cases b
      · exact wpAny_pure q
      · exact wpAny_rule q
    have fin : ∀ h' l', Heap.SameBut a s.heap h' → SetM w h' a l' → l'.Perm (es1.toList.map (fun e => kOf e.2)) → Q true { s with heap := h' } := fun h' l' sb r p =>
      hQ true h' l' sb r (fun z => absurd z hout) fun _ => p.trans pk
    refine wpAny_bind (hg gave _ _ ?_)
    by_cases pl : t1.plain = true
    · simp only [pl, if_true]
      refine wpAny_bind ?_
      rw [hashByValue_scannable 8 hsc]
      refine wpAny_pure ?_
      refine addTail ho hex hd (mk _ ?_ ?_ ?_) ?_ fun h' l' sb r p => wpAny_pure (fin h' l' sb r p)
      · first | (split <;> first | exact f1 | exact SetTable.fits_plain_off f1) | exact f1 | exact SetTable.fits_plain_off f1
      · first | rfl | (split <;> rfl)
      · first | rfl | (split <;> rfl)
      · intro b s₁ Q' q
        cases b
        · exact wpAny_pure q
        · exact wpAny_rule q
    · simp only [pl, if_false]
      refine wpAny_bind (wpAny_pure ?_)
      refine addTail ho hex hd (mk _ ?_ ?_ ?_) ?_ fun h' l' sb r p => wpAny_pure (fin h' l' sb r p)
      · first | (split <;> first | exact f1 | exact SetTable.fits_plain_off f1) | exact f1 | exact SetTable.fits_plain_off f1
      · first | rfl | (split <;> rfl)
      · first | rfl | (split <;> rfl)
      · intro b s₁ Q' q
        cases b
        · exact wpAny_pure q
        · exact wpAny_rule q

structure GotM (ks : List Key) (i : Nat) (l : List Key) : Prop where
  mem : ∀ k, k ∈ l ↔ k ∈ ks.take i
  len : l.length ≤ i
theorem GotM.next {ks l l' : List Key} {i : Nat} {k : Key} (g : GotM ks i l) (hk : ks[i]? = some k) (h1 : k ∈ l → l' = l) (h2 : k ∉ l → l'.Perm (k :: l)) : GotM ks (i + 1) l' := by
  have e : ks.take (i + 1) = ks.take i ++ [k] := by rw [List.take_add_one, hk]; rfl
  by_cases c : k ∈ l
  · rw [h1 c]
    refine ⟨fun x => ?_, Nat.le_succ_of_le g.len⟩
    rw [e, List.mem_append, List.mem_singleton, ← g.mem x]
    exact ⟨.inl, fun z => z.elim id fun z => z ▸ c⟩
  · have p := h2 c
    refine ⟨fun x => ?_, ?_⟩
    · rw [p.mem_iff, List.mem_cons, e, List.mem_append, List.mem_singleton, g.mem x]
      exact Or.comm
    · rw [p.length_eq]
      exact Nat.succ_le_succ g.len
theorem upd_loop {I : Addr} {fp wr : List Addr} {G : Array GenState → Array GenState → Prop} {n : Nat} {Pv : Nat → Value → Prop} {St : Nat → Shared → Prop} {R : Result → Shared → Prop}
    (W : WalksS P w A.in1 I fp wr G n Pv St) (S : Addr) (hSf : S ∉ fp) (ks : List Key) (hn : n = ks.length) (hb : ks.length + 1 < scanBound) (hval : ∀ i v, Pv i v → ∃ k, ks[i]? = some k ∧ keyIs k v = true) :
    ∀ (d i : Nat) (s : Shared), n - i = d → i ≤ n → St i s → (∃ l, SetM w s.heap S l ∧ GotM ks i l) →
      (∀ s' l, Moved (S :: wr) G s s' → SetM w s'.heap S l → GotM ks n l → R (.ok (.ret .none)) s') → codeAny (model P w) A (.builtin "set.update.loop" ⟨[.ref S, .ref I], []⟩) R s := by
  have nw : S ∉ wr := fun h => hSf (W.sub _ h)
  have sub : ∀ b ∈ wr, b ∈ S :: wr := fun b hb => List.mem_cons_of_mem _ hb
  have start : ∀ (s : Shared), wpAny (model P w) A.in1 (do
      let some v ← pyNext (.ref I) | ret .none
      let _ ← holding [v] (setAdd S v)
      again (.builtin "set.update.loop" ⟨[.ref S, .ref I], []⟩)) (fun fin s' => match fin with | .done f => R (.ok f) s' | .again c' => c'.quiet = true ∧ codeAny (model P w) A c' R s') (fun e s' => R (.error e) s') s → codeAny (model P w) A (.builtin "set.update.loop" ⟨[.ref S, .ref I], []⟩) R s := fun s h => by
    refine codeAny_builtin F.entry_set_update_loop ?_
    rw [Around.under_plainId F.plain_set_update_loop _]
    exact h
  intro d
  induction d with
  | zero =>
    intro i s hd hi hst ⟨l, hS, g⟩ hR
    obtain rfl : i = n := by omega
    refine start s (wpAny_bind (W.done s _ _ hst fun s' hm => ?_))
    exact wpAny_pure (hR s' l (hm.mono sub) (hS.at fun o e => hm.heap S o nw e) g)
  | succ d ih =>
    intro i s hd hi hst ⟨l, hS, g⟩ hR
    have hlt : i < n := by omega
    refine start s (wpAny_bind (W.item i s _ _ hlt hst fun v s' hP hst' hm => ?_))
    obtain ⟨k, hk, hkv⟩ := hval i v hP
    have hS' : SetM w s'.heap S l := hS.at fun o e => hm.heap S o nw e
    refine wpAny_bind (wpAny_holding ?_)
    unfold setAdd
    refine wpAny_holding (wpAny_bind ((mixKind P w).pyHash (k := k) hkv ?_))
    refine add_key (s := { s' with toks := s'.toks + 1 }) hS' (by have := g.len; omega) hkv fun b h' l' sb hS2 c1 c2 => ?_
    refine wpAny_pure ⟨plainId_quiet F.plain_set_update_loop _, ih (i + 1) _ (by omega) hlt (W.frame _ s' _ _ hst' (Nat.le_succ _) fun b hb o e => ?_) ⟨l', hS2, g.next hk c1 c2⟩ fun s'' l2 hm'' hS'' g'' => ?_⟩
    · exact (sb.2 b fun h => hSf (h ▸ hb)).trans e
    · refine hR s'' l2 (Moved.trans W.gtrans ((hm.mono sub).then_heap (Nat.le_succ _) fun b o hb e => ?_) hm'') hS'' g''
      exact (sb.2 b fun h => hb (h ▸ List.mem_cons_self)).trans e
end
end SR

set_option maxRecDepth 100000
set_option maxHeartbeats 4000000
namespace SR
open PySem PySem.Spec PyProof.Rows L2
abbrev newSet (w : World) : Obj := { cls := .type "set", dict := none, data := .set #[] 0 (.fresh 0 0 (!w.params.followText "set-order")) }
section
variable {P : Program} {w : World} {A : Around} {E : Value → Shared → Prop} {s : Shared}
/-- what is wanted behind set.__init__ -/
abbrev InitEnd (P : Program) (w : World) (A : Around) (E : Value → Shared → Prop) (q : Shared → Prop) (fin : Fin) (s' : Shared) : Prop := match fin with
  | .done f => wants (fun r s₂ => r = Value.none ∧ q s₂) E (.ok f) s'
  | .again c' => c'.quiet = true ∧ codeAny (model P w) A c' (wants (fun r s₂ => r = Value.none ∧ q s₂) E) s'
theorem set_shell (a : Value) {Q : Value → Shared → Prop}
    (h : wpAny (model P w) A.in1.in1 (Builtin.«set.__init__» ⟨[.ref s.heap.objs.size, a], []⟩) (InitEnd P w A.in1 E (Q (.ref s.heap.objs.size))) (fun e s' => wants (fun r s₂ => r = Value.none ∧ Q (.ref s.heap.objs.size) s₂) E (.error e) s') { s with heap := s.heap.push (newSet w) }) :
    wpAny (model P w) A (call (.type "set") [a]) Q E s := by
  obtain ⟨c, tl, hmro⟩ := F.called_set.mro
  have hmade := F.called_set.made
  have hsub := F.called_set.sub
  refine wpAny_call (codeAny_of_tree ?_)
  show wpAny _ _ (callAny (.type "set") _) _ _ _
  refine wpAny_pure ⟨Code.quiet_builtin _ (by decide +kernel), codeAny_builtin F.entry_type_call ?_⟩
  rw [Around.under_plain (weight_type_call_type "set" [a] []) rfl]
  have h1 := F.called_set.notType
  have h2 := F.called_set.canCreate
  have hct := F.typeCall_set_1 a
  repeat (any_goals (first | assumption | wp_step))
  refine codeAny_mono (code_set_led1 a (E := E) (Q₁ := fun obj s₁ => obj = .ref s.heap.objs.size ∧ s₁ = { s with heap := s.heap.push (newSet w) }) ⟨rfl, rfl⟩) fun r s₁ hr => ?_
  cases r with
  | error e => exact hr
  | ok fl =>
    cases fl with
    | ret obj =>
      obtain ⟨rfl, rfl⟩ := hr
      have hS : (s.heap.push (newSet w)).get? s.heap.objs.size = some (newSet w) := Heap.get?_push_size _ rfl
      have hT : Shared.TypeIs { s with heap := s.heap.push (newSet w) } (.ref s.heap.objs.size) "set" := ⟨_, hS, rfl⟩
      have hli := F.called_set.init.lookup
      have hbi := F.called_set.init.bind (.ref s.heap.objs.size)
      repeat (any_goals (first | assumption | wp_step))
      refine codeAny_mono (codeAny_call_builtin (R := wants (fun r s₂ => r = .none ∧ Q (.ref s.heap.objs.size) s₂) E) F.called_set.init.plain F.entry_set_init (check_set_init_1 hT h)) fun r₂ s₂ hr₂ => ?_
      cases r₂ with
      | error e => exact hr₂
      | ok f2 =>
        cases f2 with
        | ret r =>
          obtain ⟨rfl, hq⟩ := hr₂
          repeat (any_goals (first | assumption | wp_step))
        | _ => exact hr₂.elim
    | _ => exact hr.elim
theorem newSetM {h : Heap} {a : Addr} (ho : h.get? a = some (newSet w)) : SetM w h a [] :=
  ⟨_, _, _, _, ho, ⟨rfl, rfl, rfl⟩, rfl, ⟨fun e he => (by cases he), rfl, List.nodup_nil, (by unfold scanBound; decide), rfl, List.Pairwise.nil, by
    cases w.params.followText "set-order"
    · exact .inr rfl
    · exact .inl rfl⟩⟩
/-- the walk into the new set, and what stands behind it -/
theorem set_walk {I : Addr} {fp : List Addr} {Pv : Nat → Value → Prop} {St : Nat → Shared → Prop} {G : Array GenState → Array GenState → Prop} {n : Nat} {h1 : Heap} {Q : Value → Shared → Prop} (ks : List Key) (hI : s.heap.objs.size < I) (hSf : s.heap.objs.size ∉ fp)
    (W : WalksS P w A.in1.in1.in1 I fp [I] G n Pv St) (hn : n = ks.length) (hb : ks.length + 1 < scanBound) (hval : ∀ i v, Pv i v → ∃ k, ks[i]? = some k ∧ keyIs k v = true) (hG : ∀ g g', G g g' → g' = g)
    (hk : ∀ b o, (s.heap.push (newSet w)).get? b = some o → h1.get? b = some o) (hst : St 0 { s with heap := h1 })
    (hQ : ∀ (h' : Heap) (tk : Nat) (l : List Key), SetM w h' s.heap.objs.size l → (∀ k, k ∈ l ↔ k ∈ ks) → l.length ≤ ks.length → (∀ b o, s.heap.get? b = some o → h'.get? b = some o) → Q (.ref s.heap.objs.size) { s with heap := h', toks := tk }) :
    codeAny (model P w) A.in1.in1 (.builtin "set.update.loop" ⟨[.ref s.heap.objs.size, .ref I], []⟩) (fun r s' => match r with | .ok (.ret v) => v = Value.none ∧ Q (.ref s.heap.objs.size) s' | .ok _ => False | .error _ => False) { s with heap := h1 } := by
  refine upd_loop W s.heap.objs.size hSf ks hn hb hval n 0 _ rfl (Nat.zero_le _) hst ⟨[], newSetM (hk _ _ (Heap.get?_push_size _ rfl)), ⟨fun k => by simp, Nat.le_refl _⟩⟩ fun s' l hm hS g => ⟨rfl, ?_⟩
  obtain ⟨h', g2, d', tk', os'⟩ := s'
  have eg : g2 = s.gens := hG _ _ hm.gens
  have ed : d' = s.drawn := hm.drawn
  have eo : os' = s.os := hm.os
  subst eg ed eo
  refine hQ h' tk' l hS (fun k => by rw [g.mem k, hn, List.take_length]) (by rw [← hn]; exact g.len) fun b o e => hm.heap b o ?_ (hk b o (Heap.get?_push_of_some _ e))
  have := Heap.lt_size e
  simp only [List.mem_cons, List.not_mem_nil, or_false, not_or]
  exact ⟨Nat.ne_of_lt this, Nat.ne_of_lt (Nat.lt_trans this hI)⟩

theorem keys_at : ∀ {ks : List Key} {us : List Value}, Vals (ks.map kV) us → ∀ (i : Nat) (v : Value), us[i]? = some v → ∃ k, ks[i]? = some k ∧ keyIs k v = true
  | [], _, .nil, i, v, h => by simp at h
  | k :: ks, _, .cons r t, 0, v, h => by
    have e : _ = v := Option.some.inj h
    subst e
    refine ⟨k, rfl, ?_⟩
    cases k with
    | inl i => obtain ⟨tk, rfl⟩ := r; exact keyIs_int i tk
    | inr x => obtain ⟨tk, rfl⟩ := r; exact keyIs_str x tk
  | k :: ks, _, .cons r t, i + 1, v, h => by
    obtain ⟨k', e, q⟩ := keys_at t i v (by simpa using h)
    exact ⟨k', by simpa using e, q⟩

theorem call_set_L {l : Addr} {items : Array Value} (ks : List Key) {Q : Value → Shared → Prop} (hh : A.handled = none) (hl : s.heap.IsList l items) (hit : Vals (ks.map kV) items.toList) (hb : ks.length + 1 < scanBound)
    (hQ : ∀ (h' : Heap) (tk : Nat) (l : List Key), SetM w h' s.heap.objs.size l → (∀ k, k ∈ l ↔ k ∈ ks) → l.length ≤ ks.length → (∀ b o, s.heap.get? b = some o → h'.get? b = some o) → Q (.ref s.heap.objs.size) { s with heap := h', toks := tk }) :
    wpAny (model P w) A (call (.type "set") [.ref l]) Q E s := by
  refine set_shell _ ?_
  obtain ⟨ol, hol, hcl, nl, hdl⟩ := hl
  obtain ⟨ocls, odict, odata, oslots⟩ := ol
  simp only at hcl hdl
  subst hcl; subst hdl
  have hol' : (s.heap.push (newSet w)).get? l = some { cls := .type "list", dict := odict, data := .seq items nl, slots := oslots } := Heap.get?_push_of_some _ hol
  have hl1 : (s.heap.push (newSet w)).IsList l items := ⟨_, hol', rfl, nl, rfl⟩
  have f1 := F.sub_list_set
  have f2 := F.sub_list_frozenset
  have f3 : (Value.type "list" == Value.type "dict") = false := by decide
  unfold Builtin.«set.__init__» noKeywords Builtin.Frozenset.updateFrom
  generalize hPI : pyIter = PI
  wp_walk
  subst hPI
  refine wpAny_pyIter_list hl1 ?_
  refine wpAny_bind (wpAny_runValue ?_)
  have hlS : l < s.heap.objs.size := Heap.lt_size hol
  have hz1 : (s.heap.push (newSet w)).objs.size = s.heap.objs.size + 1 := Heap.size_push ..
  have hneI : l ≠ (s.heap.push (newSet w)).objs.size := by rw [hz1]; exact Nat.ne_of_lt (Nat.lt_succ_of_lt hlS)
  refine codeAny_mono (set_walk (s := s) ks (by rw [hz1]; exact Nat.lt_succ_self _) ?_ ((Walks.list (by simp [hh]) _ l hneI items).toS) (by simpa using hit.length.symm) hb ?_ ?_ (fun b o e => Heap.get?_push_of_some _ e) ⟨⟨_, Heap.get?_push_size _ rfl, rfl, rfl⟩, (hl1.push _)⟩ hQ) fun r s' hr => ?_
  · rw [hz1]
    simp only [List.mem_cons, List.not_mem_nil, or_false, not_or]
    exact ⟨Nat.ne_of_lt (Nat.lt_succ_self _), Nat.ne_of_gt hlS⟩
  · intro i v hv
    exact keys_at hit i v (by simpa using hv)
  · first | exact fun _ _ e => e | exact fun _ _ e => e.symm
  · cases r with
    | error e => exact hr.elim
    | ok fl =>
      cases fl with
      | ret v =>
        obtain ⟨rfl, hq⟩ := hr
        refine wpAny_pure ?_
        exact wpAny_pure ⟨rfl, hq⟩
      | _ => exact hr.elim

theorem call_set_T {l : Addr} {items : Array Value} (ks : List Key) {Q : Value → Shared → Prop} (hh : A.handled = none) (hl : s.heap.IsTuple l items) (hit : Vals (ks.map kV) items.toList) (hb : ks.length + 1 < scanBound)
    (hQ : ∀ (h' : Heap) (tk : Nat) (l : List Key), SetM w h' s.heap.objs.size l → (∀ k, k ∈ l ↔ k ∈ ks) → l.length ≤ ks.length → (∀ b o, s.heap.get? b = some o → h'.get? b = some o) → Q (.ref s.heap.objs.size) { s with heap := h', toks := tk }) :
    wpAny (model P w) A (call (.type "set") [.ref l]) Q E s := by
  refine set_shell _ ?_
  obtain ⟨ol, hol, hcl, nl, hdl⟩ := hl
  obtain ⟨ocls, odict, odata, oslots⟩ := ol
  simp only at hcl hdl
  subst hcl; subst hdl
  have hol' : (s.heap.push (newSet w)).get? l = some { cls := .type "tuple", dict := odict, data := .seq items nl, slots := oslots } := Heap.get?_push_of_some _ hol
  have hl1 : (s.heap.push (newSet w)).IsTuple l items := ⟨_, hol', rfl, nl, rfl⟩
  have f1 := F.sub_tuple_set
  have f2 := F.sub_tuple_frozenset
  have f3 : (Value.type "tuple" == Value.type "dict") = false := by decide
  unfold Builtin.«set.__init__» noKeywords Builtin.Frozenset.updateFrom
  generalize hPI : pyIter = PI
  wp_walk
  subst hPI
  refine wpAny_pyIter_tuple hl1 ?_
  refine wpAny_bind (wpAny_runValue ?_)
  have hlS : l < s.heap.objs.size := Heap.lt_size hol
  have hz1 : (s.heap.push (newSet w)).objs.size = s.heap.objs.size + 1 := Heap.size_push ..
  have hneI : l ≠ (s.heap.push (newSet w)).objs.size := by rw [hz1]; exact Nat.ne_of_lt (Nat.lt_succ_of_lt hlS)
  refine codeAny_mono (set_walk (s := s) ks (by rw [hz1]; exact Nat.lt_succ_self _) ?_ ((Walks.tuple (by simp [hh]) _ l hneI items).toS) (by simpa using hit.length.symm) hb ?_ ?_ (fun b o e => Heap.get?_push_of_some _ e) ⟨⟨_, Heap.get?_push_size _ rfl, rfl, rfl⟩, (hl1.push _)⟩ hQ) fun r s' hr => ?_
  · rw [hz1]
    simp only [List.mem_cons, List.not_mem_nil, or_false, not_or]
    exact ⟨Nat.ne_of_lt (Nat.lt_succ_self _), Nat.ne_of_gt hlS⟩
  · intro i v hv
    exact keys_at hit i v (by simpa using hv)
  · first | exact fun _ _ e => e | exact fun _ _ e => e.symm
  · cases r with
    | error e => exact hr.elim
    | ok fl =>
      cases fl with
      | ret v =>
        obtain ⟨rfl, hq⟩ := hr
        refine wpAny_pure ?_
        exact wpAny_pure ⟨rfl, hq⟩
      | _ => exact hr.elim
end
end SR

set_option maxRecDepth 100000
set_option maxHeartbeats 4000000
namespace SR
open PySem PySem.Spec PyProof.Rows L2
section
variable {P : Program} {w : World} {A : Around} {E : Value → Shared → Prop} {s : Shared}
theorem call_set_S {x : Str} {t : Tok} {Q : Value → Shared → Prop} (hh : A.handled = none) (hb : x.cps.size + 1 < scanBound)
    (hQ : ∀ (h' : Heap) (tk : Nat) (l : List Key), SetM w h' s.heap.objs.size l → (∀ k, k ∈ l ↔ k ∈ x.cps.toList.map fun c => (Sum.inr (SR.lt c) : Key)) → l.length ≤ (x.cps.toList.map fun c => (Sum.inr (SR.lt c) : Key)).length → (∀ b o, s.heap.get? b = some o → h'.get? b = some o) → Q (.ref s.heap.objs.size) { s with heap := h', toks := tk }) :
    wpAny (model P w) A (call (.type "set") [.str x t]) Q E s := by
  refine set_shell _ ?_
  have f1 := F.sub_str_set
  have f2 := F.sub_str_frozenset
  have f3 : (Value.type "str" == Value.type "dict") = false := by decide
  unfold Builtin.«set.__init__» noKeywords Builtin.Frozenset.updateFrom
  generalize hPI : pyIter = PI
  wp_walk
  subst hPI
  refine wpAny_pyIter_str fun o St W hst => ?_
  refine wpAny_bind (wpAny_runValue ?_)
  have hz1 : (s.heap.push (newSet w)).objs.size = s.heap.objs.size + 1 := Heap.size_push ..
  refine codeAny_mono (set_walk (s := s) (x.cps.toList.map fun c => (Sum.inr (SR.lt c) : Key)) (by rw [hz1]; exact Nat.lt_succ_self _) ?_ ((W _ (by simp [hh])).toS) (by simp) (by simpa using hb) ?_ ?_ (fun b o e => Heap.get?_push_of_some _ e) hst hQ) fun r s' hr => ?_
  · rw [hz1]
    simp only [List.mem_cons, List.not_mem_nil, or_false]
    exact Nat.ne_of_lt (Nat.lt_succ_self _)
  · rintro i v ⟨c, u, hc, rfl⟩
    refine ⟨.inr (SR.lt c), ?_, keyIs_str _ _⟩
    rw [List.getElem?_map, Array.getElem?_toList, hc]
    rfl
  · first | exact fun _ _ e => e | exact fun _ _ e => e.symm
  · cases r with
    | error e => exact hr.elim
    | ok fl =>
      cases fl with
      | ret v =>
        obtain ⟨rfl, hq⟩ := hr
        refine wpAny_pure ?_
        exact wpAny_pure ⟨rfl, hq⟩
      | _ => exact hr.elim
/-! ### over the layer -/
def SetMO (w : World) (a : Addr) (l : List Key) : HO := .ext fun h => SetM w h a l
theorem setMO_new {H : Hp} {h : Heap} {a : Addr} {l : List Key} (R : SetM w h a l) : ObjOk P w H h a (SetMO w a l) := by
  obtain ⟨o, es, ep, t, e, r⟩ := id R
  exact ⟨R, ⟨o, e⟩, fun h1 h2 q k => SetM.at q k⟩
end
section
variable {X : Cx}
/-- set(xs): a list or a tuple of ints and texts, or a text -/
def rSetK (K : PySem.W.Frag) (w : World) : List V → Hp → VK → Prop := fun xs H Q => ∃ ks : List Key, ((∃ a, xs = [.ref a] ∧ (SqL K H a (ks.map kV) ∨ SqT K H a (ks.map kV))) ∨ (∃ z : Str, xs = [.str z] ∧ ks = z.cps.toList.map fun c => (Sum.inr (SR.lt c) : Key))) ∧ ks.length < 1000 ∧
  ∀ p l, H p = none → l.Nodup → (∀ k, k ∈ l ↔ k ∈ ks) → l.length ≤ ks.length → Q (.ref p) (upd H p (SetMO w p l))
theorem SetM.nd {w : World} {h : Heap} {a : Addr} {l : List Key} (R : SetM w h a l) : l.Nodup := by
  obtain ⟨o, es, ep, t, e, _, _, M⟩ := R
  exact M.nd
theorem cr_setK (hc : X.calm = true) : CallR X (.type "set") (rSetK X.K X.w) := by
  intro pins s σ H xs us Q I r h
  obtain ⟨ks, h, hb, q⟩ := h
  have hb' : ks.length + 1 < scanBound := by unfold scanBound; omega
  have fin : ∀ (h' : Heap) (tk : Nat) (l : List Key), SetM X.w h' s.heap.objs.size l → (∀ k, k ∈ l ↔ k ∈ ks) → l.length ≤ ks.length → (∀ b o, s.heap.get? b = some o → h'.get? b = some o) → EP X pins σ Q (.ref s.heap.objs.size) { s with heap := h', toks := tk } := fun h' tk l S m ln k =>
    ⟨.ref s.heap.objs.size, _, I.laid (t' := tk) k (Nat.le_refl _) (setMO_new S), rfl, q _ l (I.hok.fresh (Nat.le_refl _)) S.nd m ln⟩
  rcases h with ⟨a, rfl, hq⟩ | ⟨z, rfl, rfl⟩
  · obtain ⟨u, rfl, rx⟩ := vals1 r
    cases rx
    rcases hq with hq | hq
    · obtain ⟨its, rv, pl, hz⟩ := I.list hq
      exact call_set_L ks (I.ok.hd hc) pl.isList (by simpa using rv) hb' fin
    · obtain ⟨its, rv, pl, hz⟩ := I.tuple hq
      exact call_set_T ks (I.ok.hd hc) pl (by simpa using rv) hb' fin
  · obtain ⟨u, rfl, rx⟩ := vals1 r
    obtain ⟨t, rfl⟩ := rx
    exact call_set_S (I.ok.hd hc) (by simpa using hb') fin
theorem setM_get {pins : List (Addr × Obj)} {σ : L2.St} {H : Hp} {s : Shared} {a : Addr} {l : List Key} (I : Inv X pins σ H s) (ha : H a = some (SetMO X.w a l)) : SetM X.w s.heap a l := (I.hok a _ ha).1
/-- len(set) -/
theorem cr_lenK : CallR X (.builtin "len") (fun xs H Q => ∃ a l, xs = [.ref a] ∧ H a = some (SetMO X.w a l) ∧ Q (.int (l.length : Nat)) H) := by
  intro pins s σ H xs us Q I r h
  obtain ⟨a, l, rfl, ha, q⟩ := h
  obtain ⟨u, rfl, rx⟩ := vals1 r
  cases rx
  obtain ⟨o, es, ep, t, ho, hex, hd, M⟩ := setM_get I ha
  have e := M.size
  exact call_len_set ho hex hd M.fit (by have := M.few; unfold scanBound at this; omega) ⟨.int (l.length : Nat), H, I.tok _, ⟨_, by rw [← e]⟩, q⟩
end
end SR

set_option maxRecDepth 100000
set_option maxHeartbeats 4000000
namespace SR
open PySem PySem.Spec PyProof.Rows L2
section
variable {P : Program} {w : World} {A : Around} {E : Value → Shared → Prop} {s : Shared}
/-- sorted(set): the members laid into a new list, the list sorted as sortIt says -/
theorem sorted_shell {a : Addr} {l : List Key} {Q : Value → Shared → Prop} (R : SetM w s.heap a l) (hh : A.handled = none) (hfew : l.length < 64)
    (srt : ∀ (vs : List Value) (s1 : Shared) (L : Addr) (Z : Fin → Shared → Prop), s1.heap.get? L = some (seqObj "list" vs.toArray 0) → vs.length < 64 → (vs.map kOf).Perm l → (∀ v ∈ vs, keyIs (kOf v) v = true) →
      (∀ out : Array Value, (∀ (s' : Shared) (p : Addr) (c : Nat), (∀ b o, s.heap.get? b = some o → s'.heap.get? b = some o) → s'.gens = s.gens → s'.os = s.os → s.heap.objs.size ≤ p → s'.heap.get? p = some (seqObj "list" out c) → Q (.ref p) s') → Z (.done (.ret .none)) { s1 with heap := sortedHeap s1.heap L vs out }) →
      wpAny (model P w) A.in1.in1 (Builtin.«list.sort» ⟨[.ref L], []⟩) Z (fun e s' => wants Q E (.error e) s') s1) :
    wpAny (model P w) A (call (.builtin "sorted") [.ref a]) Q E s := by
  obtain ⟨o, es, ep, t, ho, hex, hd, M⟩ := R
  refine Calls.call_function_entry kind_sorted plain_sorted entry_sorted (args_sorted1 _) ?_
  unfold Builtin.«sorted»
  refine wpAny_bind (m := checkCount "sorted" 1 1 _) (wpAny_pure ?_)
  refine wpAny_bind (collect_set (A := A.in1) hh ⟨o, ho, hex.1, hd⟩ M.fit M.few M.ris M.led fun s1 vs k1 hz g1 o1 pm => ?_)
  have pk : (vs.map kOf).Perm l := by
    have q := pm.map kOf
    rw [List.map_map] at q
    exact q.trans (List.Perm.of_eq M.keys)
  have hvl : vs.length < 64 := by
    have q := pk.length_eq
    rw [List.length_map] at q
    omega
  have hv : ∀ v ∈ vs, keyIs (kOf v) v = true := fun v h => by
    obtain ⟨e, he, q⟩ := List.mem_map.mp (pm.mem_iff.mp h)
    rw [← q]
    exact (M.good e he).1
  refine wpAny_bind (wpAny_newList ?_ (by rw [sizeLine_eq]; omega))
  have hoL : (s1.heap.push (seqObj "list" vs.toArray 0)).get? s1.heap.objs.size = some (seqObj "list" vs.toArray 0) := Heap.get?_push_size _ rfl
  refine wpAny_bind (wpAny_holding (wpAny_call_entry slot_list_sort ⟨_, hoL, rfl⟩ entry_list_sort ?_ (args_list_sort _)))
  refine srt vs _ _ _ hoL hvl pk hv fun out hq => ⟨_, rfl, ?_⟩
  obtain ⟨c, hc⟩ := sortedHeap_at (vs := vs) (out := out) hoL
  refine wpAny_pure ⟨_, rfl, hq _ s1.heap.objs.size c (fun b u e => ?_) g1 o1 hz hc⟩
  have q := k1 b u e
  have hlt := Heap.lt_size q
  show (sortedHeap (s1.heap.push (seqObj "list" vs.toArray 0)) s1.heap.objs.size vs out).get? b = some u
  rw [sortedHeap_old (Nat.ne_of_lt hlt) (by rw [size_push']; exact Nat.lt_succ_of_lt hlt)]
  exact Heap.get?_push_of_some _ q
theorem strs_of : ∀ (vs : List Value) (ss : List Str), (vs.map kOf) = ss.map Sum.inr → (∀ v ∈ vs, keyIs (kOf v) v = true) → StrsAre vs ss
  | [], [], _, _ => .nil
  | v :: vs, x :: ss, h, g => by
    injection h with h1 h2
    have k := g v List.mem_cons_self
    rw [h1] at k
    rcases keyIs_shape k with ⟨i, t, q, _⟩ | ⟨y, t, q, e⟩
    · cases q
    · injection q with q
      subst q
      rw [e]
      exact .cons x t (strs_of vs ss h2 fun u hu => g u (List.mem_cons_of_mem _ hu))
  | [], _ :: _, h, _ => by simp at h
  | _ :: _, [], h, _ => by simp at h
theorem ints_ofK : ∀ (vs : List Value) (ns : List Int), (vs.map kOf) = ns.map Sum.inl → (∀ v ∈ vs, keyIs (kOf v) v = true) → IntsAre vs ns
  | [], [], _, _ => .nil
  | v :: vs, x :: ns, h, g => by
    injection h with h1 h2
    have k := g v List.mem_cons_self
    rw [h1] at k
    rcases keyIs_shape k with ⟨i, t, q, e⟩ | ⟨y, t, q, e⟩
    · injection q with q
      subst q
      rw [e]
      exact .cons x t (ints_ofK vs ns h2 fun u hu => g u (List.mem_cons_of_mem _ hu))
    · cases q
  | [], _ :: _, h, _ => by simp at h
  | _ :: _, [], h, _ => by simp at h
theorem perm_inr {l : List Key} {ss : List Str} : ∀ {m : List Key}, m.Perm (ss.map Sum.inr) → ∃ ts : List Str, m = ts.map Sum.inr ∧ ts.Perm ss := fun {m} p => by
  have h : ∀ k ∈ m, ∃ x : Str, k = Sum.inr x := fun k hk => by
    obtain ⟨x, _, e⟩ := List.mem_map.mp (p.mem_iff.mp hk)
    exact ⟨x, e.symm⟩
  have ex : ∀ m : List Key, (∀ k ∈ m, ∃ x : Str, k = Sum.inr x) → ∃ ts : List Str, m = ts.map Sum.inr := by
    intro m
    induction m with
    | nil => intro _; exact ⟨[], rfl⟩
    | cons k m ih =>
      intro hm
      obtain ⟨x, rfl⟩ := hm k List.mem_cons_self
      obtain ⟨ts, rfl⟩ := ih fun u hu => hm u (List.mem_cons_of_mem _ hu)
      exact ⟨x :: ts, rfl⟩
  obtain ⟨ts, rfl⟩ := ex m h
  refine ⟨ts, rfl, ?_⟩
  have q := p.map (fun k : Key => match k with | .inr x => x | .inl _ => Str.empty)
  rw [List.map_map, List.map_map] at q
  have e : ∀ u : List Str, u.map ((fun k : Key => match k with | .inr x => x | .inl _ => Str.empty) ∘ Sum.inr) = u := fun u => by
    have : ((fun k : Key => match k with | .inr x => x | .inl _ => Str.empty) ∘ Sum.inr) = (id : Str → Str) := rfl
    rw [this, List.map_id]
  rw [e, e] at q
  exact q
theorem perm_inl {ss : List Int} : ∀ {m : List Key}, m.Perm (ss.map Sum.inl) → ∃ ts : List Int, m = ts.map Sum.inl ∧ ts.Perm ss := fun {m} p => by
  have h : ∀ k ∈ m, ∃ x : Int, k = Sum.inl x := fun k hk => by
    obtain ⟨x, _, e⟩ := List.mem_map.mp (p.mem_iff.mp hk)
    exact ⟨x, e.symm⟩
  have ex : ∀ m : List Key, (∀ k ∈ m, ∃ x : Int, k = Sum.inl x) → ∃ ts : List Int, m = ts.map Sum.inl := by
    intro m
    induction m with
    | nil => intro _; exact ⟨[], rfl⟩
    | cons k m ih =>
      intro hm
      obtain ⟨x, rfl⟩ := hm k List.mem_cons_self
      obtain ⟨ts, rfl⟩ := ih fun u hu => hm u (List.mem_cons_of_mem _ hu)
      exact ⟨x :: ts, rfl⟩
  obtain ⟨ts, rfl⟩ := ex m h
  refine ⟨ts, rfl, ?_⟩
  have q := p.map (fun k : Key => match k with | .inl x => x | .inr _ => 0)
  rw [List.map_map, List.map_map] at q
  have e : ∀ u : List Int, u.map ((fun k : Key => match k with | .inl x => x | .inr _ => 0) ∘ Sum.inl) = u := fun u => by
    have : ((fun k : Key => match k with | .inl x => x | .inr _ => 0) ∘ Sum.inl) = (id : Int → Int) := rfl
    rw [this, List.map_id]
  rw [e, e] at q
  exact q
end
section
variable {X : Cx}
/-- sorted(set of texts) -/
theorem cr_sortedKS (hc : X.calm = true) : CallR X (.builtin "sorted") (fun vs H Q => ∃ (a : Addr) (ss : List Str), vs = [.ref a] ∧ H a = some (SetMO X.w a (ss.map Sum.inr)) ∧ ss.length < 64 ∧ ∀ (ys : List Str) (p : Addr), ys.Perm ss → sortedS ys = true → H p = none → Q (.ref p) (upd H p (.lst (ys.map V.str)))) := by
  intro pins s σ H vs us Q I r h
  obtain ⟨a, ss, rfl, ha, hf, q⟩ := h
  obtain ⟨u, rfl, rx⟩ := vals1 r
  cases rx
  refine sorted_shell (setM_get I ha) (I.ok.hd hc) (by simpa using hf) fun vs s1 L Z ho h64 pk hv hz => ?_
  obtain ⟨ts, et, pt⟩ := perm_inr (l := []) pk
  have hS : StrsAre vs ts := strs_of vs ts et hv
  refine list_sort_treeK strKind_oneLt ho hS.keysOf (fun v₁ v₂ rest e => keyKind_strs (by rw [← e]; exact hS)) h64 fun st' hp hs => ?_
  obtain ⟨ys, h1, h2, h3⟩ := sorted_out_str hS hp hs
  refine hz _ fun s' p c k g o hp' hg => ?_
  have hn : H p = none := I.hok.fresh hp'
  have hl : (ys.map V.str).length ≤ sizeLine := by rw [List.length_map, (h2.trans pt).length_eq, sizeLine_eq]; omega
  have J : Inv X pins σ (upd H p (.lst (ys.map V.str))) { s with heap := s'.heap, gens := s'.gens, drawn := s'.drawn, toks := s'.toks } :=
    I.call (ch := []) (Un.laid k hp' hn) (I.hok.laid k hp' ⟨hl, _, c, vals_of_strs h1, hg⟩) (by rw [g]; exact I.bare) (fun _ z => nomatch z)
  have e : s' = { s with heap := s'.heap, gens := s'.gens, drawn := s'.drawn, toks := s'.toks } := by
    cases s'; cases s; cases o; rfl
  rw [e]
  exact ⟨.ref p, _, J, rfl, q ys p (h2.trans pt) h3 hn⟩
/-- sorted(set of ints) -/
theorem cr_sortedKI (hc : X.calm = true) : CallR X (.builtin "sorted") (fun vs H Q => ∃ (a : Addr) (ss : List Int), vs = [.ref a] ∧ H a = some (SetMO X.w a (ss.map Sum.inl)) ∧ ss.length < 64 ∧ ∀ (ys : List Int) (p : Addr), ys.Perm ss → ys.Pairwise (· ≤ ·) → H p = none → Q (.ref p) (upd H p (.lst (ys.map V.int)))) := by
  intro pins s σ H vs us Q I r h
  obtain ⟨a, ss, rfl, ha, hf, q⟩ := h
  obtain ⟨u, rfl, rx⟩ := vals1 r
  cases rx
  refine sorted_shell (setM_get I ha) (I.ok.hd hc) (by simpa using hf) fun vs s1 L Z ho h64 pk hv hz => ?_
  obtain ⟨ts, et, pt⟩ := perm_inl pk
  have hS : IntsAre vs ts := ints_ofK vs ts et hv
  refine list_sort_tree ho hS h64 fun out ys h1 h2 h3 => ?_
  refine hz _ fun s' p c k g o hp' hg => ?_
  have hn : H p = none := I.hok.fresh hp'
  have hl : (ys.map V.int).length ≤ sizeLine := by rw [List.length_map, (h2.trans pt).length_eq, sizeLine_eq]; omega
  have J : Inv X pins σ (upd H p (.lst (ys.map V.int))) { s with heap := s'.heap, gens := s'.gens, drawn := s'.drawn, toks := s'.toks } :=
    I.call (ch := []) (Un.laid k hp' hn) (I.hok.laid k hp' ⟨hl, _, c, vals_of_ints h1, hg⟩) (by rw [g]; exact I.bare) (fun _ z => nomatch z)
  have e : s' = { s with heap := s'.heap, gens := s'.gens, drawn := s'.drawn, toks := s'.toks } := by
    cases s'; cases s; cases o; rfl
  rw [e]
  exact ⟨.ref p, _, J, rfl, q ys p (h2.trans pt) h3 hn⟩
end
end SR

set_option maxRecDepth 100000
set_option maxHeartbeats 4000000
namespace SR
open PySem PySem.Spec PyProof.Rows L2
section
variable {X : Cx}
/-- x in o, o an instance with an own __contains__ that gives a truth value -/
def rOwnIn (neg : Bool) (C : Addr) (sp : Sp) (E : XK) : R2 := fun x y H Q => ∃ a dx fs, y = .ref a ∧ H a = some (.ins C dx fs) ∧ sp [.ref a, x] H (fun v H' => ∃ b, v = .bl b ∧ Q (.bl (if neg then !b else b)) H') E
theorem own_in {CX : CXT} {n : Nat} {C f : Addr} {fd : FuncData} {ps : List Str} {sp : Sp} {E : XK} (F : FnOk X.prog X.w X.K X.mg X.base CX n f fd ps sp) (hr : Room n X.A)
    (hs : PySem.W.findIn X.K (.ref C) "__contains__" = some (some (.ref f))) (hf : PySem.W.isFn X.K (.ref f) = true) (hb : Binds X.K fd ps []) (hx : Passes CX X E)
    {pins : List (Addr × Obj)} {s : Shared} {σ : L2.St} {H : Hp} {x : V} {u : Value} {a dx : Addr} {fs : List (Str × V)} {q : V → Hp → Prop} (I : Inv X pins σ H s) (rx : RelV x u) (ha : H a = some (.ins C dx fs)) (hq : sp [.ref a, x] H q E) :
    wpAny (model X.prog X.w) X.A (call (.ref f) [.ref a, u]) (EP X pins σ q) X.xe s := by
  have hl := F.len _ _ _ _ hq
  have r2 : Vals [V.ref a, x] [Value.ref a, u] := .cons rfl (.cons rx .nil)
  refine wpAny_call (codeAny_mono (F.run X.A X.stack s H ⟨[.ref a, u], []⟩ [.ref a, u] [.ref a, x] _ E hr I.env0 (by
    have := hb s [.ref a, u] I.kIn (by simpa using hl)
    simpa using this) r2 hq) fun r s' hz => ?_)
  cases r with
  | error e => exact hx pins σ H s e s' I hz
  | ok fl =>
    cases fl with
    | ret v => exact I.after hz
    | next => exact False.elim hz
    | brk => exact False.elim hz
    | cont => exact False.elim hz
theorem op_inOwn {CX : CXT} {n : Nat} {C f : Addr} {fd : FuncData} {ps : List Str} {sp : Sp} {E : XK} (F : FnOk X.prog X.w X.K X.mg X.base CX n f fd ps sp) (hr : Room n X.A)
    (hs : PySem.W.findIn X.K (.ref C) "__contains__" = some (some (.ref f))) (hf : PySem.W.isFn X.K (.ref f) = true) (hb : Binds X.K fd ps []) (hx : Passes CX X E) : OpR X (compareOp .In) (rOwnIn false C sp E) := by
  intro pins s σ H x y u v Q I rx ry h
  obtain ⟨a, dx, fs, rfl, ha, hq⟩ := h
  cases ry
  obtain ⟨mA, J, _⟩ := ins_get I.hok ha
  obtain ⟨od, J, _⟩ := J.look
  obtain ⟨m, hF⟩ := I.fr
  refine PySem.W.in_K hF I.ok.mod.kin J hs hf (wpAny_mono (own_in F hr hs hf hb hx I rx ha hq) (fun z s' hz => ?_) fun _ _ e => e)
  obtain ⟨b', H', I', rb, b, rfl, hQ⟩ := hz
  cases rb
  exact wpAny_truthy_bool ⟨.bl b, H', I', rfl, hQ⟩
theorem op_notInOwn {CX : CXT} {n : Nat} {C f : Addr} {fd : FuncData} {ps : List Str} {sp : Sp} {E : XK} (F : FnOk X.prog X.w X.K X.mg X.base CX n f fd ps sp) (hr : Room n X.A)
    (hs : PySem.W.findIn X.K (.ref C) "__contains__" = some (some (.ref f))) (hf : PySem.W.isFn X.K (.ref f) = true) (hb : Binds X.K fd ps []) (hx : Passes CX X E) : OpR X (compareOp .NotIn) (rOwnIn true C sp E) := by
  intro pins s σ H x y u v Q I rx ry h
  obtain ⟨a, dx, fs, rfl, ha, hq⟩ := h
  cases ry
  obtain ⟨mA, J, _⟩ := ins_get I.hok ha
  obtain ⟨od, J, _⟩ := J.look
  obtain ⟨m, hF⟩ := I.fr
  refine PySem.W.notIn_K hF I.ok.mod.kin J hs hf (wpAny_mono (own_in F hr hs hf hb hx I rx ha hq) (fun z s' hz => ?_) fun _ _ e => e)
  obtain ⟨b', H', I', rb, b, rfl, hQ⟩ := hz
  cases rb
  exact wpAny_truthy_bool ⟨.bl (!b), H', I', rfl, hQ⟩
end
end SR

set_option maxRecDepth 100000
set_option maxHeartbeats 4000000
namespace SR
open PySem PySem.Spec PyProof.Rows L2
/-! Dicts whose keys are pairs (an int, a tuple of ints). -/
abbrev PKey := Int × List Int
section
variable (P : Program) (w : World)
def IsPair (h : Heap) (k : PKey) (a : Addr) : Prop := ∃ o n t b, h.get? a = some o ∧ o.cls = .type "tuple" ∧ o.data = .seq #[.int k.1 t, .ref b] n ∧ IsTupleKey (intKind P w) h k.2 b
def pairHash (k : PKey) : Int := reduceHash (Builtin.Tuple.tupleHashOf [(intKind P w).hash k.1, tupleKeyHash (intKind P w) k.2])
end
section
variable {P : Program} {w : World} {A : Around} {E : Value → Shared → Prop} {s : Shared}
theorem IsPair.typeIs {k : PKey} {a : Addr} (x : IsPair P w s.heap k a) : s.TypeIs (.ref a) "tuple" := by
  obtain ⟨o, n, t, b, ho, hc, _⟩ := x
  exact ⟨o, ho, hc⟩
theorem IsPair.inj {h : Heap} {a : Addr} {x y : PKey} (hx : IsPair P w h x a) (hy : IsPair P w h y a) : x = y := by
  obtain ⟨o, n, t, b, ho, hc, hd, hk⟩ := hx
  obtain ⟨o', n', t', b', ho', hc', hd', hk'⟩ := hy
  obtain rfl : o = o' := Option.some.inj (ho.symm.trans ho')
  rw [hd] at hd'
  injection hd' with h1 _
  injection h1 with h1
  injection h1 with h2 h3
  injection h2 with h2 _
  injection h3 with h3 _
  injection h3 with h3
  subst h3
  exact Prod.ext h2 (hk.inj hk')
theorem IsPair.keeps {h h' : Heap} {k : PKey} {a d : Addr} {o : Obj} {es ep} (x : IsPair P w h k a) (ho : h.get? d = some o) (hd : o.data = .dict es ep) (hs : Heap.SameBut d h h') : IsPair P w h' k a := by
  obtain ⟨o', n, t, b, ho', hc, hd', hk⟩ := x
  have hne : a ≠ d := by
    rintro rfl
    obtain rfl : o' = o := Option.some.inj (ho'.symm.trans ho)
    rw [hd] at hd'
    exact nomatch hd'
  exact ⟨o', n, t, b, (hs.2 a hne).trans ho', hc, hd', hk.keeps ho hd hs⟩
theorem pair_hash {k : PKey} {a : Addr} {Q : Int → Shared → Prop} (hu : A.units + 1 < cLine) (hk : IsPair P w s.heap k a) (h : Q (pairHash P w k) { s with toks := s.toks + (k.2.length + 3) }) : wpAny (model P w) A (pyHash (.ref a)) Q E s := by
  have hT := hk.typeIs
  obtain ⟨o, n, t, b, ho, _, hd, hb⟩ := hk
  unfold pyHash
  first | unfold pyHashByItsType | skip
  first | refine wpAny_bind (wpAny_cRoomFor_or (.inr (by omega)) ?_) | skip
  refine wpAny_bind (wpAny_specialOf hT F.slot_tuple_hash.lookup ?_)
  show wpAny _ _ (if (some (Value.builtin "tuple.__hash__") == some Value.none) = true then _ else _) Q E s
  rw [if_neg (by rw [beq_builtin_none]; exact Bool.false_ne_true)]
  refine wpAny_bind (wpAny_specialOf hT F.slot_tuple_hash.lookup ?_)
  show wpAny _ _ (callSpecialIfBoundUnlessNone? (.ref a) "__hash__" _ >>= _) Q E s
  refine wpAny_bind (wpAny_callSpecialIfBoundUnlessNone?_slot hT F.slot_tuple_hash (wpAny_call_entry F.slot_tuple_hash hT F.entry_tuple_hash ?_ (F.args_tuple_hash_1 _)))
  show wpAny _ _ (Builtin.Tuple.tupleItemsOf (.ref a) >>= _) _ _ s
  refine wpAny_bind (wpAny_tupleItemsOf ho hd (wpAny_bind ?_))
  rw [← Array.forIn_toList]
  refine wpAny_forIn_list _ (fun rest (c : Array Int) s' =>
      (rest = [.int k.1 t, .ref b] ∧ c.toList = [] ∧ s' = s) ∨ (rest = [.ref b] ∧ c.toList = [(intKind P w).hash k.1] ∧ s' = { s with toks := s.toks + 1 }) ∨ (rest = [] ∧ c.toList = [(intKind P w).hash k.1, tupleKeyHash (intKind P w) k.2] ∧ s' = { s with toks := s.toks + (k.2.length + 2) })) _ ?_ ?_ _ _ (.inl ⟨rfl, rfl, rfl⟩)
  · rintro x rest c s' (⟨e, hc, rfl⟩ | ⟨e, hc, rfl⟩ | ⟨e, hc, rfl⟩)
    · injection e with e1 e2
      subst e1 e2
      refine wpAny_bind ((intKind P w).pyHash (intKind_is P w _ _) ?_)
      first
        | exact wpAny_pure (.inr (.inl ⟨rfl, by simp [hc], rfl⟩))
        | exact wpAny_bind (wpAny_pure (wpAny_pure (.inr (.inl ⟨rfl, by simp [hc], rfl⟩))))
    · injection e with e1 e2
      subst e1 e2
      refine wpAny_bind (wpAny_pyHash_tuple (A := A.in1) hu hb ?_)
      have et : s.toks + 1 + (k.2.length + 1) = s.toks + (k.2.length + 2) := by omega
      first
        | exact wpAny_pure (.inr (.inr ⟨rfl, by simp [hc], by simp only [et]⟩))
        | exact wpAny_bind (wpAny_pure (wpAny_pure (.inr (.inr ⟨rfl, by simp [hc], by simp only [et]⟩))))
    · cases e
  · rintro c s' (⟨e, _⟩ | ⟨e, _⟩ | ⟨_, hc, rfl⟩)
    · cases e
    · cases e
    · show wpAny _ _ (retInt (Builtin.Tuple.tupleHashOf c.toList)) _ _ _
      rw [hc]
      refine wpAny_ret_mkInt ?_
      unfold pairHash reduceHash at h
      generalize Builtin.Tuple.tupleHashOf [(intKind P w).hash k.1, tupleKeyHash (intKind P w) k.2] = z at h ⊢
      show wpAny _ _ (if (decide (-(2 : Int) ^ 63 ≤ z) && decide (z < 2 ^ 63)) = true then _ else _) Q E _
      have et : s.toks + (k.2.length + 2) + 1 = s.toks + (k.2.length + 3) := by omega
      by_cases hr : (decide (-(2 : Int) ^ 63 ≤ z) && decide (z < 2 ^ 63)) = true
      · rw [if_pos hr] at h ⊢
        exact wpAny_pure (by simpa only [et] using h)
      · rw [if_neg hr] at h ⊢
        exact wpAny_bind (wpAny_rule (wpAny_pure (by simpa only [et] using h)))
theorem pair_eq_tree {x y : PKey} {a b : Addr} {Z : Fin → Shared → Prop} (hu : A.units < cLine) (hx : IsPair P w s.heap x a) (hy : IsPair P w s.heap y b) (h : Z (.done (.ret (.bool (decide (x = y))))) s) :
    wpAny (model P w) A (Builtin.«tuple.__eq__» ⟨[.ref a, .ref b], []⟩) Z E s := by
  have hTb := hy.typeIs
  obtain ⟨oa, na, ta, ca, hoa, _, hda, hka⟩ := hx
  obtain ⟨ob, nb, tb, cb, hob, _, hdb, hkb⟩ := hy
  show wpAny _ _ (isInstance (.ref b) (.type "tuple") >>= _) _ _ s
  refine wpAny_bind (wpAny_isInstance hTb isSubtype_tuple_tuple ?_)
  simp only [Bool.not_true, Bool.false_eq_true, if_false]
  refine wpAny_bind (wpAny_tupleItemsOf hoa hda (wpAny_bind (wpAny_tupleItemsOf hob hdb (wpAny_bind ?_))))
  refine wpAny_forIn_list _ (fun rest r s' => r.1 = none ∧ s' = s ∧ (rest = [(.int x.1 ta, .int y.1 tb), (.ref ca, .ref cb)] ∨ (x.1 = y.1 ∧ rest = [(.ref ca, .ref cb)]) ∨ (x = y ∧ rest = []))) _ ?_ ?_ _ _ ⟨rfl, rfl, .inl rfl⟩
  · rintro ⟨u, v⟩ rest r s' ⟨hr, rfl, e | ⟨e0, e⟩ | ⟨_, e⟩⟩
    · injection e with e1 e2
      injection e1 with e3 e4
      subst e2 e3 e4
      refine wpAny_bind ((intKind P w).eqBool (a := x.1) (b := y.1) (intKind_is P w _ _) (intKind_is P w _ _) ?_)
      by_cases hk : x.1 = y.1
      · rw [decide_eq_true hk]
        simp only [Bool.not_true, Bool.false_eq_true, if_false]
        exact wpAny_pure ⟨rfl, rfl, .inr (.inl ⟨hk, by trivial⟩)⟩
      · rw [decide_eq_false hk]
        simp only [Bool.not_false, if_true]
        rw [decide_eq_false (fun z => hk (congrArg Prod.fst z))] at h
        exact wpAny_bind (wpAny_pure (wpAny_pure (wpAny_pure h)))
    · injection e with e1 e2
      injection e1 with e3 e4
      subst e2 e3 e4
      refine wpAny_bind (wpAny_eqBool_tuple hu hka hkb ?_)
      by_cases hk : x.2 = y.2
      · rw [decide_eq_true hk]
        simp only [Bool.not_true, Bool.false_eq_true, if_false]
        exact wpAny_pure ⟨rfl, rfl, .inr (.inr ⟨Prod.ext e0 hk, by trivial⟩)⟩
      · rw [decide_eq_false hk]
        simp only [Bool.not_false, if_true]
        rw [decide_eq_false (fun z => hk (congrArg Prod.snd z))] at h
        exact wpAny_bind (wpAny_pure (wpAny_pure (wpAny_pure h)))
    · cases e
  · rintro ⟨r1, r2⟩ s' ⟨hr, rfl, e | ⟨_, e⟩ | ⟨e, _⟩⟩
    · cases e
    · cases e
    · simp only at hr
      subst hr
      rw [decide_eq_true e] at h
      exact wpAny_pure h
theorem pair_eqBool {x y : PKey} {a b : Addr} {Q : Bool → Shared → Prop} (hu : A.units + 1 < cLine) (hx : IsPair P w s.heap x a) (hy : IsPair P w s.heap y b) (h : Q (decide (x = y)) s) :
    wpAny (model P w) A (eqBool (.ref a) (.ref b)) Q E s := by
  unfold eqBool
  try with_reducible refine wpAny_holding ?_
  show wpAny _ _ (if (Value.ref a == Value.ref b) = true then _ else _) Q E s
  by_cases hab : (Value.ref a == Value.ref b) = true
  · rw [if_pos hab]
    have e : a = b := by have := eq_of_beq hab; injection this
    subst e
    obtain rfl := hx.inj hy
    exact wpAny_bind (wpAny_rule (wpAny_pure (by simpa using h)))
  · rw [if_neg hab]
    exact wpAny_bind (wpAny_richCompare_same_room (op := .Eq) hx.typeIs hy.typeIs F.slot_tuple_eq
      (wpAny_call_entry F.slot_tuple_eq hx.typeIs F.entry_tuple_eq (pair_eq_tree (A := A.in1) hu hx hy ⟨_, rfl, (fun e => nomatch e), wpAny_truthy_bool h⟩) (F.args_tuple_eq_2 _ _)) (by omega))
theorem quiet_n {n : Nat} {ks : List Int} {a : Addr} {Q : Bool → Shared → Prop} (hk : IsTupleKey (intKind P w) s.heap ks a) (h : Q true s) : wpAny (model P w) A (eqIsQuiet (n + 1) (.ref a)) Q E s := by
  have hT := hk.typeIs
  obtain ⟨o, items, m, ho, _, hd, hi⟩ := hk
  unfold eqIsQuiet
  refine wpAny_bind (wpAny_specialOf hT F.slot_tuple_eq.lookup ?_)
  show wpAny _ _ (isInstance (.ref a) (.type "tuple") >>= _) _ _ s
  refine wpAny_bind (wpAny_isInstance hT isSubtype_tuple_tuple ?_)
  simp only [Bool.not_true, Bool.false_eq_true, if_false]
  refine wpAny_bind (wpAny_seqItems ho hd (wpAny_bind ?_))
  show wpAny _ _ (forIn items _ _) _ _ s
  rw [← Array.forIn_toList]
  refine wpAny_forIn_list _ (fun rest r s' => r.1 = none ∧ s' = s ∧ ∀ v ∈ rest, carriedByValue v = true) _ ?_ ?_ _ _ ⟨rfl, rfl, hi.byValue⟩
  · rintro v rest r s' ⟨hr, rfl, hall⟩
    rw [eqIsQuiet_byValue _ (hall v List.mem_cons_self)]
    refine wpAny_bind (wpAny_pure ?_)
    simp only [Bool.not_true, Bool.false_eq_true, if_false]
    exact wpAny_pure ⟨rfl, rfl, fun u hu' => hall u (List.mem_cons_of_mem _ hu')⟩
  · rintro ⟨r1, r2⟩ s' ⟨hr, rfl, _⟩
    simp only at hr
    subst hr
    exact wpAny_pure h
theorem pair_quiet {k : PKey} {a : Addr} {Q : Bool → Shared → Prop} (hk : IsPair P w s.heap k a) (h : Q true s) : wpAny (model P w) A (eqIsQuiet 8 (.ref a)) Q E s := by
  have hT := hk.typeIs
  obtain ⟨o, n, t, b, ho, _, hd, hb⟩ := hk
  unfold eqIsQuiet
  refine wpAny_bind (wpAny_specialOf hT F.slot_tuple_eq.lookup ?_)
  show wpAny _ _ (isInstance (.ref a) (.type "tuple") >>= _) _ _ s
  refine wpAny_bind (wpAny_isInstance hT isSubtype_tuple_tuple ?_)
  simp only [Bool.not_true, Bool.false_eq_true, if_false]
  refine wpAny_bind (wpAny_seqItems ho hd (wpAny_bind ?_))
  show wpAny _ _ (forIn (#[Value.int k.1 t, Value.ref b] : Array Value) _ _) _ _ s
  rw [← Array.forIn_toList]
  refine wpAny_forIn_list _ (fun rest r s' => r.1 = none ∧ s' = s ∧ ∀ v ∈ rest, carriedByValue v = true ∨ v = .ref b) _ ?_ ?_ _ _ ⟨rfl, rfl, fun v hv => ?_⟩
  · rintro v rest r s' ⟨hr, rfl, hall⟩
    have fin : ∀ u ∈ rest, carriedByValue u = true ∨ u = Value.ref b := fun u hu' => hall u (List.mem_cons_of_mem _ hu')
    rcases hall v List.mem_cons_self with c | c
    · rw [eqIsQuiet_byValue _ c]
      refine wpAny_bind (wpAny_pure ?_)
      simp only [Bool.not_true, Bool.false_eq_true, if_false]
      exact wpAny_pure ⟨rfl, rfl, fin⟩
    · subst c
      refine wpAny_bind (quiet_n (n := 6) hb ?_)
      simp only [Bool.not_true, Bool.false_eq_true, if_false]
      exact wpAny_pure ⟨rfl, rfl, fin⟩
  · rintro ⟨r1, r2⟩ s' ⟨hr, rfl, _⟩
    simp only at hr
    subst hr
    exact wpAny_pure h
  · have : v = .int k.1 t ∨ v = .ref b := by simpa using hv
    rcases this with e | e
    · subst e; exact .inl rfl
    · exact .inr e
end
def pairKind (P : Program) (w : World) : HeapKind P w PKey where
  is := IsPair P w
  hash := pairHash P w
  draws := fun k => k.2.length + 3
  room := fun A => A.units + 1 < cLine
  inj := fun hx hy => hx.inj hy
  keeps := fun x ho hd hs => x.keeps ho hd hs
  pyHash := fun hu hk h => pair_hash hu hk h
  eqBool := fun hu hx hy h => pair_eqBool hu hx hy h
  quiet := fun hk h => pair_quiet hk h
end SR

set_option maxRecDepth 100000
set_option maxHeartbeats 4000000
namespace SR
open PySem PySem.Spec PyProof.Rows L2
/-- the dict at a: its keys, their places, its ints -/
def PkD (P : Program) (w : World) (h : Heap) (a : Addr) (xs : List (PKey × Addr × Int)) : Prop :=
  (a == sysModules) = false ∧ xs.length ≤ sizeLine ∧ ∃ (ys : List (PKey × Addr × Value)) (o : Obj) (es : Array DictEntry) (ep : Nat), Paired (fun (x : PKey × Addr × Int) (y : PKey × Addr × Value) => y.1 = x.1 ∧ y.2.1 = x.2.1 ∧ ∃ t, y.2.2 = .int x.2.2 t) xs ys ∧
    h.get? a = some o ∧ o.ExactDict ∧ o.data = .dict es ep ∧ es.toList = ys.map (entryOfKey (pairKind P w)) ∧ (ys.map (·.1)).Nodup
def PkO (P : Program) (w : World) (a : Addr) (xs : List (PKey × Addr × Int)) : HO := .ext fun h => PkD P w h a xs
theorem pkO_new {P : Program} {w : World} {H : Hp} {h : Heap} {a : Addr} {xs : List (PKey × Addr × Int)} (R : PkD P w h a xs) : ObjOk P w H h a (PkO P w a xs) := by
  obtain ⟨_, _, ys, o, es, ep, _, ho, _⟩ := id R
  refine ⟨R, ⟨o, ho⟩, fun h1 h2 q k => ?_⟩
  obtain ⟨q1, q2, ys, o, es, ep, q3, q4, q5⟩ := q
  exact ⟨q1, q2, ys, o, es, ep, q3, k o q4, q5⟩
def KeyT (H : Hp) (k : PKey) (b : Addr) : Prop := ∃ c, H b = some (.tup [.int k.1, .ref c]) ∧ H c = some (.tup (k.2.map V.int))
theorem KeyT.mono {H H' : Hp} {k : PKey} {b : Addr} (e : Same H H') (h : KeyT H k b) : KeyT H' k b := by
  obtain ⟨c, h1, h2⟩ := h
  exact ⟨c, e _ _ h1, e _ _ h2⟩
def lookP (xs : List (PKey × Addr × Int)) (k : PKey) : Option Int := (xs.find? fun x => decide (x.1 = k)).map (·.2.2)
theorem items_ints {P : Program} {w : World} : ∀ {k : List Int} {us : List Value}, Vals (k.map V.int) us → ItemsAre (intKind P w) k us
  | [], _, .nil => .nil
  | n :: k, _, .cons r t => by
    obtain ⟨tk, rfl⟩ := r
    exact .cons (intKind_is P w n tk) (items_ints t)
section
variable {X : Cx} {pins : List (Addr × Obj)} {σ : L2.St} {H : Hp} {s : Shared} {a : Addr} {xs : List (PKey × Addr × Int)}
theorem KeyT.is {k : PKey} {b : Addr} (h : KeyT H k b) (I : Inv X pins σ H s) : IsPair X.prog X.w s.heap k b := by
  obtain ⟨c, h1, h2⟩ := h
  obtain ⟨_, its, rv, o, ho, hc, n, hd⟩ := I.hok b _ h1
  obtain ⟨_, its2, rv2, o2, ho2, hc2, n2, hd2⟩ := I.hok c _ h2
  cases rv with
  | cons r1 rr =>
    cases rr with
    | cons r2 rr =>
      cases rr
      obtain ⟨t, rfl⟩ := r1
      cases r2
      exact ⟨o, n, t, c, ho, hc, by simpa using hd, o2, _, n2, ho2, hc2, hd2, by simpa using items_ints rv2⟩
theorem pk_dict (I : Inv X pins σ H s) (ha : H a = some (PkO X.prog X.w a xs)) (hk : ∀ x ∈ xs, KeyT H x.1 x.2.1) :
    (a == sysModules) = false ∧ xs.length ≤ sizeLine ∧ ∃ ys : List (PKey × Addr × Value), Paired (fun (x : PKey × Addr × Int) (y : PKey × Addr × Value) => y.1 = x.1 ∧ y.2.1 = x.2.1 ∧ ∃ t, y.2.2 = .int x.2.2 t) xs ys ∧ s.heap.DictOfH (pairKind X.prog X.w) a ys := by
  obtain ⟨q1, q2, ys, o, es, ep, q3, ho, hex, hd, he, nd⟩ := (I.hok a _ ha).1
  refine ⟨q1, q2, ys, q3, o, es, ep, ho, hex, hd, he, ?_, nd⟩
  have key : ∀ {xs : List (PKey × Addr × Int)} {ys : List (PKey × Addr × Value)}, Paired (fun (x : PKey × Addr × Int) (y : PKey × Addr × Value) => y.1 = x.1 ∧ y.2.1 = x.2.1 ∧ ∃ t, y.2.2 = .int x.2.2 t) xs ys → (∀ x ∈ xs, KeyT H x.1 x.2.1) → ∀ y ∈ ys, IsPair X.prog X.w s.heap y.1 y.2.1 := by
    intro xs ys p
    induction p with
    | nil => intro _ y hy; cases hy
    | cons r _ ih =>
      intro hk y hy
      rcases List.mem_cons.mp hy with z | z
      · subst z
        rw [r.1, r.2.1]
        exact (hk _ List.mem_cons_self).is I
      · exact ih (fun x hx => hk x (List.mem_cons_of_mem _ hx)) y z
  exact key q3 hk
theorem look_at {k : PKey} : ∀ {xs : List (PKey × Addr × Int)} {ys : List (PKey × Addr × Value)}, Paired (fun (x : PKey × Addr × Int) (y : PKey × Addr × Value) => y.1 = x.1 ∧ y.2.1 = x.2.1 ∧ ∃ t, y.2.2 = .int x.2.2 t) xs ys →
    (∀ p, atKey ys k = some p → ∃ i t, lookP xs k = some i ∧ p.2 = .int i t) ∧ (atKey ys k = none → lookP xs k = none)
  | _, _, .nil => ⟨fun p h => by simp [atKey] at h, fun _ => rfl⟩
  | x :: xs, y :: ys, .cons r t => by
    obtain ⟨ih1, ih2⟩ := look_at (k := k) t
    obtain ⟨e1, e2, tk, e3⟩ := r
    by_cases c : x.1 = k
    · have a1 : atKey (y :: ys) k = some y.2 := by simp [atKey, e1, c]
      have a2 : lookP (x :: xs) k = some x.2.2 := by simp [lookP, c]
      rw [a1, a2]
      exact ⟨fun p h => ⟨_, tk, rfl, by rw [← Option.some.inj h]; exact e3⟩, fun h => nomatch h⟩
    · have a1 : atKey (y :: ys) k = atKey ys k := by simp [atKey, e1, c]
      have a2 : lookP (x :: xs) k = lookP xs k := by simp [lookP, c]
      rw [a1, a2]
      exact ⟨ih1, ih2⟩
theorem paired_snoc {α β : Type} {R : α → β → Prop} {x : α} {y : β} : ∀ {xs : List α} {ys : List β}, Paired R xs ys → R x y → Paired R (xs ++ [x]) (ys ++ [y])
  | _, _, .nil, r => .cons r .nil
  | _, _, .cons q t, r => .cons q (paired_snoc t r)
end
section
variable {X : Cx} {o e f : Expr} {td ty tx : TE} {apos cpos : Pos}
def tDNewP (P : Program) (w : World) : TE := fun _ H Q => ∀ p, H p = none → Q (.ref p) (upd H p (PkO P w p []))
theorem pe_dnewP {pos : Pos} : PE X (.Dict [] [] pos) (tDNewP X.prog X.w) := ⟨fun pins s σ H Q I h =>
  wpAny_Dict_empty ⟨.ref s.heap.objs.size, _, I.laid (a := s.heap.objs.size) (o := PkO X.prog X.w s.heap.objs.size []) (t' := s.toks) (fun _ _ q => Heap.get?_push_of_some _ q) (Nat.le_refl _)
    (pkO_new ⟨beq_eq_false_iff_ne.mpr (Ne.symm (Nat.ne_of_lt I.big)), Nat.zero_le _, [], _, #[], 0, .nil, Heap.get?_push_size _ rfl, ⟨rfl, rfl, rfl⟩, rfl, rfl, List.nodup_nil⟩), rfl, h _ (I.hok.fresh (Nat.le_refl _))⟩⟩
def tPSetd (P : Program) (w : World) (td ty tx : TE) : TE := fun σ H Q => td σ H fun x H1 => ∃ a xs0, x = .ref a ∧ H1 a = some (PkO P w a xs0) ∧ ty σ H1 fun y H2 => tx σ H2 fun z H3 => ∃ (xs : List (PKey × Addr × Int)) (k : PKey) (b : Addr) (n : Int), H3 a = some (PkO P w a xs) ∧ y = .ref b ∧ KeyT H3 k b ∧ z = .int n ∧ xs.length < sizeLine ∧
  (∀ x ∈ xs, KeyT H3 x.1 x.2.1) ∧ (∀ v, lookP xs k = some v → Q (.int v) H3) ∧ (lookP xs k = none → Q (.int n) (upd H3 a (PkO P w a (xs ++ [(k, b, n)]))))
theorem pe_psetd (hu : X.A.units + 2 < cLine) (ho : PE X o td) (he : PE X e ty) (hf : PE X f tx) (m : M2 X o "setdefault" apos e f cpos) : PE X (.Call (.Attribute o "setdefault" apos) [e, f] [] cpos) (tPSetd X.prog X.w td ty tx) := by
  refine ⟨fun pins s σ H Q I h => ?_⟩
  refine wpAny_Call_method m.base m.few m.line PySem.F.plainAttrs_dict PySem.F.slot_dict_setdefault PySem.F.type_dict_setdefault (thn (ho.run pins s σ H _ I h) fun u s1 ⟨x, H1, I1, rx, a, xs0, ex, ha, q1⟩ => ?_)
  subst ex
  obtain rfl : u = Value.ref a := rx
  obtain ⟨_, _, _, od, _, _, _, hod, hex, _⟩ := (I1.hok a _ ha).1
  refine ⟨⟨od, hod, hex.1⟩, fun b q => ?_, ?_⟩
  · cases q
    exact ⟨od, hod, hex.2.1⟩
  rw [m.trees]
  refine Calls.callWith_builtin rfl (Calls.evalArgs_plain (Calls.spliced_cons (thn (he.run pins s1 σ H1 _ I1 q1) fun iv s2 ⟨y, H2, I2, ry, q2⟩ =>
    Calls.spliced_cons (thn (hf.run pins s2 σ H2 _ I2 q2) fun fv s3 ⟨z, H3, I3, rz, xs, k, b, n, ea, ey, hk, ez, hl, hks, q3, q4⟩ => Calls.spliced_nil ?_))))
  subst ey ez
  obtain rfl : iv = Value.ref b := ry
  obtain ⟨tk, rfl⟩ := rz
  obtain ⟨r1, r2, ys, rel, dd⟩ := pk_dict I3 ea hks
  have hlen : xs.length = ys.length := Paired.length rel
  refine call_setdefault_heap (knd := pairKind X.prog X.w) (k := k) hu (hk.is I3) r1 dd (fun p hp => ?_) (fun hn h' dd' sb => ?_) (by rw [← hlen]; exact r2)
  · obtain ⟨i, t, e1, e2⟩ := (look_at rel).1 p hp
    exact ⟨.int i, H3, I3.tok _, ⟨t, e2⟩, q3 i e1⟩
  · have e1 := (look_at rel).2 hn
    obtain ⟨o', es, ep, w1, w2, w3, w4, w5, w6⟩ := dd'
    rw [storedH_new hn] at w4 w6
    exact ⟨.int n, _, d_write (t' := s3.toks + (pairKind X.prog X.w).draws k) I3 (by rw [ea]; exact True.intro) sb ⟨o', w1⟩ (pkO_new ⟨r1, by simp only [List.length_append, List.length_cons, List.length_nil]; omega, _, o', es, ep, paired_snoc rel ⟨rfl, rfl, tk, rfl⟩, w1, w2, w3, w4, w6⟩), ⟨tk, rfl⟩, q4 e1⟩
theorem call_lenP : CallR X (.builtin "len") (fun vs H Q => ∃ a xs, vs = [.ref a] ∧ H a = some (PkO X.prog X.w a xs) ∧ (∀ x ∈ xs, KeyT H x.1 x.2.1) ∧ Q (.int (xs.length : Nat)) H) := by
  intro pins s σ H vs us Q I r h
  obtain ⟨a, xs, rfl, ha, hk, q⟩ := h
  obtain ⟨u, rfl, rx⟩ := vals1 r
  obtain rfl : u = .ref a := rx
  obtain ⟨r1, r2, ys, rel, dd⟩ := pk_dict I ha hk
  have hl : xs.length = ys.length := Paired.length rel
  refine call_len_dictH r1 dd (by rw [← hl]; rw [sizeLine_eq] at r2; omega) ?_
  rw [← hl]
  exact ⟨.int ((xs.length : Nat) : Int), H, I.tok _, ⟨_, rfl⟩, q⟩
end
end SR

set_option maxRecDepth 100000
set_option maxHeartbeats 4000000
namespace SS
open PySem L2
def top (i : Nat) : Stmt := PySem.Challenge.pw_sealedslots_k28_whole_states_by_all_text.main.body.getD i (.Pass ⟨0, 0, 0, 0⟩)
abbrev sDraw : Stmt := top 36
theorem scDraw : FnScope ["_law_rng_here", "_law_many", "_law_digit"] ["_law_rng_here", "_law_many"] (defScope sDraw) := ⟨rfl, rfl, rfl, by decide +kernel, rfl, by decide +kernel, by decide +kernel⟩

/-- the built-ins that the top leaves alone -/
structure Bl (mg : Str → Option Value) : Prop where
  len : mg "len" = none
  range : mg "range" = none
  int : mg "int" = none
  list : mg "list" = none
  dict : mg "dict" = none
  tuple : mg "tuple" = none
  set : mg "set" = none
  sorted : mg "sorted" = none
  all : mg "all" = none
  any : mg "any" = none
  max : mg "max" = none
  min : mg "min" = none
  abs : mg "abs" = none
  divmod : mg "divmod" = none
  repr : mg "repr" = none
  isinstance : mg "isinstance" = none
  enumerate : mg "enumerate" = none
  str : mg "str" = none
  bool : mg "bool" = none
/-- the numbers of a drawing list -/
def RngOk (a b : Int) : Prop := 0 ≤ a ∧ 0 ≤ b ∧ b < 4294967296
def spDraw1 : Sp := fun vs H Q _ => ∃ (r : Addr) (m a b : Int), vs = [.ref r, .int m] ∧ 0 < m ∧ m < 1000 ∧ H r = some (.lst [.int a, .int b]) ∧ RngOk a b ∧
  ∀ (d a' b' : Int) (H' : Hp), 0 ≤ d → d < m → RngOk a' b' → (∀ x o, x ≠ r → H x = some o → H' x = some o) → H' r = some (.lst [.int a', .int b']) → Q (.int d) H'
section
variable {P : Program} {w : World} {K : PySem.W.Frag} {mg : Str → Option Value} {base : Heap}
theorem ok_draw1 {f : Addr} {fd : FuncData} (F : Fun K "_law_draw" "_law_draw" sDraw f fd) (B : Bl mg) : FnOk P w K mg base CX0 1 f fd ["_law_rng_here", "_law_many"] spDraw1 := by
  refine F.ok scDraw (fun vs H Q E h => ?_) (fun cdv A outer s H vs Q E hr h => ?_)
  · obtain ⟨r, m, a, b, rfl, _⟩ := h
    rfl
  · obtain ⟨r, m, a, b, rfl, m0, m1, hR, ⟨a0, b0, b1⟩, k⟩ := h
    refine ⟨_, pss_cons (ps_if (pt_cmpR op_gt (pe_ix ix_list (pv 0) pe_int (fun _ _ => rfl)) pe_int (nomark _))
        (pss_cons (ps_asg (pe_callB call_divmod (by rfl) B.divmod (by decide +kernel) (pa_cons (pe_ix ix_list (pv 0) pe_int (fun _ _ => rfl)) (pa_cons (pv 1) pa_nil)))
            (pg_tup rfl (pgs_cons (pg_sub (pv 0) pe_int set_list) (pgs_cons (pg_name (i := 2) scDraw.nd rfl (.inl rfl)) pgs_nil))))
          (pss_one (ps_ret (pv 2)))) pss_nil)
      (pss_cons (ps_asg (pe_op op_mod (pe_callTy call_int1 (by rfl) B.int (by decide +kernel) (pa_cons (pe_op op_add (pe_op op_mul (pe_ix ix_list (pv 0) pe_int (fun _ _ => rfl)) pe_int) pe_int) pa_nil)) pe_int)
          (pg_sub (pv 0) pe_int set_list))
      (pss_one (ps_ret (pe_op op_mod (pe_op op_fdiv (pe_op op_mod (pe_callTy call_int1 (by rfl) B.int (by decide +kernel) (pa_cons (pe_op op_mul (pe_ix ix_list (pv 0) pe_int (fun _ _ => rfl)) (pe_ix ix_list (pv 0) pe_int (fun _ _ => rfl))) pa_nil)) pe_int) pe_int) (pv 1))))), ?_⟩
    refine ⟨_, rfl, r, _, _, _, rfl, rfl, SqL.of hR, rfl, _, _, rfl, rfl, _, rfl, ?_⟩
    refine ite2 (fun ha => ?_) (fun ha => ?_)
    · refine ⟨_, rfl, r, _, _, _, rfl, rfl, SqL.of hR, rfl, _, rfl, _, _, rfl, ⟨by omega, by omega⟩, fun p hp => ?_⟩
      have nrp : r ≠ p := ne_of_none hR hp
      refine ⟨p, _, rfl, SqT.of upd_same, rfl, _, _, rfl, _, rfl, r, _, _, 0, rfl, rfl, (by rw [upd_ne nrp]; exact hR), rfl, _, _, rfl, rfl, _, rfl, ?_⟩
      refine k (a % m) (a / m) b _ (Int.emod_nonneg _ (by omega)) (Int.emod_lt_of_pos _ m0) ⟨Int.ediv_nonneg a0 (by omega), b0, b1⟩ (fun x o hx e => ?_) upd_same
      rw [upd_ne hx, upd_ne (ne_of_none e hp)]
      exact e
    · refine ⟨_, rfl, r, _, _, _, rfl, rfl, SqL.of hR, rfl, _, _, rfl, rfl, .inl ⟨by omega, by omega⟩, _, _, rfl, rfl, .inl ⟨_, rfl, _, _, rfl, rfl, (by show (0 : Int) < 2147483563; decide), ?_⟩⟩
      refine ⟨_, rfl, r, _, _, 1, rfl, rfl, hR, rfl, ?_⟩
      have b2 : 0 ≤ (b * 39373 + 30011) % 2147483563 := Int.emod_nonneg _ (by decide)
      have b3 : (b * 39373 + 30011) % 2147483563 < 2147483563 := Int.emod_lt_of_pos _ (by decide)
      refine ⟨_, rfl, r, _, _, _, rfl, rfl, SqL.of upd_same, rfl, _, rfl, r, _, _, _, rfl, rfl, SqL.of upd_same, rfl, _, _, rfl, rfl, .inl ⟨by omega, by omega⟩, .inl ⟨_, rfl, _, _, rfl, rfl, (by show (0 : Int) < 2147483497; decide), _, _, rfl, rfl, ⟨by decide, by decide⟩, _, rfl, _, _, rfl, rfl, m0, ?_⟩⟩
      refine k _ a ((b * 39373 + 30011) % 2147483563) _ (Int.emod_nonneg _ (by omega)) (Int.emod_lt_of_pos _ m0) ⟨a0, b2, by omega⟩ (fun x o hx e => ?_) upd_same
      rw [upd_ne hx]
      exact e

/-! ### the drawing list, hidden -/
def rngO (r : Addr) : HO := .ext fun h => ∃ (its : List Value) (n : Nat) (a b : Int), RngOk a b ∧ Vals [.int a, .int b] its ∧ h.get? r = some { cls := .type "list", data := .seq its.toArray n }
theorem rngO_ok {H : Hp} {h : Heap} {r : Addr} {a b : Int} (z : RngOk a b) (o : ObjOk P w H h r (.lst [.int a, .int b])) (H' : Hp) : ObjOk P w H' h r (rngO r) := by
  obtain ⟨_, its, n, v, e⟩ := o
  refine ⟨⟨its, n, a, b, z, v, e⟩, ⟨_, e⟩, fun h1 h2 q k => ?_⟩
  obtain ⟨its, n, a, b, z, v, e⟩ := q
  exact ⟨its, n, a, b, z, v, k _ e⟩
theorem rngO_open {H : Hp} {h : Heap} {r : Addr} (o : ObjOk P w H h r (rngO r)) (H' : Hp) : ∃ a b, RngOk a b ∧ ObjOk P w H' h r (.lst [.int a, .int b]) := by
  obtain ⟨⟨its, n, a, b, z, v, e⟩, _, _⟩ := o
  exact ⟨a, b, z, by show 2 ≤ sizeLine; decide, its, n, v, e⟩
theorem hok_swap {H : Hp} {h : Heap} {r : Addr} {u o : HO} (k : HOk P w H h) (hr : H r = some u) (nt : ∀ xs, u ≠ .tup xs) (nw : ∀ x, u ≠ .own x) (new : ObjOk P w (upd H r o) h r o) : HOk P w (upd H r o) h := fun b v e => by
  by_cases hb : b = r
  · subst hb; rw [upd_same] at e; cases e; exact new
  · rw [upd_ne hb] at e
    refine (k b v e).stay (fun _ _ _ q => q) (fun c q => ?_) fun c xs q => ?_
    · rw [upd_ne (fun z => by subst z; rw [hr] at q; exact nw _ (Option.some.inj q))]; exact q
    · rw [upd_ne (fun z => by subst z; rw [hr] at q; exact nt _ (Option.some.inj q))]; exact q
def spDraw : Sp := fun vs H Q _ => ∃ (r : Addr) (m : Int), vs = [.ref r, .int m] ∧ 0 < m ∧ m < 1000 ∧ H r = some (rngO r) ∧ ∀ (d : Int) (H' : Hp), 0 ≤ d → d < m → Same H H' → Q (.int d) H'
theorem ok_draw {f : Addr} {fd : FuncData} {k : Nat} {ps : List Str} (F : FnOk P w K mg base CX0 k f fd ps spDraw1) (hps : ps.length = 2) : FnOk P w K mg base CX0 k f fd ps spDraw := by
  refine ⟨fun vs H Q E h => ?_, fun A outer s H args us vs Q E hr e0 hb hv hs => ?_⟩
  · obtain ⟨r, m, rfl, _⟩ := h
    exact hps.symm
  · obtain ⟨r, m, rfl, m0, m1, hR, k⟩ := hs
    obtain ⟨a, b, z, ob⟩ := rngO_open (e0.hok r _ hR) (upd H r (.lst []))
    have ob' : ∀ H', ObjOk P w H' s.heap r (.lst [.int a, .int b]) := fun _ => ob
    have hN : ∀ {c : Addr}, H c = none → upd H r (.lst [.int a, .int b]) c = none := fun {c} q => by rw [upd_ne (fun z => by subst z; rw [hR] at q; cases q)]; exact q
    have e1 : Env0 P w K mg base A outer s (upd H r (.lst [.int a, .int b])) := ⟨e0.frames, e0.mod, fun c o q => ⟨(e0.bs c o q).1, hN (e0.bs c o q).2⟩, e0.bsz, e0.funs, fun c q => hN (e0.frf c q), hok_swap e0.hok hR (fun _ => nofun) (fun _ => nofun) (ob' _), e0.bare⟩
    refine codeAny_mono (F.run A outer s _ args us _ (fun v H' => ∃ d a' b', v = .int d ∧ 0 ≤ d ∧ d < m ∧ RngOk a' b' ∧ (∀ x o, x ≠ r → H x = some o → H' x = some o) ∧ H' r = some (.lst [.int a', .int b'])) E hr e1 hb hv
      ⟨r, m, a, b, rfl, m0, m1, upd_same, z, fun d a' b' H' h0 h1 hz hk hr' => ⟨d, a', b', rfl, h0, h1, hz, fun x o hx q => hk x o hx (by rw [upd_ne hx]; exact q), hr'⟩⟩) fun res s' hres => ?_
    unfold CR at hres ⊢
    split at hres
    · obtain ⟨v, H', os, bare, un, hok, rv, d, a', b', rfl, h0, h1, hz, hk, hr'⟩ := hres
      refine ⟨.int d, upd H' r (rngO r), os, bare, ?_, hok_swap hok hr' (fun _ => nofun) (fun _ => nofun) (rngO_ok hz (hok r _ hr') _), rv, k d _ h0 h1 fun c o q => ?_⟩
      · refine ⟨fun c o q n => un.keep c o q (hN n), fun c o q n => un.slot c o q (hN n), fun c o q n hx => ?_, un.there, fun c xs q => ?_, fun c o u q => ?_, fun c ps q => ?_⟩
        · have n' := un.free c o q (hN n) hx
          rw [upd_ne (fun z => by subst z; rw [hR] at n; cases n)]
          exact n'
        · have nc : c ≠ r := fun z => by subst z; rw [hR] at q; cases q
          rw [upd_ne nc]; exact un.tups c xs (by rw [upd_ne nc]; exact q)
        · have nc : c ≠ r := fun z => by subst z; rw [hR] at q; cases q
          rw [upd_ne nc]; exact un.frzs c o u (by rw [upd_ne nc]; exact q)
        · have nc : c ≠ r := fun z => by subst z; rw [hR] at q; cases q
          obtain ⟨more, e⟩ := un.tbls c ps (by rw [upd_ne nc]; exact q)
          exact ⟨more, by rw [upd_ne nc]; exact e⟩
      · by_cases hc : c = r
        · subst hc; rw [hR] at q; cases q; exact upd_same
        · rw [upd_ne hc]; exact hk c o hc q
    · exact hres
    · exact hres
end
end SS

set_option maxRecDepth 100000
set_option maxHeartbeats 4000000
namespace SS
open PySem L2
abbrev sRng : Stmt := top 35
theorem scRng : FnScope ["_law_script", "_law_k", "_law_cell"] ["_law_script", "_law_k"] (defScope sRng) := ⟨rfl, rfl, rfl, by decide +kernel, rfl, by decide +kernel, by decide +kernel⟩
def spRng1 (K : PySem.W.Frag) : Sp := fun vs H Q _ => ∃ (a : Addr) (k : Int) (ns : List Int), vs = [.ref a, .int k] ∧ SqL K H a (ns.map V.int) ∧ 0 ≤ k ∧ k < 1000 ∧
  ∀ (x y : Int) (p : Addr), RngOk x y → H p = none → Q (.ref p) (upd H p (.lst [.int x, .int y]))
section
variable {P : Program} {w : World} {K : PySem.W.Frag} {mg : Str → Option Value} {base : Heap}
theorem absI_nn (i : Int) : 0 ≤ (if i < 0 then -i else i) := by split <;> omega
theorem rng_nums (k i : Int) : RngOk (if (if i < 0 then -i else i) - 10 ^ (18 : Int).toNat > 0 then (if i < 0 then -i else i) - 10 ^ (18 : Int).toNat else 0) (((if i < 0 then -i else i) % 2147483549 + 1) * (2 * k + 3) ^ (3 : Int).toNat % 2147483543 + 1) := by
  refine ⟨?_, ?_, ?_⟩
  · split <;> omega
  · have := Int.emod_nonneg (((if i < 0 then -i else i) % 2147483549 + 1) * (2 * k + 3) ^ (3 : Int).toNat) (show (2147483543 : Int) ≠ 0 by decide)
    omega
  · have := Int.emod_lt_of_pos (((if i < 0 then -i else i) % 2147483549 + 1) * (2 * k + 3) ^ (3 : Int).toNat) (show (0 : Int) < 2147483543 by decide)
    omega
theorem ok_rng1 {f : Addr} {fd : FuncData} (F : Fun K "_law_rng" "_law_rng" sRng f fd) (B : Bl mg) : FnOk P w K mg base CX0 1 f fd ["_law_script", "_law_k"] (spRng1 K) := by
  refine F.ok scRng (fun vs H Q E h => ?_) (fun cdv A outer s H vs Q E hr h => ?_)
  · obtain ⟨a, k, ns, rfl, _⟩ := h
    rfl
  · obtain ⟨a, k, ns, rfl, hS, k0, k1, hQ⟩ := h
    refine ⟨_, pss_cons (ps_set (i := 2) scRng.nd rfl (.inl rfl) (pe_op op_add (pe_op op_mul pe_int (pv 1)) pe_int))
      (pss_cons (ps_if (pt_cmpR op_lt (pv 1) (pe_callB call_len_seq (by rfl) B.len boot_len (pa_cons (pv 0) pa_nil)) (nomark _))
        (pss_one (ps_set (i := 2) scRng.nd rfl (.inl rfl) (pe_ix ix_list (pv 0) (pv 1) (fun _ _ => rfl)))) pss_nil)
      (pss_one (ps_ret (pe_lst (pa_cons (pe_callB (call_max2 rfl) (by rfl) B.max (by decide +kernel) (pa_cons pe_int (pa_cons (pe_op op_sub (pe_callB call_abs (by rfl) B.abs (by decide +kernel) (pa_cons (pv 2) pa_nil)) (pe_op op_pow pe_int pe_int)) pa_nil)))
        (pa_cons (pe_op op_add (pe_op op_mod (pe_op op_mul (pe_callTy call_int1 (by rfl) B.int (by decide +kernel) (pa_cons (pe_op op_add (pe_op op_mod (pe_callTy call_int1 (by rfl) B.int (by decide +kernel) (pa_cons (pe_callB call_abs (by rfl) B.abs (by decide +kernel) (pa_cons (pv 2) pa_nil)) pa_nil)) pe_int) pe_int) pa_nil)) (pe_op op_pow (pe_op op_add (pe_op op_mul pe_int (pv 1)) pe_int) pe_int)) pe_int) pe_int) pa_nil)))))), ?_⟩
    have fin : ∀ (i : Int) (D : Ends) (σ : St), D.rt = Q → σ[1]? = some (some (V.int k)) → σ[2]? = some (some (V.int i)) → (tRet (tLst (tCons (tCB (fun xs H Q => ∃ i j, xs = [V.int i, V.int j] ∧ Q (V.int (if j > i then j else i)) H) (tCons (tC (V.int 0)) (tCons (tOp (rI0 fun i j => .int (i - j)) (tCB (fun xs H Q => ∃ i, xs = [V.int i] ∧ Q (V.int (if i < 0 then -i else i)) H) (tCons (tVar 2) tNil)) (tOp (rI CPow fun i j => .int (i ^ j.toNat)) (tC (V.int 10)) (tC (V.int 18)))) tNil))) (tCons (tOp (rI0 fun i j => .int (i + j)) (tOp (rI (fun _ j => 0 < j) fun i j => .int (i % j)) (tOp (rI CMul fun i j => .int (i * j)) (tCB (fun xs H Q => (∃ i, xs = [V.int i] ∧ Q (V.int i) H) ∨ ∃ k, xs = [V.bl k] ∧ Q (V.int (if k = true then 1 else 0)) H) (tCons (tOp (rI0 fun i j => .int (i + j)) (tOp (rI (fun _ j => 0 < j) fun i j => .int (i % j)) (tCB (fun xs H Q => (∃ i, xs = [V.int i] ∧ Q (V.int i) H) ∨ ∃ k, xs = [V.bl k] ∧ Q (V.int (if k = true then 1 else 0)) H) (tCons (tCB (fun xs H Q => ∃ i, xs = [V.int i] ∧ Q (V.int (if i < 0 then -i else i)) H) (tCons (tVar 2) tNil)) tNil)) (tC (V.int 2147483549))) (tC (V.int 1))) tNil)) (tOp (rI CPow fun i j => .int (i ^ j.toNat)) (tOp (rI0 fun i j => .int (i + j)) (tOp (rI CMul fun i j => .int (i * j)) (tC (V.int 2)) (tVar 1)) (tC (V.int 3))) (tC (V.int 3)))) (tC (V.int 2147483543))) (tC (V.int 1))) tNil)))) D σ H := by
      intro i D σ hD e1 e2
      have p0 : 0 ≤ (if i < 0 then -i else i) % 2147483549 := Int.emod_nonneg _ (by decide)
      have p1 : (if i < 0 then -i else i) % 2147483549 < 2147483549 := Int.emod_lt_of_pos _ (by decide)
      refine ⟨_, e2, _, rfl, _, _, rfl, rfl, ⟨by decide, by decide, by decide⟩, _, _, rfl, rfl, _, _, rfl, ?_⟩
      refine ⟨_, e2, _, rfl, .inl ⟨_, rfl, _, _, rfl, rfl, (by show (0 : Int) < 2147483549; decide), _, _, rfl, rfl, .inl ⟨_, rfl, ?_⟩⟩⟩
      refine ⟨_, e1, _, _, rfl, rfl, .inl ⟨by decide, by decide⟩, _, _, rfl, rfl, _, _, rfl, rfl, ⟨by decide, by decide, by omega⟩, _, _, rfl, rfl, .inl ⟨by omega, by omega⟩, _, _, rfl, rfl, (by show (0 : Int) < 2147483543; decide), _, _, rfl, rfl, ?_⟩
      refine ⟨(by show 2 ≤ sizeLine; decide), fun p hp => ?_⟩
      rw [hD]
      exact hQ _ _ p (rng_nums k i) hp
    refine ⟨_, rfl, _, _, rfl, rfl, .inl ⟨by decide, by decide⟩, _, _, rfl, rfl, ?_⟩
    refine ⟨_, rfl, _, rfl, a, _, rfl, .inl hS, _, _, rfl, rfl, _, rfl, ?_⟩
    refine ite2 (fun hk => ?_) (fun hk => ?_)
    · have hk' : k < ((ns.map V.int).length : Int) := of_decide_eq_true hk
      have hlt : k.toNat < ns.length := by rw [List.length_map] at hk'; omega
      have e : atI (ns.map V.int) k = some (V.int ns[k.toNat]) := by
        have := atI_nat (xs := ns.map V.int) (j := k.toNat) (v := V.int ns[k.toNat]) (by simp [hlt])
        rw [Int.toNat_of_nonneg k0] at this
        exact this
      refine ⟨_, rfl, _, rfl, a, _, _, _, rfl, rfl, hS, e, ?_⟩
      exact fin _ _ _ rfl rfl rfl
    · exact fin _ _ _ rfl rfl rfl
end
end SS

set_option maxRecDepth 100000
set_option maxHeartbeats 4000000
namespace SS
open PySem L2 SR
/-- a def of the top that may be called: where it stands, what it promises -/
structure Cal (P : Program) (w : World) (K : PySem.W.Frag) (mg : Str → Option Value) (base : Heap) (x : Str) (k : Nat) (ps : List Str) (sp : Sp) : Prop where
  ex : ∃ f fd, FnOk P w K mg base CX0 k f fd ps sp ∧ mg x = some (.ref f) ∧ PySem.W.keepIn K (.ref f) = true ∧ Binds K fd ps []
theorem pe_cal {X : Cx} {x : Str} {k : Nat} {ps : List Str} {sp : Sp} {e : Expr} {es : List Expr} {t : TA} {p pos : Pos} (C : Cal X.prog X.w X.K X.mg X.base x k ps sp) (hr : Room k X.A) (ha : PA X (e :: es) t) (hg : Gl X x := by rfl) (hdb : (x == ("__debug__" : Str)) = false := by decide)
    (he : starEach (e :: es) X.env = (false, eval e X.env) :: starEach es X.env := by rfl) (hpl : (backTo pos (starEach es X.env)).any (·.1) = false := by rfl) : PE X (.Call (.Name x p) (e :: es) [] pos) (tCall sp [] E0 t) := by
  obtain ⟨f, fd, F, m, kp, b⟩ := C.ex
  exact pe_call F hr hg m kp b .nil pass0 ha hdb he hpl
theorem same_new {H : Hp} {p : Addr} {o : HO} (h : H p = none) : Same H (upd H p o) := fun a u e => by
  rw [upd_ne (ne_of_none e h)]
  exact e
theorem same_upd {H H' : Hp} {p : Addr} {o : HO} (e : Same H H') (h : H p = none) : Same H (upd H' p o) := fun a u ha => by
  rw [upd_ne (ne_of_none ha h)]
  exact e a u ha
theorem seqIx {d : Int} {n : Nat} (h0 : 0 ≤ d) (h1 : d < (n : Int)) : seqIndex? d n = some d.toNat := by
  unfold seqIndex?
  have e : (if d < 0 then d + (n : Int) else d) = d := if_neg (by omega)
  simp only [e, h0, h1, decide_true, Bool.and_self, if_true]
theorem map_eraseIdx {α β : Type} (f : α → β) : ∀ (l : List α) (k : Nat), (l.map f).eraseIdx k = (l.eraseIdx k).map f
  | [], _ => rfl
  | _ :: _, 0 => rfl
  | x :: l, k + 1 => by
    show f x :: (l.map f).eraseIdx k = f x :: (l.eraseIdx k).map f
    rw [map_eraseIdx f l k]
section
variable {P : Program} {w : World} {K : PySem.W.Frag} {mg : Str → Option Value} {base : Heap}
/-! ### the drawing list, made -/
def spRng (K : PySem.W.Frag) : Sp := fun vs H Q _ => ∃ (a : Addr) (k : Int) (ns : List Int), vs = [.ref a, .int k] ∧ SqL K H a (ns.map V.int) ∧ 0 ≤ k ∧ k < 1000 ∧
  ∀ (p : Addr) (H' : Hp), H p = none → Same H H' → H' p = some (rngO p) → Q (.ref p) H'
theorem ok_rng {f : Addr} {fd : FuncData} {k : Nat} {ps : List Str} (F : FnOk P w K mg base CX0 k f fd ps (spRng1 K)) (hps : ps.length = 2) : FnOk P w K mg base CX0 k f fd ps (spRng K) := by
  refine ⟨fun vs H Q E h => ?_, fun A outer s H args us vs Q E hr e0 hb hv hs => ?_⟩
  · obtain ⟨a, k, ns, rfl, _⟩ := h
    exact hps.symm
  · obtain ⟨a, k, ns, rfl, hS, k0, k1, hQ⟩ := hs
    refine codeAny_mono (F.run A outer s _ args us _ (fun v H' => ∃ x y p, v = .ref p ∧ RngOk x y ∧ H p = none ∧ H' = upd H p (.lst [.int x, .int y])) E hr e0 hb hv
      ⟨a, k, ns, rfl, hS, k0, k1, fun x y p z hp => ⟨x, y, p, rfl, z, hp, rfl⟩⟩) fun res s' hres => ?_
    unfold CR at hres ⊢
    split at hres
    · obtain ⟨v, H', os, bare, un, hok, rv, x, y, p, rfl, z, hp, rfl⟩ := hres
      have hpl : upd H p (.lst [.int x, .int y]) p = some (.lst [.int x, .int y]) := upd_same
      have eq : upd (upd H p (.lst [.int x, .int y])) p (rngO p) = upd H p (rngO p) := upd_upd
      refine ⟨.ref p, upd H p (rngO p), os, bare, ?_, ?_, rv, hQ p _ hp (same_new hp) upd_same⟩
      · refine ⟨un.keep, un.slot, fun c o q n hx => ?_, un.there, fun c xs q => ?_, fun c o u q => ?_, fun c ps q => ?_⟩
        · have n' := un.free c o q n hx
          have nc : c ≠ p := fun e => by rw [e, hpl] at n'; cases n'
          rw [upd_ne nc]; exact n
        · rw [upd_ne (ne_of_none q hp)]; exact q
        · rw [upd_ne (ne_of_none q hp)]; exact q
        · exact ⟨#[], by rw [upd_ne (ne_of_none q hp), q]; simp⟩
      · rw [← eq]
        exact hok_swap hok hpl (fun _ => nofun) (fun _ => nofun) (rngO_ok z (hok p _ hpl) _)
    · exact hres
    · exact hres
/-! ### _law_choice -/
abbrev sChoice : Stmt := top 37
theorem scChoice : FnScope ["_law_rng_here", "_law_some"] ["_law_rng_here", "_law_some"] (defScope sChoice) := ⟨rfl, rfl, rfl, by decide +kernel, rfl, by decide +kernel, by decide +kernel⟩
def spChoice (K : PySem.W.Frag) : Sp := fun vs H Q _ => (∃ (r l : Addr) (xs : List V), vs = [.ref r, .ref l] ∧ H r = some (rngO r) ∧ SqL K H l xs ∧ 0 < xs.length ∧ xs.length < 1000 ∧ ∀ x H', x ∈ xs → Same H H' → Q x H') ∨
  (∃ (r : Addr) (z : Str), vs = [.ref r, .str z] ∧ H r = some (rngO r) ∧ 0 < z.cps.toList.length ∧ z.cps.toList.length < 1000 ∧ ∀ c H', c ∈ z.cps.toList → Same H H' → Q (ltV c) H')
theorem atI_in {α : Type} {xs : List α} {d : Int} (h0 : 0 ≤ d) (h1 : d < (xs.length : Int)) : ∃ x, atI xs d = some x ∧ x ∈ xs := by
  have hl : d.toNat < xs.length := by omega
  refine ⟨xs[d.toNat], ?_, List.getElem_mem hl⟩
  have := atI_nat (xs := xs) (j := d.toNat) (v := xs[d.toNat]) (by simp [hl])
  rwa [Int.toNat_of_nonneg h0] at this
theorem ok_choice {f : Addr} {fd : FuncData} (F : Fun K "_law_choice" "_law_choice" sChoice f fd) (B : Bl mg) (D : Cal P w K mg base "_law_draw" 1 ["_law_rng_here", "_law_many"] spDraw) : FnOk P w K mg base CX0 2 f fd ["_law_rng_here", "_law_some"] (spChoice K) := by
  refine F.ok scChoice (fun vs H Q E h => ?_) (fun cdv A outer s H vs Q E hr h => ?_)
  · rcases h with ⟨r, l, xs, rfl, _⟩ | ⟨r, z, rfl, _⟩ <;> rfl
  · refine ⟨_, pss_one (ps_ret (pe_ix ix_seq (pv 1) (pe_cal D hr (pa_cons (pv 0) (pa_cons (pe_callB call_len (by rfl) B.len boot_len (pa_cons (pv 1) pa_nil)) pa_nil))) (fun _ _ => rfl))), ?_⟩
    rcases h with ⟨r, l, xs, rfl, hR, hS, h0, h1, k⟩ | ⟨r, z, rfl, hR, h0, h1, k⟩
    · refine ⟨_, rfl, _, rfl, _, rfl, _, xs.length, rfl, .inl ⟨xs, hS, rfl⟩, r, _, rfl, by omega, by omega, hR, fun d H' d0 d1 e => ?_⟩
      obtain ⟨x, hx, hm⟩ := atI_in d0 d1
      exact .inl ⟨l, xs, d, x, rfl, rfl, e.seq hS, hx, k x H' hm e⟩
    · have hz : z.length ≤ sizeLine := Nat.le_trans (Nat.le_of_lt (show z.length < 1000 by simpa [Str.length] using h1)) (by decide)
      refine ⟨_, rfl, _, rfl, _, rfl, _, z.length, rfl, ⟨hz, rfl⟩, r, _, rfl, by have : z.length = z.cps.toList.length := by simp [Str.length]
                                                                                 omega, by have : z.length = z.cps.toList.length := by simp [Str.length]
                                                                                           omega, hR, fun d H' d0 d1 e => ?_⟩
      obtain ⟨c, hc, hm⟩ := atI_in (xs := z.cps.toList) d0 (by have : z.length = z.cps.toList.length := by simp [Str.length]
                                                               omega)
      exact .inr (.inr ⟨z, d, c, rfl, rfl, hz, hc, k c H' hm e⟩)
end
end SS

set_option maxRecDepth 100000
set_option maxHeartbeats 4000000
namespace SS
open PySem L2 SR
abbrev ABC : Str := "abcdefghijklmnopqrstuvwxyz"
/-- len of a list or a tuple -/
def rLenQ (K : PySem.W.Frag) : List V → Hp → VK → Prop := fun xs H Q => ∃ p ys, xs = [.ref p] ∧ (SqL K H p ys ∨ SqT K H p ys) ∧ Q (.int ys.length) H
theorem abc_codes : ABC.cps.toList = (List.range 26).map (· + 97) := by decide +kernel
section
variable {P : Program} {w : World} {K : PySem.W.Frag} {mg : Str → Option Value} {base : Heap}
/-! ### _law_letters -/
abbrev sLetters : Stmt := top 38
abbrev nLetters : List Str := ["_law_rng_here", "_law_many", "_law_left", "_law_k"]
theorem scLetters : FnScope nLetters ["_law_rng_here", "_law_many"] (defScope sLetters) := ⟨rfl, rfl, rfl, by decide +kernel, rfl, by decide +kernel, by decide +kernel⟩
def spLetters : Sp := fun vs H Q _ => ∃ (r : Addr) (m : Nat), vs = [.ref r, .int m] ∧ m ≤ 26 ∧ H r = some (rngO r) ∧
  ∀ (cs : List Nat) (p : Addr) (H' : Hp), cs.length = m → cs.Nodup → (∀ c ∈ cs, 97 ≤ c ∧ c < 123) → H p = none → Same H H' → H' p = some (.lst (cs.map ltV)) → Q (.ref p) H'
theorem ok_letters {f : Addr} {fd : FuncData} (F : Fun K "_law_letters" "_law_letters" sLetters f fd) (B : Bl mg) (D : Cal P w K mg base "_law_draw" 1 ["_law_rng_here", "_law_many"] spDraw) : FnOk P w K mg base CX0 2 f fd ["_law_rng_here", "_law_many"] spLetters := by
  refine F.ok scLetters (fun vs H Q E h => ?_) (fun cdv A outer s H vs Q E hr h => ?_)
  · obtain ⟨r, m, rfl, _⟩ := h
    rfl
  · obtain ⟨r, m, rfl, hm, hR, k⟩ := h
    refine ⟨_, pss_cons (ps_set (i := 2) scLetters.nd rfl (.inr rfl) (pe_callTy (call_list_txt rfl) (by rfl) B.list (by decide +kernel) (pa_cons pe_str pa_nil)))
      (pss_one (ps_ret (pe_lc (own := [("_law_k", 3)]) (g := gName 3) (tt := tYes) (te := tBM K "list" rPopAt (tVar 2) (tCons (tCall spDraw [] E0 (tCons (tVar 0) (tCons (tCB (rLenQ K) (tCons (tVar 2) tNil)) tNil))) tNil)) rfl scLetters.nd (pi_range1 (by rfl) B.range (pa_cons (pv 1) pa_nil)) (blkOk_by (own := [("_law_k", 3)]) (N := nLetters) (sc := defScope sLetters) (by decide +kernel))
        (fun _ _ _ _ _ => pg_name (i := 3) scLetters.nd rfl (.inl rfl)) (fun _ _ _ _ _ => pts_nil)
        (fun _ _ _ _ _ => pe_bm PySem.F.plainAttrs_list PySem.F.slot_list_pop PySem.F.type_list_pop mt_popAt (pv 2) (pa_cons (pe_cal D hr (pa_cons (pv 0) (pa_cons (pe_callB call_len_seq (by rfl) B.len boot_len (pa_cons (pv 2) pa_nil)) pa_nil))) pa_nil))))), ?_⟩
    refine ⟨_, rfl, (by decide +kernel), fun l hl => ?_⟩
    have nrl : r ≠ l := ne_of_none hR hl
    rw [show (Str.ofString "abcdefghijklmnopqrstuvwxyz").cps.toList = (List.range 26).map (· + 97) from abc_codes]
    refine ⟨_, rfl, _, rfl, (by omega), (by omega), fun D hD => lc_range (lo := 0) (n := (m : Int).toNat) (fun i H' => Same H H' ∧ ∃ got left : List Nat, H' l = some (.lst (left.map ltV)) ∧ H' D = some (.lst (got.map ltV)) ∧ (got ++ left).Perm ((List.range 26).map (· + 97)) ∧ got.length = i) ?_ ?_ ?_⟩
    · have nlD : l ≠ D := ne_of_none upd_same hD
      have hDH : H D = none := by rw [upd_ne (Ne.symm nlD)] at hD; exact hD
      exact ⟨same_upd (same_new hl) hDH, [], (List.range 26).map (· + 97), by rw [upd_ne nlD, upd_same], upd_same, List.Perm.refl _, rfl⟩
    · rintro i H3 hi ⟨e, got, left, h1, h2, hp, hg⟩
      have nlD : l ≠ D := ne_of_none upd_same hD
      have hDH : H D = none := by rw [upd_ne (Ne.symm nlD)] at hD; exact hD
      have hlen : got.length + left.length = 26 := by
        have := hp.length_eq
        simpa using this
      refine ⟨rfl, _, rfl, .inl ⟨rfl, _, SqL.of h1⟩, _, rfl, _, rfl, l, _, rfl, .inl (SqL.of h1), r, _, rfl, (by simp only [List.length_map]; omega), (by simp only [List.length_map]; omega), e _ _ hR, fun d H4 d0 d1 e4 => ?_⟩
      have hd : d.toNat < left.length := by simp only [List.length_map] at d1; omega
      refine ⟨l, _, d, d.toNat, ltV left[d.toNat], rfl, rfl, e4 _ _ h1, (by omega), (by simp only [List.length_map] at d1; omega), ?_, (by simp [hd]), got.map ltV, ?_, ?_, ?_⟩
      · simp only [List.length_map] at d1 ⊢
        exact seqIx d0 d1
      · rw [upd_ne (Ne.symm nlD)]; exact e4 _ _ h2
      · rw [List.length_map, sizeLine_eq]; omega
      · refine ⟨same_upd (same_upd (e.trans e4) hl) hDH, got ++ [left[d.toNat]], left.eraseIdx d.toNat, ?_, ?_, ?_, ?_⟩
        · rw [upd_ne nlD, upd_same]
          exact congrArg (fun z => some (HO.lst z)) (map_eraseIdx ltV left d.toNat)
        · rw [upd_same, List.map_append]; rfl
        · refine List.Perm.trans ?_ hp
          rw [List.append_assoc]
          exact List.Perm.append_left got (erase_perm _ _ _ (List.getElem?_eq_getElem hd))
        · rw [List.length_append, hg]; rfl
    · rintro H3 ⟨e, got, left, h1, h2, hp, hg⟩
      have nlD : l ≠ D := ne_of_none upd_same hD
      have hDH : H D = none := by rw [upd_ne (Ne.symm nlD)] at hD; exact hD
      have hnd : (got ++ left).Nodup := hp.nodup_iff.mpr (by decide +kernel)
      refine k got D H3 (by rw [hg]; exact Int.toNat_natCast m) (List.nodup_append.mp hnd).1 (fun c hc => ?_) hDH e h2
      obtain ⟨j, hj, e'⟩ := List.mem_map.mp (hp.mem_iff.mp (List.mem_append_left _ hc))
      have := List.mem_range.mp hj
      omega
end
end SS

set_option maxRecDepth 100000
set_option maxHeartbeats 4000000
namespace SS
open PySem L2 SR TL
/-! ### texts by their codes -/
def txt (cs : List Nat) : Str := ⟨cs.toArray⟩
theorem txt_codes (cs : List Nat) : (txt cs).cps.toList = cs := by simp [txt]
theorem txt_of (z : Str) : z = txt z.cps.toList := by cases z; simp [txt]
theorem txt_inj {a b : List Nat} (h : txt a = txt b) : a = b := by
  have := congrArg (fun z : Str => z.cps.toList) h
  simpa [txt] using this
theorem txt_len (cs : List Nat) : (txt cs).length = cs.length := by simp [txt, Str.length]
theorem txt_one (c : Nat) : lt c = txt [c] := rfl
theorem join_lt (cs : List Nat) : Txt.join "" (cs.map lt) = txt cs := by
  rw [join_eq]
  have key : ∀ cs : List Nat, tl (Str.join "" (cs.map lt)) = cs := by
    intro cs
    rw [tl_join]
    induction cs with
    | nil => rfl
    | cons c cs ih =>
      cases cs with
      | nil => rfl
      | cons d cs =>
        show tl (lt c) ++ (tl ("" : Str) ++ joinL (tl ("" : Str)) ((d :: cs).map lt |>.map tl)) = c :: d :: cs
        rw [ih]
        rfl
  have h := key cs
  rw [txt_of (Str.join "" (cs.map lt))]
  exact congrArg txt h
theorem sorted_lt : ∀ cs : List Nat, PyProof.Rows.sortedS (cs.map lt) = true → cs.Pairwise (· ≤ ·)
  | [], _ => List.Pairwise.nil
  | [c], _ => List.pairwise_singleton _ _
  | c :: d :: cs, h => by
    have h' : (!PySem.Spec.ltCps [d] [c] && PyProof.Rows.risingS (lt d) (cs.map lt)) = true := h
    rw [Bool.and_eq_true] at h'
    have h1 : c ≤ d := by
      have := h'.1
      simp [PySem.Spec.ltCps] at this
      omega
    have ih := sorted_lt (d :: cs) h'.2
    refine List.pairwise_cons.mpr ⟨fun x hx => ?_, ih⟩
    rcases List.mem_cons.mp hx with e | e
    · rw [e]; exact h1
    · exact Nat.le_trans h1 ((List.pairwise_cons.mp ih).1 x e)
theorem lt_of_nodup : ∀ l : List Nat, l.Pairwise (· ≤ ·) → l.Nodup → l.Pairwise (· < ·)
  | [], _, _ => List.Pairwise.nil
  | x :: l, h, d => by
    obtain ⟨h1, h2⟩ := List.pairwise_cons.mp h
    obtain ⟨d1, d2⟩ := List.nodup_cons.mp d
    refine List.pairwise_cons.mpr ⟨fun y hy => ?_, lt_of_nodup l h2 d2⟩
    exact Nat.lt_of_le_of_ne (h1 y hy) fun z => d1 (z ▸ hy)
theorem perm_lt {ys : List Str} {cs : List Nat} (p : ys.Perm (cs.map lt)) : ∃ ds : List Nat, ys = ds.map lt ∧ ds.Perm cs := by
  have hall : ∀ y ∈ ys, ∃ c, y = lt c := fun y hy => by
    obtain ⟨c, _, e⟩ := List.mem_map.mp (p.mem_iff.mp hy)
    exact ⟨c, e.symm⟩
  have ex : ∀ ys : List Str, (∀ y ∈ ys, ∃ c, y = lt c) → ∃ ds : List Nat, ys = ds.map lt := by
    intro ys
    induction ys with
    | nil => intro _; exact ⟨[], rfl⟩
    | cons y ys ih =>
      intro h
      obtain ⟨c, rfl⟩ := h y List.mem_cons_self
      obtain ⟨ds, rfl⟩ := ih fun u hu => h u (List.mem_cons_of_mem _ hu)
      exact ⟨c :: ds, rfl⟩
  obtain ⟨ds, rfl⟩ := ex ys hall
  refine ⟨ds, rfl, ?_⟩
  have q := p.map (fun z : Str => z.cps.toList.headD 0)
  rw [List.map_map, List.map_map] at q
  have e : ∀ u : List Nat, u.map ((fun z : Str => z.cps.toList.headD 0) ∘ lt) = u := fun u => by
    have : ((fun z : Str => z.cps.toList.headD 0) ∘ lt) = (id : Nat → Nat) := rfl
    rw [this, List.map_id]
  rw [e, e] at q
  exact q
/-- one to four ascending letters -/
structure Abc (cs : List Nat) : Prop where
  ris : cs.Pairwise (· < ·)
  abc : ∀ c ∈ cs, 97 ≤ c ∧ c < 123
  one : 1 ≤ cs.length
  four : cs.length ≤ 4
theorem ris_nodup {l : List Nat} (h : l.Pairwise (· < ·)) : l.Nodup := h.imp fun h e => by omega
section
variable {P : Program} {w : World} {K : PySem.W.Frag} {mg : Str → Option Value} {base : Heap}
end
end SS

set_option maxRecDepth 100000
set_option maxHeartbeats 4000000
namespace SS
open PySem L2 SR TL
/-- all but D stays -/
def SameB (D : Addr) (H H' : Hp) : Prop := ∀ a o, a ≠ D → H a = some o → H' a = some o
theorem Same.b {D : Addr} {H H' : Hp} (e : Same H H') : SameB D H H' := fun a o _ h => e a o h
theorem SameB.upd {D : Addr} {H : Hp} {o : HO} : SameB D H (upd H D o) := fun a u ha h => by rw [upd_ne ha]; exact h
/-- a comprehension that changes nothing but its own list D: S tells what is gathered -/
theorem lc_S {J : It} {n : Nat} {G : Hp → Prop} {Y : Nat → Hp → V → Hp → Prop} (w : Walk J n G Y) {g : TG} {tt : TT} {te : TE} {vs : List Nat} {σ : St} {H1 : Hp} {D : Addr} {Qd : Hp → Prop} (hD : H1 D = none) (hn : n ≤ 1000000)
    (S : Nat → List V → Hp → Prop) (hS : ∀ i acc acc' H H', H D = some (.lst acc') → SameB D H H' → S i acc H → S i acc H') (h0 : S 0 [] (upd H1 D (.lst []))) (hG : ∀ H, Same H1 H → G H)
    (hs : ∀ i x H H' acc (Qt : V → Hp → Prop) (Qf : Hp → Prop), i < n → Same H1 H → H D = some (.lst acc) → S i acc H → Y i H x H' → (∀ y H4, Same H H4 → S (i + 1) (acc ++ [y]) H4 → Qt y H4) → (∀ H3, Same H H3 → S (i + 1) acc H3 → Qf H3) →
      g x (wipe σ vs) H' fun σ2 H2 => wipe σ2 vs = wipe σ vs ∧ tt σ2 H2 fun b H3 => if b = true then te σ2 H3 Qt else Qf H3)
    (hd : ∀ H acc, Same H1 H → H D = some (.lst acc) → S n acc H → Qd H) :
    ∃ W : Nat → Nat → Hp → Prop, (∃ m, W 0 m (upd H1 D (.lst []))) ∧ ∀ i m H, W i m H →
      (J.stop i H ∧ Qd H) ∨ (J.go i H ∧ ∃ Nx : Hp → Prop, (∀ H', Nx H' → ∃ m', m' < m ∧ W (i + 1) m' H') ∧ ∀ x H', J.yld i H x H' → g x (wipe σ vs) H' fun σ2 H2 => wipe σ2 vs = wipe σ vs ∧ tt σ2 H2 fun b H3 =>
        if b = true then te σ2 H3 fun y H4 => ∃ acc, H4 D = some (.lst acc) ∧ acc.length < sizeLine ∧ Nx (upd H4 D (.lst (acc ++ [y]))) else Nx H3) := by
  refine lc_it w (fun i H => Same H1 H ∧ ∃ acc, H D = some (.lst acc) ∧ acc.length ≤ i ∧ S i acc H) ⟨same_new hD, [], upd_same, Nat.le_refl _, h0⟩ (fun i H _ p => hG H p.1) (fun i x H H' hi p y => ?_) (fun H p => ?_)
  · obtain ⟨e, acc, hd', hl, s⟩ := p
    refine hs i x H H' acc _ _ hi e hd' s y (fun z H4 e4 s4 => ⟨acc, e4 _ _ hd', by rw [sizeLine_eq]; omega, same_upd (e.trans e4) hD, acc ++ [z], upd_same, by rw [List.length_append]; exact Nat.succ_le_succ hl, ?_⟩) (fun H3 e3 s3 => ⟨e.trans e3, acc, e3 _ _ hd', Nat.le_succ_of_le hl, s3⟩)
    exact hS _ _ _ _ _ (e4 _ _ hd') SameB.upd s4
  · obtain ⟨e, acc, hd', _, s⟩ := p
    exact hd H acc e hd' s
theorem ne_lst {H : Hp} {D q : Addr} {acc : List V} {o : HO} (hd : H D = some (.lst acc)) (h : H q = some o) (n : ∀ xs, o ≠ .lst xs) : q ≠ D := fun e => by
  rw [e, hd] at h
  exact n acc (Option.some.inj h).symm
theorem Paired.mono {α β : Type} {R R' : α → β → Prop} : ∀ {xs : List α} {ys : List β}, Paired R xs ys → (∀ a b, R a b → R' a b) → Paired R' xs ys
  | _, _, .nil, _ => .nil
  | _, _, .cons r t, f => .cons (f _ _ r) (Paired.mono t f)
theorem mergeK_nil {kvs : List (Key × V)} (nd : (kvs.map (·.1)).Nodup) : mergeK [] kvs = kvs := by
  have key : ∀ (more acc : List (Key × V)), ((acc ++ more).map (·.1)).Nodup → mergeK acc more = acc ++ more := by
    intro more
    induction more with
    | nil => intro acc _; exact (List.append_nil acc).symm
    | cons p more ih =>
      intro acc nd
      have hv : valV acc p.1 = none := by
        unfold valV
        rw [Option.map_eq_none_iff, List.find?_eq_none]
        intro q hq hk
        have e : q.1 = p.1 := by simpa using hk
        rw [List.map_append, List.nodup_append] at nd
        exact nd.2.2 q.1 (List.mem_map.mpr ⟨q, hq, rfl⟩) p.1 (by simp) e
      have e1 : mergeK acc (p :: more) = mergeK (acc ++ [p]) more := by
        show mergeK (putK acc p.1 p.2) more = _
        rw [putK_new _ hv]
      rw [e1, ih (acc ++ [p]) (by rwa [List.append_assoc])]
      rw [List.append_assoc]; rfl
  exact key kvs [] nd
/-! ### machines -/
def rowK (cs : List Nat) (row : List Int) : List (Key × V) := (cs.zip row).map fun p => (Sum.inr (lt p.1), V.int p.2)
theorem rowK_keys {cs : List Nat} {row : List Int} (h : row.length = cs.length) : (rowK cs row).map (·.1) = cs.map fun c => (Sum.inr (lt c) : Key) := by
  unfold rowK
  rw [List.map_map]
  have : (cs.zip row).map ((fun x : Key × V => x.1) ∘ fun p : Nat × Int => ((Sum.inr (lt p.1) : Key), V.int p.2)) = ((cs.zip row).map Prod.fst).map fun c => (Sum.inr (lt c) : Key) := by
    rw [List.map_map]; rfl
  rw [this, List.map_fst_zip (by omega)]
theorem lt_inj {a b : Nat} (h : lt a = lt b) : a = b := by
  have := congrArg (fun z : Str => z.cps.toList) h
  simpa [lt] using this
theorem rowK_nodup {cs : List Nat} {row : List Int} (h : row.length = cs.length) (nd : cs.Nodup) : ((rowK cs row).map (·.1)).Nodup := by
  rw [rowK_keys h]
  exact List.Pairwise.map _ (fun a b hab e => hab (lt_inj (Sum.inr.inj e))) nd
def RowAt (H : Hp) (cs : List Nat) (q : Addr) (row : List Int) : Prop := H q = some (.dK (rowK cs row))
structure WfM (cs : List Nat) (rows : List (List Int)) (ends : List Int) : Prop where
  one : 1 ≤ rows.length
  five : rows.length ≤ 40
  row : ∀ row ∈ rows, row.length = cs.length ∧ ∀ g ∈ row, 0 ≤ g ∧ g < (rows.length : Int)
  nd : ends.Nodup
  fin : ∀ e ∈ ends, 0 ≤ e ∧ e < (rows.length : Int)
structure Mach (H : Hp) (cs : List Nat) (t : Addr) (rows : List (List Int)) (ends : List Int) : Prop where
  ex : ∃ (pr pe : Addr) (qs : List Addr), H t = some (.tup [.str (txt cs), .ref pr, .ref pe]) ∧ H pr = some (.lst (qs.map .ref)) ∧ Paired (RowAt H cs) qs rows ∧ H pe = some (.lst (ends.map .int))
theorem Mach.mono {H H' : Hp} {cs : List Nat} {t : Addr} {rows : List (List Int)} {ends : List Int} (e : Same H H') (m : Mach H cs t rows ends) : Mach H' cs t rows ends := by
  obtain ⟨pr, pe, qs, h1, h2, h3, h4⟩ := m.ex
  exact ⟨pr, pe, qs, e _ _ h1, e _ _ h2, Paired.mono h3 fun a b h => e _ _ h, e _ _ h4⟩
section
variable {P : Program} {w : World} {K : PySem.W.Frag} {mg : Str → Option Value} {base : Heap}
/-! ### _law_mixed -/
end
end SS

set_option maxRecDepth 100000
set_option maxHeartbeats 4000000
namespace SS
open PySem L2 SR TL
section
variable {P : Program} {w : World} {K : PySem.W.Frag} {mg : Str → Option Value} {base : Heap}
def PrAt (H : Hp) (t : Addr) (p : Nat × Int) : Prop := H t = some (.tup [ltV p.1, .int p.2])
/-- [(letter, e) for letter in abc]: new pairs -/
theorem row_lc {te : TE} {vs : List Nat} {σ : St} {H1 : Hp} {j : Nat} {cs : List Nat} {D : Addr} {Qd : Hp → Prop} {m : Int} (hD : H1 D = none) (hw : ∀ v, wipe ((wipe σ vs).set j v) vs = wipe σ vs) (hl : cs.length ≤ 1000)
    (hte : ∀ (i c : Nat) (H : Hp) (Qt : V → Hp → Prop), cs[i]? = some c → Same H1 H → (∀ g H4 T, 0 ≤ g → g < m → Same H H4 → H4 T = some (.tup [ltV c, .int g]) → Qt (.ref T) H4) → te ((wipe σ vs).set j (some (ltV c))) H Qt)
    (hfin : ∀ H ts gs, Same H1 H → H D = some (.lst (ts.map .ref)) → gs.length = cs.length → (∀ g ∈ gs, 0 ≤ g ∧ g < m) → Paired (PrAt H) ts (cs.zip gs) → Qd H) :
    ∃ W : Nat → Nat → Hp → Prop, (∃ m, W 0 m (upd H1 D (.lst []))) ∧ ∀ i m H, W i m H →
      ((Its (txt cs)).stop i H ∧ Qd H) ∨ ((Its (txt cs)).go i H ∧ ∃ Nx : Hp → Prop, (∀ H', Nx H' → ∃ m', m' < m ∧ W (i + 1) m' H') ∧ ∀ x H', (Its (txt cs)).yld i H x H' → (gName j) x (wipe σ vs) H' fun σ2 H2 => wipe σ2 vs = wipe σ vs ∧ tYes σ2 H2 fun b H3 =>
        if b = true then te σ2 H3 fun y H4 => ∃ acc, H4 D = some (.lst acc) ∧ acc.length < sizeLine ∧ Nx (upd H4 D (.lst (acc ++ [y]))) else Nx H3) := by
  have hz : (txt cs).cps.size = cs.length := by simp [txt]
  refine lc_S walk_str hD (by omega) (fun i acc H => ∃ ts gs, acc = ts.map .ref ∧ gs.length = i ∧ (∀ g ∈ gs, 0 ≤ g ∧ g < m) ∧ Paired (PrAt H) ts ((cs.take i).zip gs)) ?_ ?_ (fun _ _ => trivial) ?_ ?_
  · rintro i acc acc' H H' hd e ⟨ts, gs, h1, h2, h3, h4⟩
    exact ⟨ts, gs, h1, h2, h3, Paired.mono h4 fun a b h => e _ _ (ne_lst hd h fun _ => nofun) h⟩
  · exact ⟨[], [], rfl, rfl, (fun _ h => nomatch h), .nil⟩
  · rintro i x H H' acc Qt Qf hi e hd ⟨ts, gs, rfl, h2, h3, h4⟩ ⟨rfl, c, hc, rfl⟩ kt kf
    have hc' : cs[i]? = some c := by simpa [txt] using hc
    refine ⟨hw _, ?_⟩
    show te ((wipe σ vs).set j (some (ltV c))) H' Qt
    refine hte i c H' Qt hc' e fun g H4 T g0 g1 e4 hT => kt _ _ e4 ⟨ts ++ [T], gs ++ [g], by simp, by simp [h2], ?_, ?_⟩
    · intro g' hg'
      rcases List.mem_append.mp hg' with z | z
      · exact h3 g' z
      · rw [List.mem_singleton.mp z]; exact ⟨g0, g1⟩
    · have et : cs.take (i + 1) = cs.take i ++ [c] := by rw [List.take_add_one, hc']; rfl
      have hl' : (cs.take i).length = gs.length := by
        have : i < cs.length := (List.getElem?_eq_some_iff.mp hc').1
        rw [List.length_take, h2]; omega
      rw [et, List.zip_append hl']
      exact paired_snoc (Paired.mono h4 fun a b h => e4 _ _ h) hT
  · rintro H acc e hd ⟨ts, gs, rfl, h2, h3, h4⟩
    rw [hz] at h2 h4
    rw [List.take_length] at h4
    exact hfin H ts gs e hd h2 h3 h4
end
end SS

set_option maxRecDepth 100000
set_option maxHeartbeats 4000000
namespace SS
open PySem L2 SR TL
/-- dict of a list of pairs -/
def rDictP (K : PySem.W.Frag) : List V → Hp → VK → Prop := fun xs H Q => ∃ (a : Addr) (ps : List Addr) (kvs : List (Key × V)), xs = [.ref a] ∧ SqL K H a (ps.map V.ref) ∧ Paired (fun p kv => SqT K H p [kV kv.1, kv.2]) ps kvs ∧ ∀ p, H p = none → Q (.ref p) (upd H p (.dK (mergeK [] kvs)))
theorem pairs_of_row {K : PySem.W.Frag} {H : Hp} {ts : List Addr} {cs : List Nat} {gs : List Int} (hp : Paired (PrAt H) ts (cs.zip gs)) : Paired (fun p kv => SqT K H p [kV kv.1, kv.2]) ts (rowK cs gs) := by
  have key : ∀ {ts : List Addr} {ps : List (Nat × Int)}, Paired (PrAt H) ts ps → Paired (fun p kv => SqT K H p [kV kv.1, kv.2]) ts (ps.map fun p => ((Sum.inr (lt p.1) : Key), V.int p.2)) := by
    intro ts ps h
    induction h with
    | nil => exact .nil
    | cons r _ ih => exact .cons (SqT.of r) ih
  exact key hp
section
variable {P : Program} {w : World} {K : PySem.W.Frag} {mg : Str → Option Value} {base : Heap}
abbrev sClass : Stmt := top 39
abbrev nClass : List Str := ["_law_rng_here", "_law_cap", "_law_abc", "_law_many", "_law_rows", "_law_letter", "_law_spot_here"]
theorem scClass : FnScope nClass ["_law_rng_here", "_law_cap", "_law_abc"] (defScope sClass) := ⟨rfl, rfl, rfl, by decide +kernel, rfl, by decide +kernel, by decide +kernel⟩
def spClass : Sp := fun vs H Q _ => ∃ (r : Addr) (cap : Int) (cs : List Nat), vs = [.ref r, .int cap, .str (txt cs)] ∧ Abc cs ∧ 1 ≤ cap ∧ cap ≤ 5 ∧ H r = some (rngO r) ∧
  ∀ (t : Addr) (rows : List (List Int)) (ends : List Int) (H' : Hp), WfM cs rows ends → (rows.length : Int) ≤ cap → H t = none → Same H H' → Mach H' cs t rows ends → Q (.ref t) H'
theorem ok_class {f : Addr} {fd : FuncData} (F : Fun K "_law_class" "_law_class" sClass f fd) (B : Bl mg) (D : Cal P w K mg base "_law_draw" 1 ["_law_rng_here", "_law_many"] spDraw) : FnOk P w K mg base CX0 2 f fd ["_law_rng_here", "_law_cap", "_law_abc"] spClass := by
  refine F.ok scClass (fun vs H Q E h => ?_) (fun cdv A outer s H vs Q E hr h => ?_)
  · obtain ⟨r, cap, cs, rfl, _⟩ := h
    rfl
  · obtain ⟨r, cap, cs, rfl, ha, c1, c5, hR, k⟩ := h
    refine ⟨_, pss_cons (ps_if (pt_cmpR op_eq (pe_cal D hr (pa_cons (pv 0) (pa_cons pe_int pa_nil))) pe_int (nomark _))
        (pss_one (ps_ret (pe_tup (pa_cons (pv 2) (pa_cons (pe_lst (pa_cons (pe_callTy (call_dictP rfl) (by rfl) B.dict (by decide +kernel) (pa_cons (pe_lc (own := [("_law_letter", 5)]) (g := gName 5) (tt := tYes) (te := tTup (tCons (tVar 5) (tCons (tC (.int 0)) tNil))) rfl scClass.nd (pi_str (pv 2)) (blkOk_by (by kernel_rfl))
          (fun _ _ _ _ _ => pg_name (i := 5) scClass.nd rfl (.inl rfl)) (fun _ _ _ _ _ => pts_nil) (fun _ _ _ _ _ => pe_tup (pa_cons (pv 5) (pa_cons pe_int pa_nil)))) pa_nil)) pa_nil)) (pa_cons (pe_lst (pa_cons pe_int pa_nil)) pa_nil)))))) pss_nil)
      (pss_cons (ps_set (i := 3) scClass.nd rfl (.inr rfl) (pe_op op_add pe_int (pe_cal D hr (pa_cons (pv 0) (pa_cons (pv 1) pa_nil)))))
      (pss_cons (ps_setLc (i := 4) (own := [("_law_spot_here", 6)]) (g := gName 6) (tt := tYes) (te := tCB (rDictP K) (tCons (tLc (iStr (tVar 2)) (gName 5) tYes (tTup (tCons (tVar 5) (tCons (tCall spDraw [] E0 (tCons (tVar 0) (tCons (tVar 3) tNil))) tNil))) [5]) tNil)) rfl scClass.nd rfl rfl (sw_true rfl rfl rfl (by decide +kernel)) (pi_range1 (by rfl) B.range (pa_cons (pv 3) pa_nil)) (blkOk_by (by kernel_rfl))
          (fun _ _ _ _ _ => pg_name (i := 6) scClass.nd rfl (.inl rfl)) (fun _ _ _ _ _ => pts_nil)
          (fun _ _ _ _ _ => pe_callTy (call_dictP rfl) (by rfl) B.dict (by decide +kernel) (pa_cons (pe_lc (own := [("_law_letter", 5)]) (g := gName 5) (tt := tYes) (te := tTup (tCons (tVar 5) (tCons (tCall spDraw [] E0 (tCons (tVar 0) (tCons (tVar 3) tNil))) tNil))) rfl scClass.nd (pi_str (pv 2)) (blkOk_by (by kernel_rfl))
            (fun _ _ _ _ _ => pg_name (i := 5) scClass.nd rfl (.inl rfl)) (fun _ _ _ _ _ => pts_nil) (fun _ _ _ _ _ => pe_tup (pa_cons (pv 5) (pa_cons (pe_cal D hr (pa_cons (pv 0) (pa_cons (pv 3) pa_nil))) pa_nil)))) pa_nil)))
      (pss_one (ps_ret (pe_tup (pa_cons (pv 2) (pa_cons (pv 4) (pa_cons (pe_lc (own := [("_law_spot_here", 6)]) (g := gName 6) (tt := tTest (tOp rEq (tCall spDraw [] E0 (tCons (tVar 0) (tCons (tC (.int 2)) tNil))) (tC (.int 0)))) (te := tVar 6) rfl scClass.nd (pi_range1 (by rfl) B.range (pa_cons (pv 3) pa_nil)) (blkOk_by (by kernel_rfl))
          (fun _ _ _ _ _ => pg_name (i := 6) scClass.nd rfl (.inl rfl)) (fun _ _ _ _ _ => pts_one (pt_cmpR op_eq (pe_cal D hr (pa_cons (pv 0) (pa_cons pe_int pa_nil))) pe_int (nomark _))) (fun _ _ _ _ _ => pv 6)) pa_nil)))))))), ?_⟩
    have nd : cs.Nodup := ris_nodup ha.ris
    have hlc : cs.length ≤ 1000 := by have := ha.four; omega
    refine ⟨_, rfl, r, _, rfl, by decide, by decide, hR, fun d H1 d0 d1 e1 => ⟨rfl, _, rfl, ite2 (fun _ => ?_) (fun _ => ?_)⟩⟩
    · -- one state
      refine ⟨_, rfl, _, rfl, _, rfl, fun D1 hD1 => row_lc (m := 1) hD1 (fun _ => rfl) hlc (fun i c H2 Qt hc e2 kt => ?_) (fun H2 ts gs e2 hD hl hg hp => ?_)⟩
      · exact ⟨_, rfl, (by show 2 ≤ sizeLine; decide), fun T hT => kt 0 _ T (by decide) (by decide) (same_new hT) upd_same⟩
      · refine ⟨_, ts, rowK cs gs, rfl, SqL.of hD, pairs_of_row hp, fun q hq => ?_⟩
        rw [mergeK_nil (rowK_nodup hl nd)]
        refine ⟨by show 1 ≤ sizeLine; decide, fun pr hpr => ⟨by show 1 ≤ sizeLine; decide, fun pe hpe => ⟨by show 3 ≤ sizeLine; decide, fun t ht => ?_⟩⟩⟩
        have n1 : q ≠ pr := ne_of_none upd_same hpr
        have n2 : pr ≠ pe := ne_of_none upd_same hpe
        have n3 : q ≠ pe := ne_of_none (by rw [upd_ne n1]; exact upd_same) hpe
        have n4 : pe ≠ t := ne_of_none upd_same ht
        have n5 : pr ≠ t := ne_of_none (by rw [upd_ne n2]; exact upd_same) ht
        have n6 : q ≠ t := ne_of_none (by rw [upd_ne n3, upd_ne n1]; exact upd_same) ht
        have s4 := (((e1.trans e2).trans (same_new (o := .dK (rowK cs gs)) hq)).trans (same_new (o := .lst [.ref q]) hpr)).trans (same_new (o := .lst [.int 0]) hpe)
        refine k t [gs] [0] _ ⟨by simp, by simp, fun row hrow => ?_, by decide, fun e he => ?_⟩ (by show (1 : Int) ≤ cap; omega) (s4.free ht) (s4.trans (same_new ht)) ⟨pr, pe, [q], upd_same, ?_, .cons ?_ .nil, ?_⟩
        · rw [List.mem_singleton.mp hrow]
          exact ⟨hl, fun g h => by have := hg g h; simp; omega⟩
        · rw [List.mem_singleton.mp he]; simp
        · rw [upd_ne n5, upd_ne n2, upd_same]; rfl
        · show _ = _
          rw [upd_ne n6, upd_ne n3, upd_ne n1, upd_same]
        · rw [upd_ne n4, upd_same]; rfl
    · refine ⟨_, rfl, _, rfl, r, _, rfl, by omega, by omega, e1 _ _ hR, fun d2 H2 d20 d21 e2 => ⟨_, _, rfl, rfl, ?_⟩⟩
      have hm : ∃ m : Nat, 1 + d2 = (m : Int) ∧ 1 ≤ m ∧ m ≤ 5 ∧ (m : Int) ≤ cap := ⟨(1 + d2).toNat, by omega, by omega, by omega, by omega⟩
      obtain ⟨m, em, m1, m5, mc⟩ := hm
      simp only [em]
      have e12 := e1.trans e2
      refine ⟨_, rfl, _, rfl, by omega, by omega, fun Dr hDr => lc_S (walk_range (lo := 0) (n := (m : Int).toNat)) hDr (by omega) (fun i acc H3 => ∃ (qs : List Addr) (rows : List (List Int)), acc = qs.map .ref ∧ rows.length = i ∧ (∀ row ∈ rows, row.length = cs.length ∧ ∀ g ∈ row, 0 ≤ g ∧ g < (m : Int)) ∧ Paired (RowAt H3 cs) qs rows) ?_ ?_ (fun _ _ => trivial) ?_ ?_⟩
      · rintro i acc acc' H3 H4 hd e ⟨qs, rows, h1, h2, h3, h4⟩
        exact ⟨qs, rows, h1, h2, h3, Paired.mono h4 fun a b h => e _ _ (ne_lst hd h fun _ => nofun) h⟩
      · exact ⟨[], [], rfl, rfl, (fun _ h => nomatch h), .nil⟩
      · rintro i x H3 H3' acc Qt Qf hi e3 hd ⟨qs, rows, rfl, h2, h3, h4⟩ ⟨rfl, rfl⟩ kt kf
        refine ⟨rfl, _, rfl, _, rfl, fun D1 hD1 => row_lc (m := m) hD1 (fun _ => rfl) hlc (fun i c H5 Qt5 hc e5 kt5 => ?_) (fun H5 ts gs e5 hD hl hg hp => ?_)⟩
        · refine ⟨_, rfl, _, rfl, _, rfl, r, _, rfl, by omega, by omega, e5 _ _ (e3 _ _ (e12 _ _ hR)), fun g H6 g0 g1 e6 => ⟨by show 2 ≤ sizeLine; decide, fun T hT => ?_⟩⟩
          exact kt5 g _ T g0 g1 (e6.trans (same_new hT)) upd_same
        · refine ⟨_, ts, rowK cs gs, rfl, SqL.of hD, pairs_of_row hp, fun q hq => ?_⟩
          rw [mergeK_nil (rowK_nodup hl nd)]
          refine kt _ _ (e5.trans (same_new hq)) ⟨qs ++ [q], rows ++ [gs], by simp, by simp [h2], ?_, ?_⟩
          · intro row hrow
            rcases List.mem_append.mp hrow with z | z
            · exact h3 row z
            · rw [List.mem_singleton.mp z]; exact ⟨hl, hg⟩
          · exact paired_snoc (Paired.mono h4 fun a b h => (e5.trans (same_new hq)) _ _ h) upd_same
      · rintro H3 acc e3 hd ⟨qs, rows, rfl, h2, h3, h4⟩
        rw [Int.toNat_natCast] at h2
        refine ⟨_, rfl, _, rfl, _, rfl, _, rfl, by omega, by omega, fun De hDe => lc_S (walk_range (lo := 0) (n := (m : Int).toNat)) hDe (by omega) (fun i acc H5 => ∃ es : List Int, acc = es.map .int ∧ es.Nodup ∧ (∀ e ∈ es, 0 ≤ e ∧ e < (i : Int))) ?_ ?_ (fun _ _ => trivial) ?_ ?_⟩
        · rintro i acc acc' H5 H6 _ _ h
          exact h
        · exact ⟨[], rfl, List.nodup_nil, (fun _ h => nomatch h)⟩
        · rintro i x H5 H5' acc Qt Qf hi e5 hd5 ⟨es, rfl, h5, h6⟩ ⟨rfl, rfl⟩ kt kf
          refine ⟨rfl, _, rfl, r, _, rfl, by decide, by decide, e5 _ _ (e3 _ _ (e12 _ _ hR)), fun g H6 g0 g1 e6 => ⟨rfl, _, rfl, ite2 (fun _ => ?_) (fun _ => ?_)⟩⟩
          · refine ⟨_, rfl, kt _ _ e6 ⟨es ++ [(0 + (i : Int))], by simp, ?_, ?_⟩⟩
            · rw [List.nodup_append]
              refine ⟨h5, List.nodup_cons.mpr ⟨by simp, List.nodup_nil⟩, fun a h b hb => ?_⟩
              rw [List.mem_singleton] at hb
              have := h6 a h
              omega
            · intro e he
              rcases List.mem_append.mp he with z | z
              · have := h6 e z; omega
              · rw [List.mem_singleton] at z; omega
          · exact kf _ e6 ⟨es, rfl, h5, fun e he => by have := h6 e he; omega⟩
        · rintro H5 acc e5 hd5 ⟨es, rfl, h5, h6⟩
          rw [Int.toNat_natCast] at h6
          refine ⟨by show 3 ≤ sizeLine; decide, fun t ht => ?_⟩
          have n1 : De ≠ t := ne_of_none hd5 ht
          have n2 : Dr ≠ t := ne_of_none (e5 _ _ hd) ht
          have s5 := (e12.trans e3).trans e5
          refine k t rows es _ ⟨by omega, by omega, fun row hrow => ?_, h5, fun e he => ?_⟩ (by omega) (s5.free ht) (s5.trans (same_new ht)) ⟨Dr, De, qs, upd_same, ?_, ?_, ?_⟩
          · rw [h2]; exact h3 row hrow
          · rw [h2]; exact h6 e he
          · rw [upd_ne n2]; exact e5 _ _ hd
          · exact Paired.mono h4 fun a b h => by
              show _ = _
              rw [upd_ne (ne_of_none (e5 _ _ h) ht)]
              exact e5 _ _ h
          · rw [upd_ne n1]; exact hd5
end
end SS

set_option maxRecDepth 100000
set_option maxHeartbeats 4000000
namespace SS
open PySem L2 SR TL
/-! ### the machine's steps -/
def nxt (cs : List Nat) (rows : List (List Int)) (q : Int) (c : Nat) : Int := (rows.getD q.toNat []).getD (cs.idxOf c) 0
def run (cs : List Nat) (rows : List (List Int)) (q : Int) (x : List Nat) : Int := x.foldl (nxt cs rows) q
theorem val_row : ∀ {cs : List Nat} {row : List Int} {c : Nat}, row.length = cs.length → c ∈ cs → valV (rowK cs row) (Sum.inr (lt c)) = some (.int (row.getD (cs.idxOf c) 0))
  | [], row, c, _, h => nomatch h
  | d :: cs, [], c, h, _ => by simp at h
  | d :: cs, g :: row, c, hl, hc => by
    have hl' : row.length = cs.length := by simpa using hl
    by_cases e : d = c
    · subst e
      simp [valV, rowK, List.idxOf_cons]
    · have hc' : c ∈ cs := by
        rcases List.mem_cons.mp hc with z | z
        · exact absurd z.symm e
        · exact z
      have ih := val_row hl' hc'
      have ne : ¬ ((Sum.inr (lt d) : Key) = Sum.inr (lt c)) := fun z => e (lt_inj (Sum.inr.inj z))
      have e1 : valV (rowK (d :: cs) (g :: row)) (Sum.inr (lt c)) = valV (rowK cs row) (Sum.inr (lt c)) := by
        show ((((Sum.inr (lt d) : Key), V.int g) :: rowK cs row).find? fun kv => decide (kv.1 = Sum.inr (lt c))).map (·.2) = _
        rw [List.find?_cons_of_neg (by simpa using ne)]
        rfl
      rw [e1, ih]
      have : (d :: cs).idxOf c = cs.idxOf c + 1 := by
        rw [List.idxOf_cons]
        have : (d == c) = false := beq_eq_false_iff_ne.mpr e
        simp [this]
      rw [this]
      rfl
theorem paired_get {α β : Type} {R : α → β → Prop} : ∀ {xs : List α} {ys : List β} (i : Nat) {y : β}, Paired R xs ys → ys[i]? = some y → ∃ x, xs[i]? = some x ∧ R x y
  | _, _, _, _, .nil, h => by simp at h
  | x :: xs, y :: ys, 0, z, .cons r _, h => by
    have e : y = z := Option.some.inj h
    exact ⟨x, rfl, e ▸ r⟩
  | x :: xs, y :: ys, i + 1, z, .cons _ t, h => by
    obtain ⟨a, h1, h2⟩ := paired_get i t (by simpa using h)
    exact ⟨a, by simpa using h1, h2⟩
theorem inV_ints (q : Int) (es : List Int) : inV (.int q) (es.map .int) = decide (q ∈ es) := by
  unfold inV
  induction es with
  | nil => rfl
  | cons e es ih =>
    rw [List.map_cons, List.any_cons, ih]
    show ((e == q) || decide (q ∈ es)) = _
    by_cases h : e = q
    · subst h; simp
    · have : (e == q) = false := beq_eq_false_iff_ne.mpr h
      rw [this, Bool.false_or]
      have h' : ¬ q = e := fun z => h z.symm
      simp [h']
theorem flat_ints (es : List Int) : (es.map V.int).all flatV = true := by
  induction es with
  | nil => rfl
  | cons e es ih => rw [List.map_cons, List.all_cons, ih]; rfl
theorem WfM.nxt_ok {cs : List Nat} {rows : List (List Int)} {ends : List Int} (W : WfM cs rows ends) {q : Int} {c : Nat} (q0 : 0 ≤ q) (q1 : q < (rows.length : Int)) (hc : c ∈ cs) :
    ∃ row, rows[q.toNat]? = some row ∧ row.length = cs.length ∧ nxt cs rows q c = row.getD (cs.idxOf c) 0 ∧ 0 ≤ nxt cs rows q c ∧ nxt cs rows q c < (rows.length : Int) := by
  have hl : q.toNat < rows.length := by omega
  have hm := W.row rows[q.toNat] (List.getElem_mem hl)
  have e : nxt cs rows q c = rows[q.toNat].getD (cs.idxOf c) 0 := by simp [nxt, hl]
  refine ⟨rows[q.toNat], by simp [hl], hm.1, e, ?_⟩
  have hi : cs.idxOf c < rows[q.toNat].length := by rw [hm.1]; exact List.idxOf_lt_length_of_mem hc
  have hg : rows[q.toNat].getD (cs.idxOf c) 0 ∈ rows[q.toNat] := by
    rw [List.getD_eq_getElem?_getD, List.getElem?_eq_getElem hi]
    exact List.getElem_mem hi
  rw [e]
  exact hm.2 _ hg
theorem WfM.run_ok {cs : List Nat} {rows : List (List Int)} {ends : List Int} (W : WfM cs rows ends) : ∀ (x : List Nat) (q : Int), 0 ≤ q → q < (rows.length : Int) → (∀ c ∈ x, c ∈ cs) → 0 ≤ run cs rows q x ∧ run cs rows q x < (rows.length : Int)
  | [], q, q0, q1, _ => ⟨q0, q1⟩
  | c :: x, q, q0, q1, h => by
    obtain ⟨_, _, _, _, n0, n1⟩ := W.nxt_ok q0 q1 (h c List.mem_cons_self)
    exact W.run_ok x _ n0 n1 fun d hd => h d (List.mem_cons_of_mem _ hd)
theorem atI_of {α : Type} {xs : List α} {q : Int} {x : α} (q0 : 0 ≤ q) (h : xs[q.toNat]? = some x) : atI xs q = some x := by
  have := atI_nat h
  rwa [Int.toNat_of_nonneg q0] at this
section
variable {P : Program} {w : World} {K : PySem.W.Frag} {mg : Str → Option Value} {base : Heap}
abbrev sBelongs : Stmt := top 40
abbrev nBelongs : List Str := ["_law_machine", "_law_note", "_law_spot_here", "_law_letter"]
theorem scBelongs : FnScope nBelongs ["_law_machine", "_law_note"] (defScope sBelongs) := ⟨rfl, rfl, rfl, by decide +kernel, rfl, by decide +kernel, by decide +kernel⟩
def spBelongs : Sp := fun vs H Q _ => ∃ (t : Addr) (x cs : List Nat) (rows : List (List Int)) (ends : List Int), vs = [.ref t, .str (txt x)] ∧ WfM cs rows ends ∧ Mach H cs t rows ends ∧ (∀ c ∈ x, c ∈ cs) ∧ Q (.bl (decide (run cs rows 0 x ∈ ends))) H
theorem ok_belongs {f : Addr} {fd : FuncData} (F : Fun K "_law_belongs" "_law_belongs" sBelongs f fd) : FnOk P w K mg base CX0 1 f fd ["_law_machine", "_law_note"] spBelongs := by
  refine F.ok scBelongs (fun vs H Q E h => ?_) (fun cdv A outer s H vs Q E hr h => ?_)
  · obtain ⟨t, x, cs, rows, ends, rfl, _⟩ := h
    rfl
  · obtain ⟨t, x, cs, rows, ends, rfl, W, ⟨pr, pe, qs, h1, h2, h3, h4⟩, hx, k⟩ := h
    have hu := hu_of hr
    refine ⟨_, pss_cons (ps_set (i := 2) scBelongs.nd rfl (.inl rfl) pe_int)
      (pss_cons (ps_for PassesOwn.never rfl (pi_str (pv 1)) (pg_name (i := 3) scBelongs.nd rfl (.inl rfl))
        (pss_one (ps_set (i := 2) scBelongs.nd rfl (.inl rfl) (pe_dget hu (pe_ix ix_list (pe_ix ix_tup (pv 0) pe_int (fun _ _ => rfl)) (pv 2) (fun _ _ => rfl)) (pv 3) (fun _ _ => rfl)))))
      (pss_one (ps_ret (pe_cmpR op_in_seq (pv 2) (pe_ix ix_tup (pv 0) pe_int (fun _ _ => rfl)) (by rfl))))), ?_⟩
    refine ⟨_, rfl, _, rfl, for_it walk_str (fun i σ H' => H' = H ∧ ∃ a3, σ = [some (.ref t), some (.str (txt x)), some (.int (run cs rows 0 (x.take i))), a3]) ⟨rfl, _, rfl⟩ (fun _ _ _ _ _ => trivial) ?_ ?_⟩
    · rintro i v σ H1 H2 hi ⟨rfl, a3, rfl⟩ ⟨rfl, c, hc, rfl⟩
      have hc' : x[i]? = some c := by simpa [txt] using hc
      have hm : c ∈ x := List.mem_of_getElem? hc'
      obtain ⟨q0, q1⟩ := W.run_ok (x.take i) 0 (Int.le_refl _) (by have := W.one; omega) fun d hd => hx d (List.mem_of_mem_take hd)
      obtain ⟨row, e1, e2, e3, _⟩ := W.nxt_ok q0 q1 (hx c hm)
      obtain ⟨q, hq, hrow⟩ := paired_get _ h3 e1
      refine ⟨_, rfl, t, _, _, _, rfl, rfl, SqT.of h1, rfl, _, rfl, pr, _, _, .ref q, rfl, rfl, SqL.of h2, atI_of q0 (by rw [List.getElem?_map, hq]; rfl), _, rfl, q, .int (nxt cs rows (run cs rows 0 (x.take i)) c), rfl, ?_, rfl, some (ltV c), ?_⟩
      · rw [e3, ← val_row e2 (hx c hm)]
        exact DGet.k (k := Sum.inr (lt c)) hrow
      · have et : x.take (i + 1) = x.take i ++ [c] := by rw [List.take_add_one, hc']; rfl
        rw [et]
        unfold run
        rw [List.foldl_append]
        rfl
    · rintro σ H1 ⟨rfl, a3, rfl⟩
      have hz : (txt x).cps.size = x.length := by simp [txt]
      rw [hz, List.take_length]
      refine ⟨_, rfl, _, rfl, t, _, _, _, rfl, rfl, SqT.of h1, rfl, pe, _, rfl, .inl (SqL.of h4), rfl, flat_ints _, ?_⟩
      show Q (.bl (inV (.int (run cs rows 0 x)) (ends.map .int))) H1
      rw [inV_ints]
      exact k
end
end SS

set_option maxRecDepth 100000
set_option maxHeartbeats 4000000
namespace SS
open PySem L2 SR TL
/-! ### all texts, by length and then in order -/
def kids (cs : List Nat) (x : List Nat) : List (List Nat) := cs.map fun c => x ++ [c]
def lay (cs : List Nat) : Nat → List (List Nat)
  | 0 => [[]]
  | n + 1 => (lay cs n).flatMap (kids cs)
def txs (cs : List Nat) : Nat → List (List Nat)
  | 0 => [[]]
  | n + 1 => txs cs n ++ lay cs (n + 1)
theorem txs_succ (cs : List Nat) : ∀ n, txs cs (n + 1) = [] :: (txs cs n).flatMap (kids cs)
  | 0 => by simp [txs, lay]
  | n + 1 => by
    show txs cs (n + 1) ++ (lay cs (n + 1)).flatMap (kids cs) = [] :: (txs cs n ++ lay cs (n + 1)).flatMap (kids cs)
    rw [txs_succ cs n, List.flatMap_append]
    rfl
theorem mem_lay {cs : List Nat} : ∀ {n : Nat} {x : List Nat}, x ∈ lay cs n ↔ (∀ c ∈ x, c ∈ cs) ∧ x.length = n
  | 0, x => by
    constructor
    · intro h
      have : x = [] := by simpa [lay] using h
      subst this
      exact ⟨fun c h => (nomatch h), rfl⟩
    · rintro ⟨_, h⟩
      have : x = [] := List.length_eq_zero_iff.mp h
      subst this
      simp [lay]
  | n + 1, x => by
    show x ∈ (lay cs n).flatMap (kids cs) ↔ _
    rw [List.mem_flatMap]
    constructor
    · rintro ⟨y, hy, hx⟩
      obtain ⟨c, hc, rfl⟩ := List.mem_map.mp hx
      obtain ⟨h1, h2⟩ := mem_lay.mp hy
      refine ⟨fun d hd => ?_, by simp [h2]⟩
      rcases List.mem_append.mp hd with z | z
      · exact h1 d z
      · rw [List.mem_singleton.mp z]; exact hc
    · rintro ⟨h1, h2⟩
      have hne : x ≠ [] := fun z => by rw [z] at h2; simp at h2
      refine ⟨x.dropLast, mem_lay.mpr ⟨fun c hc => h1 c ((List.dropLast_sublist x).subset hc), by rw [List.length_dropLast, h2]; rfl⟩, List.mem_map.mpr ⟨x.getLast hne, h1 _ (List.getLast_mem hne), List.dropLast_concat_getLast hne⟩⟩
theorem mem_txs {cs : List Nat} : ∀ {n : Nat} {x : List Nat}, x ∈ txs cs n ↔ (∀ c ∈ x, c ∈ cs) ∧ x.length ≤ n
  | 0, x => by
    show x ∈ lay cs 0 ↔ _
    rw [mem_lay, Nat.le_zero]
  | n + 1, x => by
    show x ∈ txs cs n ++ lay cs (n + 1) ↔ _
    rw [List.mem_append, mem_txs, mem_lay]
    constructor
    · rintro (⟨h1, h2⟩ | ⟨h1, h2⟩)
      · exact ⟨h1, by omega⟩
      · exact ⟨h1, by omega⟩
    · rintro ⟨h1, h2⟩
      by_cases h : x.length = n + 1
      · exact .inr ⟨h1, h⟩
      · exact .inl ⟨h1, by omega⟩
theorem txs_prefix (cs : List Nat) (n : Nat) : ∀ k, ∃ t, txs cs (n + k) = txs cs n ++ t
  | 0 => ⟨[], by simp⟩
  | k + 1 => by
    obtain ⟨t, e⟩ := txs_prefix cs n k
    exact ⟨t ++ lay cs (n + k + 1), by show txs cs (n + k) ++ lay cs (n + k + 1) = _; rw [e, List.append_assoc]⟩
theorem txs_filter (cs : List Nat) (n : Nat) : ∀ k, (txs cs (n + k)).filter (fun x => decide (x.length ≤ n)) = txs cs n
  | 0 => List.filter_eq_self.mpr fun x hx => decide_eq_true (mem_txs.mp hx).2
  | k + 1 => by
    show (txs cs (n + k) ++ lay cs (n + k + 1)).filter _ = _
    rw [List.filter_append, txs_filter cs n k]
    have : (lay cs (n + k + 1)).filter (fun x => decide (x.length ≤ n)) = [] := by
      rw [List.filter_eq_nil_iff]
      intro x hx h
      have := (mem_lay.mp hx).2
      have := of_decide_eq_true h
      omega
    rw [this, List.append_nil]
theorem len_lay (cs : List Nat) : ∀ n, (lay cs n).length = cs.length ^ n
  | 0 => rfl
  | n + 1 => by
    show ((lay cs n).flatMap (kids cs)).length = _
    rw [List.length_flatMap]
    have : (lay cs n).map (fun x => (kids cs x).length) = (lay cs n).map fun _ => cs.length := List.map_congr_left fun x _ => by simp [kids]
    rw [this, Nat.pow_succ, ← len_lay cs n]
    generalize lay cs n = l
    induction l with
    | nil => simp
    | cons a l ih => rw [List.map_cons, List.sum_cons, ih, List.length_cons, Nat.add_mul]; omega
theorem len_kids (cs : List Nat) : ∀ X : List (List Nat), (X.flatMap (kids cs)).length = X.length * cs.length
  | [] => by simp
  | x :: X => by
    rw [List.flatMap_cons, List.length_append, len_kids cs X, List.length_cons, Nat.add_mul]
    simp [kids]
    omega
theorem len_lay4 {cs : List Nat} (h : cs.length ≤ 4) (n : Nat) : (lay cs n).length ≤ 4 ^ n := by
  rw [len_lay]
  exact Nat.pow_le_pow_left h n
theorem len_txs4 {cs : List Nat} (h : cs.length ≤ 4) : ∀ n : Nat, (txs cs n).length ≤ 2 * 4 ^ n
  | 0 => by simp [txs]
  | n + 1 => by
    have h1 := len_lay4 h (n + 1)
    have h2 := len_txs4 h n
    have e : 4 ^ (n + 1) = 4 * 4 ^ n := by rw [Nat.pow_succ, Nat.mul_comm]
    show (txs cs n ++ lay cs (n + 1)).length ≤ _
    rw [List.length_append]
    omega
end SS

set_option maxRecDepth 100000
set_option maxHeartbeats 4000000
namespace SS
open PySem L2 SR TL
def txtV (x : List Nat) : V := .str (txt x)
theorem txt_app (x y : List Nat) : txt x ++ txt y = txt (x ++ y) := by
  rw [txt_of (txt x ++ txt y)]
  exact congrArg txt (by rw [show (txt x ++ txt y).cps.toList = tl (txt x ++ txt y) from rfl, tl_append]; simp [txt])
def rAddT : R2 := fun x y H Q => ∃ i j, x = .str i ∧ y = .str j ∧ i.length + j.length ≤ sizeLine ∧ Q (.str (i ++ j)) H
/-- texts over cs, of at most n signs -/
def Over (cs : List Nat) (n : Nat) (xs : List (List Nat)) : Prop := ∀ x ∈ xs, (∀ c ∈ x, c ∈ cs) ∧ x.length ≤ n
theorem Over.app {cs : List Nat} {n : Nat} {xs ys : List (List Nat)} (a : Over cs n xs) (b : Over cs n ys) : Over cs n (xs ++ ys) := fun x hx => (List.mem_append.mp hx).elim (a x) (b x)
theorem Over.mono {cs : List Nat} {n m : Nat} {xs : List (List Nat)} (a : Over cs n xs) (h : n ≤ m) : Over cs m xs := fun x hx => ⟨(a x hx).1, Nat.le_trans (a x hx).2 h⟩
section
variable {P : Program} {w : World} {K : PySem.W.Frag} {mg : Str → Option Value} {base : Heap}
abbrev sTexts : Stmt := top 42
abbrev nTexts : List Str := ["_law_abc", "_law_cap", "_law_found", "_law_latest", "_law_turn", "_law_longer", "_law_note", "_law_letter"]
theorem scTexts : FnScope nTexts ["_law_abc", "_law_cap"] (defScope sTexts) := ⟨rfl, rfl, rfl, by decide +kernel, rfl, by decide +kernel, by decide +kernel⟩
def spTexts : Sp := fun vs H Q _ => ∃ (cs : List Nat) (cap : Nat), vs = [.str (txt cs), .int cap] ∧ Abc cs ∧ cap ≤ 8 ∧
  ∀ (p : Addr) (H' : Hp), H p = none → Same H H' → H' p = some (.lst ((txs cs cap).map txtV)) → Q (.ref p) H'
theorem pow4 {i : Nat} (h : i ≤ 8) : 4 ^ i ≤ 65536 := Nat.le_trans (Nat.pow_le_pow_right (by decide) h) (by decide)
theorem ok_texts {f : Addr} {fd : FuncData} (F : Fun K "_law_texts" "_law_texts" sTexts f fd) (B : Bl mg) : FnOk P w K mg base CX0 1 f fd ["_law_abc", "_law_cap"] spTexts := by
  refine F.ok scTexts (fun vs H Q E h => ?_) (fun cdv A outer s H vs Q E hr h => ?_)
  · obtain ⟨cs, cap, rfl, _⟩ := h
    rfl
  · obtain ⟨cs, cap, rfl, ha, hcap, k⟩ := h
    refine ⟨_, pss_cons (ps_par (i := 2) (j := 3) (by rfl) scTexts.nd rfl rfl (by decide) rfl rfl (pa_cons (pe_lst (pa_cons pe_str pa_nil)) (pa_cons (pe_lst (pa_cons pe_str pa_nil)) pa_nil)) (by rfl))
      (pss_cons (ps_for PassesOwn.never rfl (pi_range1 (by rfl) B.range (pa_cons (pv 1) pa_nil)) (pg_name (i := 4) scTexts.nd rfl (.inl rfl))
        (pss_cons (ps_set (i := 5) scTexts.nd rfl (.inl rfl) (pe_lst pa_nil))
        (pss_cons (ps_for PassesOwn.never rfl (pi_list (pv 3)) (pg_name (i := 6) scTexts.nd rfl (.inr rfl))
          (pss_one (ps_set (i := 5) scTexts.nd rfl (.inl rfl) (pe_op op_cat (pv 5) (pe_lc (own := [("_law_letter", 7)]) (g := gName 7) (tt := tYes) (te := tOp rAddT (tVar 6) (tVar 7)) rfl scTexts.nd (pi_str (pv 0)) (blkOk_by (by kernel_rfl))
            (fun _ _ _ _ _ => pg_name (i := 7) scTexts.nd rfl (.inl rfl)) (fun _ _ _ _ _ => pts_nil) (fun _ _ _ _ _ => pe_op op_add_str (pv 6) (pv 7)))))))
        (pss_cons (ps_set (i := 3) scTexts.nd rfl (.inl rfl) (pv 5))
        (pss_one (ps_set (i := 2) scTexts.nd rfl (.inl rfl) (pe_op op_cat (pv 2) (pv 3))))))))
      (pss_one (ps_ret (pv 2)))), ?_⟩
    have h4 := ha.four
    refine ⟨(by show 1 ≤ sizeLine; decide), fun pf hpf => ⟨(by show 1 ≤ sizeLine; decide), fun pl hpl => ⟨_, _, rfl, ?_⟩⟩⟩
    have nfl : pf ≠ pl := ne_of_none upd_same hpl
    refine ⟨_, rfl, _, rfl, by omega, by omega, for_it (walk_range (lo := 0) (n := (cap : Int).toNat)) (fun i σ H' => Same H H' ∧ ∃ pf pl a4 a5 a6 a7, σ = [some (.str (txt cs)), some (.int cap), some (.ref pf), some (.ref pl), a4, a5, a6, a7] ∧
      H pf = none ∧ H' pf = some (.lst ((txs cs i).map txtV)) ∧ H' pl = some (.lst ((lay cs i).map txtV))) ?_ (fun _ _ _ _ _ => trivial) ?_ ?_⟩
    · have hplH : H pl = none := by rw [upd_ne (Ne.symm nfl)] at hpl; exact hpl
      exact ⟨same_upd (same_new hpf) hplH, pf, pl, none, none, none, none, rfl, hpf, by rw [upd_ne nfl, upd_same]; rfl, by rw [upd_same]; rfl⟩
    · rintro i v σ H1 H1' hi ⟨e1, pf, pl, a4, a5, a6, a7, rfl, hpfH, h1, h2⟩ ⟨rfl, rfl⟩
      rw [Int.toNat_natCast] at hi
      have hp4 := pow4 (i := i) (by omega)
      have hp5 := pow4 (i := i + 1) (by omega)
      have l1 := len_lay4 h4 i
      have l2 := len_txs4 h4 i
      have l3 := len_lay4 h4 (i + 1)
      refine ⟨(by show 0 ≤ sizeLine; decide), fun pg hpg => ?_⟩
      refine ⟨_, rfl, _, rfl, ⟨_, SqL.of ((same_new hpg) _ _ h2)⟩, for_it (walk_list (K := K) (a := pl) (xs := (lay cs i).map txtV)) (fun j σ H' => Same H1' H' ∧ ∃ pg b6 b7, σ = [some (.str (txt cs)), some (.int cap), some (.ref pf), some (.ref pl), some (.int (0 + (i : Nat))), some (.ref pg), b6, b7] ∧ H' pg = some (.lst ((((lay cs i).take j).flatMap (kids cs)).map txtV))) ?_ (fun j σ H' _ p => SqL.of (p.1 _ _ h2)) ?_ ?_⟩
      · exact ⟨same_new hpg, pg, a6, a7, rfl, upd_same⟩
      · rintro j v σ H2 H2' hj ⟨e2, pg, b6, b7, rfl, h3⟩ ⟨rfl, hv⟩
        rw [List.getElem?_map] at hv
        obtain ⟨l, hl, rfl⟩ := Option.map_eq_some_iff.mp hv
        rw [List.length_map] at hj
        have hll := (mem_lay.mp (List.mem_of_getElem? hl)).2
        refine ⟨_, rfl, _, rfl, _, rfl, fun D hD => lc_S walk_str hD (by simp [txt]; omega) (fun i acc _ => acc = (cs.take i).map fun c => txtV (l ++ [c])) (fun _ _ _ _ _ _ _ h => h) rfl (fun _ _ => trivial) ?_ ?_⟩
        · rintro i' x H3 H3' acc Qt Qf hi' e3 hd rfl ⟨rfl, c, hc, rfl⟩ kt kf
          have hc' : cs[i']? = some c := by simpa [txt] using hc
          refine ⟨rfl, _, rfl, _, rfl, _, _, rfl, rfl, ?_, ?_⟩
          · rw [txt_len, sizeLine_eq]
            show l.length + 1 ≤ 16777216
            omega
          · show Qt (.str (txt l ++ txt [c])) _
            rw [txt_app]
            refine kt _ _ (Same.refl _) ?_
            have et : cs.take (i' + 1) = cs.take i' ++ [c] := by rw [List.take_add_one, hc']; rfl
            rw [et, List.map_append]
            rfl
        · rintro H3 acc e3 hd rfl
          have hz : (txt cs).cps.size = cs.length := by simp [txt]
          rw [hz, List.take_length] at hd
          have hle : (((lay cs i).take j).flatMap (kids cs)).length ≤ (lay cs i).length * cs.length := by
            rw [len_kids]
            refine Nat.mul_le_mul_right _ ?_
            rw [List.length_take]
            omega
          have hle2 : (lay cs i).length * cs.length ≤ 4 ^ i * 4 := Nat.mul_le_mul l1 h4
          refine ⟨pg, D, _, _, rfl, rfl, e3 _ _ h3, hd, ?_, fun p hp => ?_⟩
          · rw [List.length_map, List.length_map, sizeLine_eq]
            omega
          · refine ⟨e2.trans (e3.trans (same_new hp)), p, _, _, rfl, ?_⟩
            rw [upd_same, List.take_add_one, hl, List.flatMap_append, List.map_append]
            simp [kids, List.map_map]
      · rintro σ H2 ⟨e2, pg, b6, b7, rfl, h3⟩
        rw [List.length_map, List.take_length] at h3
        refine ⟨_, rfl, _, rfl, _, rfl, pf, pg, _, _, rfl, rfl, e2 _ _ h1, h3, ?_, fun p hp => ?_⟩
        · rw [List.length_map, List.length_map, sizeLine_eq]
          show (txs cs i).length + (lay cs (i + 1)).length ≤ _
          omega
        · have hpH : H p = none := e1.free (e2.free hp)
          refine ⟨e1.trans (e2.trans (same_new hp)), p, pg, _, _, _, _, rfl, hpH, ?_, (same_new hp) _ _ h3⟩
          rw [upd_same, ← List.map_append]
          rfl
    · rintro σ H1 ⟨e1, pf, pl, a4, a5, a6, a7, rfl, hpfH, h1, h2⟩
      rw [Int.toNat_natCast] at h1
      exact ⟨_, rfl, k pf H1 hpfH e1 h1⟩
end
end SS

set_option maxRecDepth 100000
set_option maxHeartbeats 4000000
namespace SS
open PySem L2 SR TL
/-! ### the gathering of live states -/
def Hit (fd row : List Int) : Prop := ∃ g ∈ row, g ∈ fd
def Closed (rows : List (List Int)) (fd : List Int) : Prop := ∀ (j : Nat) row, rows[j]? = some row → Hit fd row → (j : Int) ∈ fd
structure Sound (n : Nat) (G : Int → Prop) (ends fd : List Int) : Prop where
  nd : fd.Nodup
  bd : ∀ q ∈ fd, 0 ≤ q ∧ q < (n : Int)
  good : ∀ q ∈ fd, G q
  all : ∀ e ∈ ends, e ∈ fd
structure Outer (rows : List (List Int)) (G : Int → Prop) (ends : List Int) (i : Nat) (fd : List Int) : Prop where
  snd : Sound rows.length G ends fd
  more : Closed rows fd ∨ i ≤ fd.length
structure Inner (rows : List (List Int)) (G : Int → Prop) (ends fd0 : List Int) (j : Nat) (fd : List Int) : Prop where
  snd : Sound rows.length G ends fd
  still : Closed rows fd0 → fd = fd0
  more : (fd = fd0 ∧ ∀ (a : Nat) row, a < j → rows[a]? = some row → Hit fd row → (a : Int) ∈ fd) ∨ fd0.length < fd.length
theorem Inner.start {rows : List (List Int)} {G : Int → Prop} {ends fd : List Int} (s : Sound rows.length G ends fd) : Inner rows G ends fd 0 fd := ⟨s, fun _ => rfl, .inl ⟨rfl, fun _ _ h => absurd h (Nat.not_lt_zero _)⟩⟩
theorem Inner.skip {rows : List (List Int)} {G : Int → Prop} {ends fd0 fd row : List Int} {j : Nat} (s : Inner rows G ends fd0 j fd) (hr : rows[j]? = some row) (h : (j : Int) ∈ fd ∨ ¬ Hit fd row) : Inner rows G ends fd0 (j + 1) fd := by
  refine ⟨s.snd, s.still, s.more.imp (fun ⟨e, m⟩ => ⟨e, fun a r ha hr' hh => ?_⟩) id⟩
  by_cases ea : a = j
  · subst ea
    rw [hr] at hr'
    cases hr'
    rcases h with h | h
    · exact h
    · exact absurd hh h
  · exact m a r (by omega) hr' hh
theorem Inner.add {rows : List (List Int)} {G : Int → Prop} {ends fd0 fd row : List Int} {j : Nat} (hG : ∀ (a : Nat) row g, rows[a]? = some row → g ∈ row → G g → G (a : Int)) (s : Inner rows G ends fd0 j fd) (hr : rows[j]? = some row) (hn : (j : Int) ∉ fd) (h : Hit fd row) :
    Inner rows G ends fd0 (j + 1) (fd ++ [(j : Int)]) := by
  have hj : j < rows.length := (List.getElem?_eq_some_iff.mp hr).1
  refine ⟨⟨?_, ?_, ?_, fun e he => List.mem_append_left _ (s.snd.all e he)⟩, fun c => ?_, .inr ?_⟩
  · rw [List.nodup_append]
    refine ⟨s.snd.nd, List.nodup_cons.mpr ⟨by simp, List.nodup_nil⟩, fun a ha b hb e => hn ?_⟩
    rw [List.mem_singleton] at hb
    rw [← hb, ← e]; exact ha
  · intro q hq
    rcases List.mem_append.mp hq with z | z
    · exact s.snd.bd q z
    · rw [List.mem_singleton.mp z]; omega
  · intro q hq
    rcases List.mem_append.mp hq with z | z
    · exact s.snd.good q z
    · obtain ⟨g, hg, hf⟩ := h
      rw [List.mem_singleton.mp z]
      exact hG j row g hr hg (s.snd.good g hf)
  · exact absurd ((s.still c) ▸ c j row hr (by rw [s.still c] at h; exact h)) hn
  · rcases s.more with ⟨e, _⟩ | h
    · rw [List.length_append, e]; simp
    · rw [List.length_append]; simp; omega
theorem Inner.done {rows : List (List Int)} {G : Int → Prop} {ends fd0 fd : List Int} {i : Nat} (o : Outer rows G ends i fd0) (s : Inner rows G ends fd0 rows.length fd) : Outer rows G ends (i + 1) fd := by
  refine ⟨s.snd, ?_⟩
  rcases s.more with ⟨e, m⟩ | h
  · exact .inl fun a r hr hh => m a r (List.getElem?_eq_some_iff.mp hr).1 hr hh
  · rcases o.more with c | c
    · have := s.still c
      rw [this] at h
      omega
    · exact .inr (by omega)
theorem nodup_len : ∀ (m : Nat) (l : List Int), l.Nodup → (∀ q ∈ l, 0 ≤ q ∧ q < (m : Int)) → l.length ≤ m := by
  intro m
  induction m with
  | zero =>
    intro l _ b
    cases l with
    | nil => exact Nat.le_refl _
    | cons q l => have := b q List.mem_cons_self; omega
  | succ m ih =>
    intro l nd b
    by_cases hm : ((m : Nat) : Int) ∈ l
    · have := ih (l.erase (m : Int)) (nd.erase _) (fun q hq => by
        have h1 := b q (List.mem_of_mem_erase hq)
        have h2 : q ≠ (m : Int) := (List.Nodup.mem_erase_iff nd).mp hq |>.1
        omega)
      rw [List.length_erase_of_mem hm] at this
      omega
    · have := ih l nd (fun q hq => by
        have h1 := b q hq
        have h2 : q ≠ (m : Int) := fun z => hm (z ▸ hq)
        omega)
      omega
theorem all_of_long : ∀ (n : Nat) (l : List Int), l.Nodup → (∀ q ∈ l, 0 ≤ q ∧ q < (n : Int)) → n ≤ l.length → ∀ j : Nat, j < n → (j : Int) ∈ l
  | 0, _, _, _, _, j, hj => absurd hj (Nat.not_lt_zero _)
  | n + 1, l, nd, bd, hl, j, hj => by
    by_cases hn : ((n : Nat) : Int) ∈ l
    · by_cases e : j = n
      · rw [e]; exact hn
      · have nd' := nd.erase ((n : Nat) : Int)
        have ih := all_of_long n (l.erase (n : Int)) nd' (fun q hq => by
          have h1 := bd q (List.mem_of_mem_erase hq)
          have h2 : q ≠ (n : Int) := (List.Nodup.mem_erase_iff nd).mp hq |>.1
          omega) (by rw [List.length_erase_of_mem hn]; omega) j (by omega)
        exact List.mem_of_mem_erase ih
    · have := all_of_long n l nd (fun q hq => by
        have h1 := bd q hq
        have h2 : q ≠ (n : Int) := fun z => hn (z ▸ hq)
        omega) (by omega)
      -- n different numbers below n: one more than fits
      exfalso
      have := nodup_len n l nd (fun q hq => by
        have h1 := bd q hq
        have h2 : q ≠ (n : Int) := fun z => hn (z ▸ hq)
        omega)
      omega
theorem Sound.len {n : Nat} {G : Int → Prop} {ends fd : List Int} (s : Sound n G ends fd) : fd.length ≤ n := nodup_len n fd s.nd s.bd
theorem Outer.closed {rows : List (List Int)} {G : Int → Prop} {ends fd : List Int} (o : Outer rows G ends rows.length fd) : Closed rows fd := by
  rcases o.more with c | c
  · exact c
  · exact fun j row hr _ => all_of_long rows.length fd o.snd.nd o.snd.bd c j (List.getElem?_eq_some_iff.mp hr).1
/-- some text over cs leads from q into ends -/
def Leads (cs : List Nat) (rows : List (List Int)) (ends : List Int) (q : Int) : Prop := ∃ x : List Nat, (∀ c ∈ x, c ∈ cs) ∧ run cs rows q x ∈ ends
theorem getD_mem_row {cs : List Nat} {row : List Int} {c : Nat} (hl : row.length = cs.length) (hc : c ∈ cs) : row.getD (cs.idxOf c) 0 ∈ row := by
  have hi : cs.idxOf c < row.length := by rw [hl]; exact List.idxOf_lt_length_of_mem hc
  rw [List.getD_eq_getElem?_getD, List.getElem?_eq_getElem hi]
  exact List.getElem_mem hi
theorem leads_back {cs : List Nat} {rows : List (List Int)} {ends : List Int} (W : WfM cs rows ends) (nd : cs.Nodup) (a : Nat) (row : List Int) (g : Int) (hr : rows[a]? = some row) (hg : g ∈ row) (h : Leads cs rows ends g) : Leads cs rows ends (a : Int) := by
  obtain ⟨x, hx, he⟩ := h
  have hl := (W.row row (List.mem_of_getElem? hr)).1
  obtain ⟨j, hj, e⟩ := List.getElem_of_mem hg
  have hjc : j < cs.length := by omega
  refine ⟨cs[j] :: x, fun c hc => ?_, ?_⟩
  · rcases List.mem_cons.mp hc with z | z
    · rw [z]; exact List.getElem_mem hjc
    · exact hx c z
  · show run cs rows (nxt cs rows (a : Int) cs[j]) x ∈ ends
    have e1 : nxt cs rows (a : Int) cs[j] = g := by
      unfold nxt
      have er : rows.getD (a : Int).toNat [] = row := by rw [Int.toNat_natCast, List.getD_eq_getElem?_getD, hr]; rfl
      rw [er, List.Nodup.idxOf_getElem nd j hjc, List.getD_eq_getElem?_getD, List.getElem?_eq_getElem hj]
      exact e
    rw [e1]
    exact he
theorem closed_leads {cs : List Nat} {rows : List (List Int)} {ends fd : List Int} (W : WfM cs rows ends) (c : Closed rows fd) (ha : ∀ e ∈ ends, e ∈ fd) : ∀ (x : List Nat) (q : Int), 0 ≤ q → q < (rows.length : Int) → (∀ c ∈ x, c ∈ cs) → run cs rows q x ∈ ends → q ∈ fd
  | [], q, _, _, _, h => ha q h
  | d :: x, q, q0, q1, hx, h => by
    obtain ⟨row, hr, hl, e, n0, n1⟩ := W.nxt_ok q0 q1 (hx d List.mem_cons_self)
    have ih := closed_leads W c ha x _ n0 n1 (fun c hc => hx c (List.mem_cons_of_mem _ hc)) h
    have hm : nxt cs rows q d ∈ row := by rw [e]; exact getD_mem_row hl (hx d List.mem_cons_self)
    have := c q.toNat row hr ⟨_, hm, ih⟩
    rwa [Int.toNat_of_nonneg q0] at this
theorem Outer.leads {cs : List Nat} {rows : List (List Int)} {ends fd : List Int} (W : WfM cs rows ends) (o : Outer rows (Leads cs rows ends) ends rows.length fd) {q : Int} (q0 : 0 ≤ q) (q1 : q < (rows.length : Int)) : q ∈ fd ↔ Leads cs rows ends q :=
  ⟨o.snd.good q, fun ⟨x, hx, h⟩ => closed_leads W o.closed o.snd.all x q q0 q1 hx h⟩
end SS

set_option maxRecDepth 100000
set_option maxHeartbeats 4000000
namespace SS
open PySem L2 SR TL
/-- behind a lock -/
theorem lock_same {H H' : Hp} {d : Addr} {f u : HO} (hd : H d = some u) (e : Same (upd H d f) H') : Same H (upd H' d u) := fun a o h => by
  by_cases ha : a = d
  · subst ha; rw [upd_same, ← hd, h]
  · rw [upd_ne ha]; exact e a o (by rw [upd_ne ha]; exact h)
theorem any_dec (fd row : List Int) : (row.map fun g => decide (g ∈ fd)).any id = true ↔ Hit fd row := by
  rw [List.any_eq_true]
  constructor
  · rintro ⟨b, hb, e⟩
    obtain ⟨g, hg, rfl⟩ := List.mem_map.mp hb
    exact ⟨g, hg, of_decide_eq_true e⟩
  · rintro ⟨g, hg, h⟩
    exact ⟨_, List.mem_map.mpr ⟨g, hg, rfl⟩, decide_eq_true h⟩
theorem rowK_vals {cs : List Nat} {row : List Int} (h : row.length = cs.length) : (rowK cs row).map (·.2) = row.map .int := by
  unfold rowK
  rw [List.map_map]
  have : (cs.zip row).map ((fun x : Key × V => x.2) ∘ fun p : Nat × Int => ((Sum.inr (lt p.1) : Key), V.int p.2)) = ((cs.zip row).map Prod.snd).map .int := by
    rw [List.map_map]; rfl
  rw [this, List.map_snd_zip (by omega)]
section
variable {P : Program} {w : World} {K : PySem.W.Frag} {mg : Str → Option Value} {base : Heap}
/-- [goal in found for goal in line.values()], any of it -/
theorem vals_in {K : PySem.W.Frag} {H : Hp} {σ : St} {d pf : Addr} {cs : List Nat} {row fd : List Int} {sf sg sd : Nat} {Q : V → Hp → Prop} (hd : H d = some (.dK (rowK cs row))) (hl : row.length = cs.length) (hc : cs.length ≤ 1000) (hf : H pf = some (.lst (fd.map .int)))
    (h1 : ∀ v, wipe ((wipe σ [sg]).set sg v) [sg] = wipe σ [sg]) (h2 : ∀ v, ((wipe σ [sg]).set sg (some v))[sg]? = some (some v)) (h3 : ∀ v, ((wipe σ [sg]).set sg (some v))[sf]? = some (some (.ref pf))) (h4 : σ[sd]? = some (some (.ref d)))
    (hQ : ∀ D H', Same H H' → H' D = some (.lst ((row.map fun g => decide (g ∈ fd)).map V.bl)) → Q (.ref D) H') :
    tLockE (tLc (iVals (tVar sd)) (gName sg) tYes (tOp (rIn K false) (tVar sg) (tVar sf)) [sg]) σ H Q := by
  refine ⟨d, _, hd, trivial, fun od => ⟨_, h4, d, od, _, rfl, upd_same, fun D hD => ?_⟩⟩
  have nfd : pf ≠ d := ne_of hf hd (by intro z; cases z)
  refine lc_S walk_values hD (by unfold rowK; simp; omega) (fun i acc _ => acc = ((row.take i).map fun g => decide (g ∈ fd)).map V.bl) (fun _ _ _ _ _ _ _ h => h) rfl (fun H' e => e _ _ upd_same) ?_ ?_
  · rintro i x H3 H3' acc Qt Qf hi e3 hd3 rfl ⟨rfl, k, hk⟩ kt kf
    have hv : ((rowK cs row).map (·.2))[i]? = some x := by rw [List.getElem?_map, hk]; rfl
    rw [rowK_vals hl, List.getElem?_map] at hv
    obtain ⟨g, hg, rfl⟩ := Option.map_eq_some_iff.mp hv
    refine ⟨h1 _, _, h2 _, _, h3 _, pf, _, rfl, .inl (SqL.of (e3 _ _ (by rw [upd_ne nfd]; exact hf))), rfl, flat_ints _, kt _ _ (Same.refl _) ?_⟩
    have et : row.take (i + 1) = row.take i ++ [g] := by rw [List.take_add_one, hg]; rfl
    rw [et, List.map_append, List.map_append]
    show _ ++ [V.bl (inV (.int g) (fd.map .int))] = _
    rw [inV_ints]
    rfl
  · rintro H3 acc e3 hd3 rfl
    have hn : (rowK cs row).length = row.length := by unfold rowK; simp; omega
    rw [hn, List.take_length] at hd3
    have h3d := e3 _ _ (upd_same (H := H) (a := d) (o := HO.frz od (.dK (rowK cs row))))
    refine ⟨h3d, hQ D _ (lock_same hd e3) ?_⟩
    rw [upd_ne (ne_of hd3 h3d (by intro z; cases z))]
    exact hd3
end
end SS

set_option maxRecDepth 100000
set_option maxHeartbeats 8000000
namespace SS
open PySem L2 SR TL
def NonStr (H : Hp) (v : V) : Prop := v = .non ∨ (∃ i, v = .int i) ∨ (∃ b, v = .bl b) ∨ ∃ a, v = .ref a ∧ ((∃ xs, H a = some (.lst xs)) ∨ (∃ xs, H a = some (.tup xs)) ∨ ∃ kvs, H a = some (.dK kvs))
theorem NonStr.mono {H H' : Hp} {v : V} (e : Same H H') (h : NonStr H v) : NonStr H' v := by
  rcases h with h | h | h | ⟨a, h, h' | h' | h'⟩
  · exact .inl h
  · exact .inr (.inl h)
  · exact .inr (.inr (.inl h))
  · obtain ⟨xs, z⟩ := h'; exact .inr (.inr (.inr ⟨a, h, .inl ⟨xs, e _ _ z⟩⟩))
  · obtain ⟨xs, z⟩ := h'; exact .inr (.inr (.inr ⟨a, h, .inr (.inl ⟨xs, e _ _ z⟩)⟩))
  · obtain ⟨xs, z⟩ := h'; exact .inr (.inr (.inr ⟨a, h, .inr (.inr ⟨xs, e _ _ z⟩)⟩))
theorem NonStr.isi {K : PySem.W.Frag} {H : Hp} {v : V} (h : NonStr H v) : ∃ t, TyX K H v t ∧ PySem.W.kitOne K t (.type "str") = some false := by
  rcases h with rfl | ⟨i, rfl⟩ | ⟨b, rfl⟩ | ⟨a, rfl, ⟨xs, z⟩ | ⟨xs, z⟩ | ⟨xs, z⟩⟩
  · exact ⟨_, .base .non, kit_ty (by decide +kernel)⟩
  · exact ⟨_, .base (.int i), kit_ty (by decide +kernel)⟩
  · exact ⟨_, .base (.bl b), kit_ty (by decide +kernel)⟩
  · exact ⟨_, .base (.lst z), kit_ty (by decide +kernel)⟩
  · exact ⟨_, .base (.tup z), kit_ty (by decide +kernel)⟩
  · exact ⟨_, .base (.dK z), kit_ty (by decide +kernel)⟩
def Odd (H : Hp) (cs : List Nat) (v : V) : Prop := NonStr H v ∨ ∃ x c, v = .str (txt x) ∧ c ∈ x ∧ c ∉ cs ∧ x.length ≤ 10
theorem Odd.mono {H H' : Hp} {cs : List Nat} {v : V} (e : Same H H') (h : Odd H cs v) : Odd H' cs v := h.imp (NonStr.mono e) id
theorem upper_lt {c : Nat} (h : 97 ≤ c ∧ c < 123) : Txt.upper (lt c) = txt [c - 32] := by
  have key : ∀ k : Fin 26, Txt.upper (lt (k.val + 97)) = txt [k.val + 97 - 32] := by decide +kernel
  have := key ⟨c - 97, by omega⟩
  rwa [show c - 97 + 97 = c by omega] at this
theorem len_sub : ∀ (l D : List Nat), l.Nodup → (∀ x ∈ l, x ∈ D) → l.length ≤ D.length
  | [], _, _, _ => Nat.zero_le _
  | x :: l, D, nd, h => by
    obtain ⟨n1, n2⟩ := List.nodup_cons.mp nd
    have hx := h x List.mem_cons_self
    have := len_sub l (D.erase x) n2 fun y hy => (List.mem_erase_of_ne (fun (e : y = x) => n1 (e ▸ hy))).mpr (h y (List.mem_cons_of_mem _ hy))
    rw [List.length_erase_of_mem hx] at this
    have hpos : 0 < D.length := List.length_pos_of_mem hx
    show l.length + 1 ≤ D.length
    omega
abbrev abc26 : List Nat := (List.range 26).map (· + 97)
theorem spare_ex {cs : List Nat} (h : cs.length ≤ 4) : ∃ d ds, abc26.filter (fun c => decide (c ∉ cs)) = d :: ds ∧ d ∉ cs ∧ 97 ≤ d ∧ d < 123 := by
  cases e : abc26.filter (fun c => decide (c ∉ cs)) with
  | nil =>
    exfalso
    have : ∀ x ∈ abc26, x ∈ cs := fun x hx => by
      have := List.filter_eq_nil_iff.mp e x hx
      simpa using this
    have := len_sub abc26 cs (by decide +kernel) this
    simp at this
    omega
  | cons d ds =>
    have hm : d ∈ abc26.filter (fun c => decide (c ∉ cs)) := by rw [e]; exact List.mem_cons_self
    obtain ⟨h1, h2⟩ := List.mem_filter.mp hm
    obtain ⟨j, hj, ej⟩ := List.mem_map.mp h1
    have := List.mem_range.mp hj
    exact ⟨d, ds, rfl, by simpa using h2, by omega, by omega⟩
def rNotInSg : R2 := fun x y H Q => ∃ (c : Nat) (z : Str), x = .str ⟨#[c]⟩ ∧ y = .str z ∧ Q (.bl (!decide (c ∈ z.cps.toList))) H
section
variable {P : Program} {w : World} {K : PySem.W.Frag} {mg : Str → Option Value} {base : Heap}
end
end SS

set_option maxRecDepth 100000
set_option maxHeartbeats 4000000
namespace SS
open PySem L2 SR TL
/-- the constants of the program -/
structure Cn (mg : Str → Option Value) : Prop where
  letters : ∃ t, mg "LETTERS" = some (.str (Str.ofString "abcdefghijklmnopqrstuvwxyz") t)
  signs : ∃ t, mg "MOST_SIGNS" = some (.int 4 t)
  given : ∃ t, mg "MOST_GIVEN_STATES" = some (.int 40 t)
  most : ∃ t, mg "MOST_STATES" = some (.int 6 t)
def rInSg : R2 := fun x y H Q => ∃ (c : Nat) (z : Str), x = .str ⟨#[c]⟩ ∧ y = .str z ∧ Q (.bl (decide (c ∈ z.cps.toList))) H
theorem in26 (c : Nat) : c ∈ (Str.ofString "abcdefghijklmnopqrstuvwxyz").cps.toList ↔ 97 ≤ c ∧ c < 123 := by
  rw [abc_codes]
  constructor
  · intro h
    obtain ⟨j, hj, e⟩ := List.mem_map.mp h
    have := List.mem_range.mp hj
    omega
  · intro h
    exact List.mem_map.mpr ⟨c - 97, List.mem_range.mpr (by omega), by omega⟩
/-! ### flat data -/
def Leaf (d : PyData) : Prop := d.canLay0 = true ∧ d.depth = 0
theorem leaf_lay : ∀ ds : List PyData, (∀ d ∈ ds, Leaf d) → PyData.canLayAll0 ds = true
  | [], _ => rfl
  | d :: ds, h => by
    rw [PyData.canLayAll0, (h d List.mem_cons_self).1, leaf_lay ds fun x hx => h x (List.mem_cons_of_mem _ hx)]
    rfl
theorem leaf_depth : ∀ ds : List PyData, (∀ d ∈ ds, Leaf d) → PyData.depthAll ds = 0
  | [], _ => by simp [PyData.depthAll]
  | d :: ds, h => by
    rw [PyData.depthAll, (h d List.mem_cons_self).2, leaf_depth ds fun x hx => h x (List.mem_cons_of_mem _ hx)]
    rfl
theorem leaf_list {ds : List PyData} (h : ∀ d ∈ ds, Leaf d) : SeqAt.shaped (.list ds) = true := by
  unfold SeqAt.shaped
  rw [PyData.canLay0, leaf_lay ds h, PyData.depth, leaf_depth ds h]
  rfl
theorem leaf_tuple {ds : List PyData} (h : ∀ d ∈ ds, Leaf d) : SeqAt.shaped (.tuple ds) = true := by
  unfold SeqAt.shaped
  rw [PyData.canLay0, leaf_lay ds h, PyData.depth, leaf_depth ds h]
  rfl
theorem leaf_int (i : Int) : Leaf (.int i) := ⟨by simp [PyData.canLay0], by simp [PyData.depth]⟩
theorem leaf_bool (b : Bool) : Leaf (.bool b) := ⟨by simp [PyData.canLay0], by simp [PyData.depth]⟩
theorem leaf_lt {c : Nat} (h : c < 123) : Leaf (.str (lt c)) := ⟨by
    have key : ∀ k : Fin 123, PyData.canLay0 (.str (lt k.val)) = true := by decide +kernel
    exact key ⟨c, h⟩, by simp [PyData.depth]⟩
theorem dp_map {α : Type} {K : PySem.W.Frag} {H : Hp} {f : α → V} {g : α → PyData} (h : ∀ a, Dp K H (f a) (g a)) : ∀ xs : List α, DpAll K H (xs.map f) (xs.map g)
  | [] => .nil
  | a :: xs => .cons (h a) (dp_map h xs)
section
variable {P : Program} {w : World} {K : PySem.W.Frag} {mg : Str → Option Value} {base : Heap}
abbrev sWord : Stmt := top 11
abbrev nWord : List Str := ["value", "letter"]
theorem scWord : FnScope nWord ["value"] (defScope sWord) := ⟨rfl, rfl, rfl, by decide +kernel, rfl, by decide +kernel, by decide +kernel⟩
/-- all letters -/
def Lets (x : List Nat) : Prop := ∀ c ∈ x, 97 ≤ c ∧ c < 123
def spWord : Sp := fun vs H Q _ => ∃ v, vs = [v] ∧ ((NonStr H v ∧ Q (.bl false) H) ∨ ∃ x, v = .str (txt x) ∧ x.length ≤ 1000 ∧ ∀ b H', (b = true ↔ Lets x) → Same H H' → Q (.bl b) H')
theorem ok_word {f : Addr} {fd : FuncData} (F : Fun K "is_word" "is_word" sWord f fd) (B : Bl mg) (C : Cn mg) : FnOk P w K mg base CX0 1 f fd ["value"] spWord := by
  obtain ⟨tl, hl⟩ := C.letters
  refine F.ok scWord (fun vs H Q E h => ?_) (fun cdv A outer s H vs Q E hr h => ?_)
  · obtain ⟨v, rfl, _⟩ := h
    rfl
  · obtain ⟨v, rfl, k⟩ := h
    refine ⟨_, pss_one (ps_ret (pe_and (pe_callB call_isi (by rfl) B.isinstance (by decide +kernel) (pa_cons (pv 0) (pa_cons (pe_bltn (v := .ty "str") (by rfl) B.str (by decide +kernel) rfl) pa_nil)))
      (pe_one (pe_callB (cr_all rfl) (by rfl) B.all (by decide +kernel) (pa_cons (pe_lc (own := [("letter", 1)]) (g := gName 1) (tt := tYes) (te := tOp rInSg (tVar 1) (tC (.str (Str.ofString "abcdefghijklmnopqrstuvwxyz")))) rfl scWord.nd (pi_str (pv 0)) (blkOk_by (by kernel_rfl))
        (fun _ _ _ _ _ => pg_name (i := 1) scWord.nd rfl (.inl rfl)) (fun _ _ _ _ _ => pts_nil) (fun _ _ _ _ _ => pe_cmpR op_in_sign (pv 1) (pe_glob rfl hl ⟨tl, rfl⟩) (by rfl))) pa_nil))))), ?_⟩
    rcases k with ⟨hn, k⟩ | ⟨x, rfl, hx, k⟩
    · obtain ⟨t, h1, h2⟩ := hn.isi (K := K)
      exact ⟨_, rfl, _, _, t, _, false, rfl, .ty "str", h1, h2, false, rfl, k⟩
    · refine ⟨_, rfl, _, _, _, _, true, rfl, .ty "str", .base (.str _), kit_ty (by decide +kernel), true, rfl, ?_⟩
      have hz : (txt x).cps.size = x.length := by simp [txt]
      refine ⟨_, rfl, _, rfl, fun D hD => lc_S walk_str hD (by rw [hz]; omega) (fun i acc _ => acc = ((x.take i).map fun c => decide (97 ≤ c ∧ c < 123)).map V.bl) (fun _ _ _ _ _ _ _ h => h) rfl (fun _ _ => trivial) ?_ ?_⟩
      · rintro i v H3 H3' acc Qt Qf hi e3 hd rfl ⟨rfl, c, hc, rfl⟩ kt kf
        have hc' : x[i]? = some c := by simpa [txt] using hc
        refine ⟨rfl, _, rfl, c, _, rfl, rfl, kt _ _ (Same.refl _) ?_⟩
        have et : x.take (i + 1) = x.take i ++ [c] := by rw [List.take_add_one, hc']; rfl
        rw [et, List.map_append, List.map_append]
        have : decide (c ∈ (Str.ofString "abcdefghijklmnopqrstuvwxyz").cps.toList) = decide (97 ≤ c ∧ c < 123) := decide_eq_decide.mpr (in26 c)
        rw [this]
        rfl
      · rintro H1 acc e1 hd rfl
        rw [hz, List.take_length] at hd
        refine ⟨D, _, rfl, SqL.of hd, k _ _ ?_ e1⟩
        rw [List.all_eq_true]
        constructor
        · intro h c hc
          exact of_decide_eq_true (h _ (List.mem_map.mpr ⟨c, hc, rfl⟩))
        · intro h b hb
          obtain ⟨c, hc, rfl⟩ := List.mem_map.mp hb
          exact decide_eq_true (h c hc)
/-! ### are_signs -/
abbrev sSigns : Stmt := top 17
theorem scSigns : FnScope ["value"] ["value"] (defScope sSigns) := ⟨rfl, rfl, rfl, by decide +kernel, rfl, by decide +kernel, by decide +kernel⟩
def spSigns : Sp := fun vs H Q _ => ∃ cs, vs = [.str (txt cs)] ∧ Abc cs ∧ ∀ H', Same H H' → Q (.bl true) H'
theorem ok_signs {f : Addr} {fd : FuncData} (F : Fun K "are_signs" "are_signs" sSigns f fd) (B : Bl mg) (C : Cn mg) (Wd : Cal P w K mg base "is_word" 1 ["value"] spWord) : FnOk P w K mg base CX0 2 f fd ["value"] spSigns := by
  obtain ⟨tl, hl⟩ := C.signs
  refine F.ok scSigns (fun vs H Q E h => ?_) (fun cdv A outer s H vs Q E hr h => ?_)
  · obtain ⟨v, rfl, _⟩ := h
    rfl
  · obtain ⟨cs, rfl, ha, k⟩ := h
    refine ⟨_, pss_one (ps_ret (pe_and (pe_cal Wd hr (pa_cons (pv 0) pa_nil))
      (pe_and (pe_chain op_le op_le pe_int (pe_callB call_len_str (by rfl) B.len boot_len (pa_cons (pv 0) pa_nil)) (pe_glob (v := .int 4) rfl hl ⟨tl, rfl⟩))
        (pe_one (pe_cmpR (op_eqD hr.units) (pe_callTy (call_list_txt rfl) (by rfl) B.list (by decide +kernel) (pa_cons (pv 0) pa_nil)) (pe_callB (cr_sortedKS rfl) (by rfl) B.sorted (by decide +kernel) (pa_cons (pe_callTy (cr_setK rfl) (by rfl) B.set (by decide +kernel) (pa_cons (pv 0) pa_nil)) pa_nil)) (nomark _)))))), ?_⟩
    have hz : (txt cs).length ≤ sizeLine := by rw [txt_len, sizeLine_eq]; have := ha.four; omega
    refine ⟨_, rfl, _, rfl, .inr ⟨cs, rfl, by have := ha.four; omega, fun b H1 hb e1 => ?_⟩⟩
    have hb' : b = true := hb.mpr ha.abc
    subst hb'
    refine ⟨true, rfl, ?_⟩
    refine ⟨_, rfl, _, rfl, hz, _, _, rfl, rfl, _, rfl, ?_⟩
    have h1 : decide ((1 : Int) ≤ ((txt cs).length : Nat)) = true := decide_eq_true (by rw [txt_len]; have := ha.one; omega)
    have h4 : decide (((txt cs).length : Nat) ≤ (4 : Int)) = true := decide_eq_true (by rw [txt_len]; have := ha.four; omega)
    rw [h1]
    refine ⟨_, _, rfl, rfl, _, rfl, ?_⟩
    rw [h4]
    refine ⟨_, rfl, _, rfl, hz, fun l hl => ?_⟩
    refine ⟨_, rfl, cs.map (fun c => (Sum.inr (lt c) : Key)), .inr ⟨_, rfl, by rw [txt_codes]⟩, by rw [List.length_map]; have := ha.four; omega, fun p kl hp nd hm _ => ?_⟩
    have ndc : (cs.map (fun c => (Sum.inr (lt c) : Key))).Nodup := List.Pairwise.map _ (fun a b hab e => hab (lt_inj (Sum.inr.inj e))) (ris_nodup ha.ris)
    have pm : kl.Perm ((cs.map lt).map Sum.inr) := by
      rw [List.map_map]
      exact (List.perm_ext_iff_of_nodup nd ndc).mpr hm
    obtain ⟨ts, rfl, pt⟩ := perm_inr (l := []) pm
    have tl4 : ts.length < 64 := by have := pt.length_eq; rw [List.length_map] at this; have := ha.four; omega
    refine ⟨p, ts, rfl, upd_same, tl4, fun ys q py so hq => ?_⟩
    obtain ⟨ds, rfl, pd⟩ := perm_lt (py.trans pt)
    have ed : ds = cs := List.Perm.eq_of_pairwise (le := (· ≤ ·)) (fun a b _ _ h1 h2 => Nat.le_antisymm h1 h2) (sorted_lt ds so) (ha.ris.imp fun h => Nat.le_of_lt h) pd
    subst ed
    have n1 : l ≠ p := ne_of_none upd_same hp
    have n2 : l ≠ q := ne_of_none (by rw [upd_ne n1]; exact upd_same) hq
    have lf : ∀ d ∈ ds.map (fun c => PyData.str (lt c)), Leaf d := fun d hd => by
      obtain ⟨c, hc, rfl⟩ := List.mem_map.mp hd
      exact leaf_lt (ha.abc c hc).2
    refine ⟨.list (ds.map fun c => .str (lt c)), .list (ds.map fun c => .str (lt c)), .lst (SqL.of (xs := ds.map ltV) (by rw [upd_ne n2, upd_ne n1, upd_same, txt_codes])) (dp_map (fun c => .str _) ds), .lst (SqL.of (xs := ds.map ltV) (by rw [upd_same, List.map_map]; rfl)) (dp_map (fun c => .str _) ds), leaf_list lf, leaf_list lf, ?_⟩
    rw [SeqAt.eqv_refl _ (SeqAt.canLay_of_shaped (leaf_list lf))]
    exact k _ (((e1.trans (same_new hl)).trans (same_new hp)).trans (same_new hq))
/-! ### is_number_below -/
abbrev sNum : Stmt := top 18
theorem scNum : FnScope ["value", "limit"] ["value", "limit"] (defScope sNum) := ⟨rfl, rfl, rfl, by decide +kernel, rfl, by decide +kernel, by decide +kernel⟩
def spNum : Sp := fun vs H Q _ => ∃ i m, vs = [.int i, .int m] ∧ 0 ≤ i ∧ i < m ∧ Q (.bl true) H
theorem ok_num {f : Addr} {fd : FuncData} (F : Fun K "is_number_below" "is_number_below" sNum f fd) (B : Bl mg) : FnOk P w K mg base CX0 1 f fd ["value", "limit"] spNum := by
  refine F.ok scNum (fun vs H Q E h => ?_) (fun cdv A outer s H vs Q E hr h => ?_)
  · obtain ⟨i, m, rfl, _⟩ := h
    rfl
  · obtain ⟨i, m, rfl, i0, i1, k⟩ := h
    refine ⟨_, pss_one (ps_ret (pe_and (pe_callB call_isi (by rfl) B.isinstance (by decide +kernel) (pa_cons (pv 0) (pa_cons (pe_bltn (v := .ty "int") (by rfl) B.int (by decide +kernel) rfl) pa_nil)))
      (pe_and (pe_not (pe_callB call_isi (by rfl) B.isinstance (by decide +kernel) (pa_cons (pv 0) (pa_cons (pe_bltn (v := .ty "bool") (by rfl) B.bool (by decide +kernel) rfl) pa_nil))))
        (pe_one (pe_chain op_le op_lt pe_int (pv 0) (pv 1)))))), ?_⟩
    refine ⟨_, rfl, _, _, _, _, true, rfl, .ty "int", .base (.int i), kit_ty (by decide +kernel), true, rfl, ?_⟩
    refine ⟨_, rfl, _, _, _, _, false, rfl, .ty "bool", .base (.int i), kit_ty (by decide +kernel), false, rfl, true, rfl, ?_⟩
    refine ⟨_, rfl, _, _, rfl, rfl, _, rfl, ?_⟩
    rw [decide_eq_true i0]
    refine ⟨_, rfl, _, _, rfl, rfl, ?_⟩
    show Q (.bl (decide (i < m))) H
    rw [decide_eq_true i1]
    exact k
end
end SS

set_option maxRecDepth 100000
set_option maxHeartbeats 4000000
namespace SR
open PySem PySem.Spec PyProof.Rows L2
/-! enumerate over a tuple, over the keys of a dict. -/
def ItE (src : Hp → Prop) (xs : List V) : It :=
  ⟨fun i H => src H ∧ i < xs.length, fun i H v H' => ∃ T x, v = .ref T ∧ H T = none ∧ H' = upd H T (.tup [.int (i : Nat), x]) ∧ xs[i]? = some x, fun i H => src H ∧ i = xs.length⟩
theorem walk_enumE {src : Hp → Prop} {xs : List V} : Walk (ItE src xs) xs.length src (YPair (fun i => some (.int (i : Nat))) (fun i => xs[i]?)) := by
  refine ⟨fun i _ hi q => ⟨q, hi⟩, fun _ q => ⟨q, rfl⟩, fun i H v H' _ q y => ?_⟩
  obtain ⟨T, x, h1, h2, h3, h4⟩ := y
  exact ⟨T, .int (i : Nat), x, h1, h2, h3, rfl, h4⟩
structure ESrc (P : Program) (w : World) (K : PySem.W.Frag) (src : Hp → Prop) (xs : List V) (a it : Addr) (At : Nat → Heap → Prop) : Prop where
  draws : ∀ (X : Cx), X.prog = P → X.w = w → X.K = K → X.calm = true → ∀ (pins : List (Addr × Obj)) (s : Shared) (σ : L2.St) (H : Hp), Inv X pins σ H s → src H →
    ∃ (Pv : Nat → Value → Prop) (St0 : Nat → Heap → Prop), Draws P w X.A.in1 it [it, a] xs.length Pv St0 ∧ (∀ i, At i s.heap → St0 i s.heap) ∧ (∀ i h', St0 i h' → At i h') ∧ ∀ (i : Nat) (v : Value) (x : V), Pv i v → xs[i]? = some x → RelV x v
  obj : ∀ i h, At i h → ∃ o, h.get? it = some o ∧ ∀ v, o.data ≠ .cell v
  keep : ∀ i h h', At i h → (∀ o, h.get? it = some o → h'.get? it = some o) → At i h'
theorem turn_enumS {P : Program} {w : World} {K : PySem.W.Frag} {src : Hp → Prop} {xs : List V} {a it e : Addr} {At : Nat → Heap → Prop} (S : ESrc P w K src xs a it At) (hei : e ≠ it) (hea : e ≠ a) {elts : List Expr} {kk : Nat} {tpos : Pos} :
    Turn P w K (.Tuple elts kk tpos) (ItE src xs) [e, it] e (fun i h => (∃ old, IsEnum h e it ((i : Nat) : Int) old) ∧ At i h) where
  mem := by simp
  obj := fun i h st b hb => by
    obtain ⟨⟨old, he⟩, ha⟩ := st
    have e' : b = e ∨ b = it := by simpa using hb
    rcases e' with z | z
    · rw [z]; exact ⟨_, he, fun v q => nomatch q⟩
    · rw [z]; exact S.obj i h ha
  keep := fun i h h' st k => ⟨let ⟨old, he⟩ := st.1; ⟨old, k e (by simp) _ he⟩, S.keep i h h' st.2 fun o q => k it (by simp) o q⟩
  item := by
    intro X hP hw hK hc i pins s σ H E I hf st hg
    obtain ⟨Pv, St0, D, d1, d2, d3⟩ := S.draws X hP hw hK hc pins s σ H I hg.1
    subst hP hw hK
    obtain ⟨⟨old, he⟩, ha⟩ := st
    obtain ⟨x, hx⟩ : ∃ x, xs[i]? = some x := ⟨xs[i]'hg.2, List.getElem?_eq_getElem hg.2⟩
    have hel : e < s.heap.objs.size := Heap.lt_size he
    have hil : it < s.heap.objs.size := by obtain ⟨_, q, _⟩ := S.obj i _ ha; exact Heap.lt_size q
    refine wpAny_pyNext_enum_itemD D he (d1 i ha) hg.2 hei (by simp [hei, hea]) fun u h' tk hPu ho hst hT hsz hk => ?_
    have ru := d3 i u x hPu hx
    refine ⟨_, rfl, wpAny_letOwnedTupleGo_enum (s := { s with heap := h', toks := tk + 1 }) ho fun h'' he' sb => ?_⟩
    have hT2 : h''.get? s.heap.objs.size = some { cls := .type "tuple", data := .seq #[.int i tk, u] } := (sb.2 _ (Nat.ne_of_gt hel)).trans hT
    have new : ObjOk X.prog X.w (upd H s.heap.objs.size (.tup [.int (i : Nat), x])) h'' s.heap.objs.size (.tup [.int (i : Nat), x]) :=
      ⟨by show 2 ≤ sizeLine; decide, [.int i tk, u], .cons ⟨_, rfl⟩ (.cons ru .nil), ⟨_, hT2, rfl, _, rfl⟩⟩
    have I1 : Inv X pins σ (upd H s.heap.objs.size (.tup [.int (i : Nat), x])) { s with heap := h'', toks := tk + 1 } :=
      I.turnedNew (ch := [e, it]) (fun b ob hb q => (sb.2 b (fun z => hb (by simp [z]))).trans (hk b ob (fun z => hb (by simp [z])) (fun z => hb (by simp [z])) q)) hf (Nat.le_refl _) new
    refine ⟨.ref s.heap.objs.size, _, I1, rfl, ⟨_, x, rfl, I.hok.fresh (Nat.le_refl _), rfl, hx⟩, ⟨⟨u, ?_⟩, S.keep _ _ _ (d2 _ _ hst) fun o q => (sb.2 it (Ne.symm hei)).trans q⟩, fun b hb => ?_⟩
    · have e1 : ((i + 1 : Nat) : Int) = (i : Int) + 1 := by omega
      rw [e1]; exact he'
    · have hb' : b < s.heap.objs.size := by
        have e' : b = e ∨ b = it := by simpa using hb
        rcases e' with z | z
        · rw [z]; exact hel
        · rw [z]; exact hil
      rw [upd_ne (Nat.ne_of_lt hb')]
      exact (hf b hb).1
  done := by
    intro X hP hw hK hc i pins s σ H E I hf st hg
    obtain ⟨Pv, St0, D, d1, d2, d3⟩ := S.draws X hP hw hK hc pins s σ H I hg.1
    subst hP hw hK
    obtain ⟨⟨old, he⟩, ha⟩ := st
    obtain ⟨hs, rfl⟩ := hg
    obtain ⟨f0, f1, f2, f3, f4, f5⟩ := hf it (by simp)
    exact wpAny_pyNext_enum_endD D he (d1 _ ha) fun h' eb => ⟨rfl, I.turned (t' := s.toks) (fun b o hb q => eb b o hb q) f0 f1 f3 f4 f5⟩
  self := fun A i s Q E st h => let ⟨⟨_, he⟩, _⟩ := st; wpAny_pyIter_enum he h
/-! ### enumerate(v): its two new cells -/
set_option maxHeartbeats 4000000 in
theorem meets_enum1 {v : Value} {o : Obj} {H : Heap → Prop} (B : Begins v o H) :
    Meets (Builtin.«enumerate.__new__» ⟨[.type "enumerate", v], []⟩) (fun _ R s => H s.heap ∧
      R (.ok (.ret (.ref (s.heap.push o).objs.size))) { s with heap := (s.heap.push o).push { cls := .type "enumerate", data := .fields #[.none, .bool false, .ref s.heap.objs.size, rawInt 0, .none, .none] } }) :=
  .of_wp fun prog w A R s h => by
    obtain ⟨hp, g, d, tk, os⟩ := s; obtain ⟨h1, h⟩ := h
    have hsub := sub_enumerate
    have q1 : ∀ {A' : Around} {E : Value → Shared → Prop} {Q : Value → Shared → Prop}, Q (.ref hp.objs.size) ⟨hp.push o, g, d, tk, os⟩ → wpAny (model prog w) A' (pyIter v) Q E ⟨hp, g, d, tk, os⟩ :=
      fun q => B.iter prog w _ _ ⟨hp, g, d, tk, os⟩ _ h1 q
    wp_walk using q1
    refine wpAny_stack_any fun st => wpAny_pure ?_
    split
    · rename_i c _ _ _ _ _
      cases (c == Value.type "enumerate")
      · wp_walk using q1
        exact ⟨_, rfl, h⟩
      · wp_walk using q1
        exact ⟨_, rfl, h⟩
    · wp_walk using q1
      exact ⟨_, rfl, h⟩
section
variable {prog : Program} {w : World} {A : Around} {E : Value → Shared → Prop} {s : Shared}
theorem enum_begins1 {v : Value} {o : Obj} {H : Heap → Prop} {Q : Value → Shared → Prop} (B : Begins v o H) (h1 : H s.heap)
    (h : ∀ h', IsEnum h' (s.heap.objs.size + 1) s.heap.objs.size 0 .none → h'.get? s.heap.objs.size = some o → h'.objs.size = s.heap.objs.size + 2 →
      (∀ b o, s.heap.get? b = some o → h'.get? b = some o) → Q (.ref (s.heap.objs.size + 1)) { s with heap := h' }) :
    wpAny (model prog w) A (call (.type "enumerate") [v]) Q E s := by
  refine callType_new F.called_enumerate (by decide) (F.typeCall_enumerate_1 _) (F.newCall_enumerate_1 _) (fun obj => F.args_object_init_2 obj _) F.entry_enumerate_new (meets_enum1 B) ⟨h1, ?_⟩
  have hz : (s.heap.push o).objs.size = s.heap.objs.size + 1 := Heap.size_push ..
  have he : IsEnum ((s.heap.push o).push { cls := .type "enumerate", data := .fields #[.none, .bool false, .ref s.heap.objs.size, rawInt 0, .none, .none] }) (s.heap.objs.size + 1) s.heap.objs.size 0 .none := by
    have := Heap.get?_push_size (s.heap.push o) (o := { cls := .type "enumerate", data := .fields #[.none, .bool false, .ref s.heap.objs.size, rawInt 0, .none, .none] }) rfl
    rw [hz] at this; exact this
  show _ ∧ _
  rw [hz]
  exact ⟨⟨_, he, rfl⟩, h _ he (Heap.get?_push_of_some _ (Heap.get?_push_size _ B.free)) (by rw [Heap.size_push, hz]) fun b o x => Heap.get?_push_of_some _ (Heap.get?_push_of_some _ x)⟩
end
/-! ### over a tuple -/
theorem src_tuple {P : Program} {w : World} {K : PySem.W.Frag} {a it : Addr} {xs : List V} (hne : a ≠ it) : ESrc P w K (fun H => SqT K H a xs) xs a it (fun i h => h.IsTupleIter it a i) where
  draws := by
    intro X hP hw hK hc pins s σ H I hs
    subst hP hw hK
    obtain ⟨its, rv, ht, hz⟩ := I.tuple hs
    have hl : its.toArray.size = xs.length := by rw [List.size_toArray, ← rv.length]
    have D := Draws.tuple (prog := X.prog) (w := X.w) (A := X.A.in1) (I.ok.hd hc) it a hne its.toArray
    rw [hl] at D
    refine ⟨_, _, D, fun i h => ⟨h, ht⟩, fun i h' h => h.1, fun i v x hv hx => ?_⟩
    obtain ⟨u, hu, ru⟩ := rv.get hx
    have e : its[i]? = some v := by simpa using hv
    rw [hu] at e
    cases e
    exact ru
  obj := fun i h st => by
    obtain ⟨o, ho, hc, hd⟩ := st
    exact ⟨o, ho, fun v q => by rw [hd] at q; cases q⟩
  keep := fun i h h' st k => st.at fun o e => k o e
def iEnumT (K : PySem.W.Frag) (ta : TA) : TI := fun σ H R => ta σ H fun vs H1 => ∃ a xs, vs = [.ref a] ∧ SqT K H1 a xs ∧ R (ItE (fun H => SqT K H a xs) xs) H1
theorem pi_enumT {X : Cx} {e : Expr} {ta : TA} {p pos tpos : Pos} {elts : List Expr} {kk : Nat} (hg : Gl X "enumerate") (hm : X.mg "enumerate" = none) (ha : PA X [e] ta) (hs : starEach [e] X.env = [(false, eval e X.env)] := by rfl) :
    PI X (.Tuple elts kk tpos) (.Call (.Name "enumerate" p) [e] [] pos) (iEnumT X.K ta) := by
  refine ⟨fun pins s σ H R I h => ?_⟩
  refine Call_ (ld_blt I hg hm boot_enumerate (PyProof.Rows.callWith_type1 (thn (ha.run pos pins s σ H _ I h) fun us s1 ⟨vs, H1, I1, r1, q1⟩ => ?_) hs rfl))
  obtain ⟨a, xs, ex, hq, q⟩ := q1
  subst ex
  cases r1 with
  | cons r rr =>
    cases rr
    cases r
    obtain ⟨its, rv, ht, hz⟩ := I1.tuple hq
    have hla : a < s1.heap.objs.size := by obtain ⟨_, z, _⟩ := ht; exact Heap.lt_size z
    refine enum_begins1 (begins_tuple a its.toArray) ht fun h' he hit hsz hk => wpAny_pyIter_enum he ?_
    have I2 : Inv X pins σ H1 { s1 with heap := h' } := I1.kept (t' := s1.toks) hk
    refine ⟨s1.heap.objs.size + 1, [s1.heap.objs.size + 1, s1.heap.objs.size], _, _, H1, rfl, I2, turn_enumS (src_tuple (a := a) (it := s1.heap.objs.size) (xs := xs) (Nat.ne_of_lt hla)) (Nat.succ_ne_self _) (Nat.ne_of_gt (Nat.lt_succ_of_lt hla)), ⟨⟨.none, he⟩, _, hit, rfl, rfl⟩, fun b hb => ?_, q⟩
    have e' : b = s1.heap.objs.size + 1 ∨ b = s1.heap.objs.size := by simpa using hb
    have hle : s1.heap.objs.size ≤ b := by
      rcases e' with z | z
      · rw [z]; exact Nat.le_add_right _ _
      · rw [z]; exact Nat.le_refl _
    exact I1.fpOk hle (I1.hok.fresh hle)
end SR

set_option maxRecDepth 100000
set_option maxHeartbeats 4000000
namespace SR
open PySem PySem.Spec PyProof.Rows L2
/-! A list or a tuple, walked. -/
def LoT (H : Hp) (a : Addr) (xs : List V) : Prop := H a = some (.lst xs) ∨ H a = some (.tup xs)
theorem LoT.mono {H H' : Hp} {a : Addr} {xs : List V} (e : Same H H') (h : LoT H a xs) : LoT H' a xs := h.imp (e _ _) (e _ _)
theorem LoT.seq {K : PySem.W.Frag} {H : Hp} {a : Addr} {xs : List V} (h : LoT H a xs) : SqL K H a xs ∨ SqT K H a xs := h.imp SqL.of SqT.of
theorem isi_LT {K : PySem.W.Frag} {H : Hp} {a : Addr} {xs : List V} (h : LoT H a xs) : ∃ t, TyX K H (.ref a) t ∧ PySem.W.kitAny K t [.type "list", .type "tuple"] = some true := by
  rcases h with h | h
  · exact ⟨_, .base (.lst h), kitAny_cons (kit_ty (b := "list") (r := true) (by decide +kernel)) nofun fun _ => rfl⟩
  · exact ⟨_, .base (.tup h), kitAny_cons (kit_ty (b := "list") (r := false) (by decide +kernel)) (fun _ => kitAny_cons (kit_ty (b := "tuple") (r := true) (by decide +kernel)) nofun fun _ => rfl) nofun⟩
def iLoT (tl : TE) : TI := fun σ H R => tl σ H fun x H1 => ∃ a xs, x = .ref a ∧ LoT H1 a xs ∧ ∀ (J : It) (G : Hp → Prop), Walk J xs.length G (YAt xs) → (∀ H', Same H1 H' → G H') → R J H1
theorem pi_lot {X : Cx} {tg l : Expr} {tl : TE} (hl : PE X l tl) : PI X tg l (iLoT tl) := by
  refine ⟨fun pins s σ H R I h => ?_⟩
  refine thn (hl.run pins s σ H _ I h) fun v s1 ⟨x, H1, I1, r1, q1⟩ => ?_
  obtain ⟨a, xs, e, hq, q⟩ := q1
  subst e
  cases r1
  rcases hq with hq | hq
  · have hq' : SqL X.K H1 a xs := SqL.of hq
    obtain ⟨its, rv, p, hz⟩ := I1.list hq'
    refine wpAny_pyIter_list p.isList ?_
    exact pi_one (tk := s1.toks) I1 _ (turn_list a _) ⟨_, Heap.get?_push_size _ rfl, rfl, rfl⟩ (q (Itl X.K a) _ walk_list fun H' e => e.seq hq')
  · have hq' : SqT X.K H1 a xs := SqT.of hq
    obtain ⟨its, rv, p, hz⟩ := I1.tuple hq'
    refine wpAny_pyIter_tuple (show s1.heap.IsTuple a its.toArray from p) ?_
    exact pi_one (tk := s1.toks) I1 _ (turn_tuple a _) ⟨_, Heap.get?_push_size _ rfl, rfl, rfl⟩ (q (Itt X.K a) _ walk_tup fun H' e => SqT.of (e _ _ hq))
def iEnumL (ta : TA) : TI := fun σ H R => ta σ H fun vs H1 => ∃ a xs, vs = [.ref a] ∧ LoT H1 a xs ∧ ∀ (J : It) (G : Hp → Prop), Walk J xs.length G (YPair (fun i => some (.int (i : Nat))) (fun i => xs[i]?)) → (∀ H', Same H1 H' → G H') → R J H1
theorem pi_enumL {X : Cx} {e : Expr} {ta : TA} {p pos tpos : Pos} {elts : List Expr} {kk : Nat} (hg : Gl X "enumerate") (hm : X.mg "enumerate" = none) (ha : PA X [e] ta) (hs : starEach [e] X.env = [(false, eval e X.env)] := by rfl) :
    PI X (.Tuple elts kk tpos) (.Call (.Name "enumerate" p) [e] [] pos) (iEnumL ta) := by
  refine ⟨fun pins s σ H R I h => ?_⟩
  refine Call_ (ld_blt I hg hm boot_enumerate (PyProof.Rows.callWith_type1 (thn (ha.run pos pins s σ H _ I h) fun us s1 ⟨vs, H1, I1, r1, q1⟩ => ?_) hs rfl))
  obtain ⟨a, xs, ex, hq, q⟩ := q1
  subst ex
  cases r1 with
  | cons r rr =>
    cases rr
    cases r
    rcases hq with hq | hq
    · have hq' : SqL X.K H1 a xs := SqL.of hq
      obtain ⟨its, rv, p', hz⟩ := I1.list hq'
      refine call_enumerate_list p'.isList fun h' he hit hsz hk => wpAny_pyIter_enum he ?_
      have I2 : Inv X pins σ H1 { s1 with heap := h' } := I1.kept (t' := s1.toks) hk
      refine ⟨s1.heap.objs.size + 1, [s1.heap.objs.size + 1, s1.heap.objs.size], _, _, H1, rfl, I2, turn_enum a (s1.heap.objs.size + 1) s1.heap.objs.size, ⟨⟨.none, he⟩, hit, Nat.succ_ne_self _⟩, fun b hb => ?_, q (Ite X.K a) _ walk_enum fun H' e => e.seq hq'⟩
      have e' : b = s1.heap.objs.size + 1 ∨ b = s1.heap.objs.size := by simpa using hb
      have hle : s1.heap.objs.size ≤ b := by
        rcases e' with z | z
        · rw [z]; exact Nat.le_add_right _ _
        · rw [z]; exact Nat.le_refl _
      exact I1.fpOk hle (I1.hok.fresh hle)
    · have hq' : SqT X.K H1 a xs := SqT.of hq
      obtain ⟨its, rv, ht, hz⟩ := I1.tuple hq'
      have hla : a < s1.heap.objs.size := by obtain ⟨_, z, _⟩ := ht; exact Heap.lt_size z
      refine enum_begins1 (begins_tuple a its.toArray) ht fun h' he hit hsz hk => wpAny_pyIter_enum he ?_
      have I2 : Inv X pins σ H1 { s1 with heap := h' } := I1.kept (t' := s1.toks) hk
      refine ⟨s1.heap.objs.size + 1, [s1.heap.objs.size + 1, s1.heap.objs.size], _, _, H1, rfl, I2, turn_enumS (src_tuple (a := a) (it := s1.heap.objs.size) (xs := xs) (Nat.ne_of_lt hla)) (Nat.succ_ne_self _) (Nat.ne_of_gt (Nat.lt_succ_of_lt hla)), ⟨⟨.none, he⟩, _, hit, rfl, rfl⟩, fun b hb => ?_, q (ItE (fun H => SqT X.K H a xs) xs) _ walk_enumE fun H' e => SqT.of (e _ _ hq)⟩
      have e' : b = s1.heap.objs.size + 1 ∨ b = s1.heap.objs.size := by simpa using hb
      have hle : s1.heap.objs.size ≤ b := by
        rcases e' with z | z
        · rw [z]; exact Nat.le_add_right _ _
        · rw [z]; exact Nat.le_refl _
      exact I1.fpOk hle (I1.hok.fresh hle)
end SR

set_option maxRecDepth 100000
set_option maxHeartbeats 4000000
namespace SS
open PySem L2 SR TL
section
variable {P : Program} {w : World} {K : PySem.W.Frag} {mg : Str → Option Value} {base : Heap}
/-! ### is_state_row -/
abbrev sSrow : Stmt := top 19
abbrev nSrow : List Str := ["value", "signs", "many", "sign"]
theorem scSrow : FnScope nSrow ["value", "signs", "many"] (defScope sSrow) := ⟨rfl, rfl, rfl, by decide +kernel, rfl, by decide +kernel, by decide +kernel⟩
theorem all_true : ∀ n : Nat, (List.replicate n true).all id = true
  | 0 => rfl
  | n + 1 => by rw [List.replicate_succ, List.all_cons, all_true n]; rfl
def spSrow : Sp := fun vs H Q _ => ∃ (q : Addr) (cs : List Nat) (row : List Int) (m : Int), vs = [.ref q, .str (txt cs), .int m] ∧ cs.length ≤ 100 ∧ row.length = cs.length ∧ (∀ g ∈ row, 0 ≤ g ∧ g < m) ∧ RowAt H cs q row ∧ ∀ H', Same H H' → Q (.bl true) H'
theorem ok_srow {f : Addr} {fd : FuncData} (F : Fun K "is_state_row" "is_state_row" sSrow f fd) (B : Bl mg) (N : Cal P w K mg base "is_number_below" 1 ["value", "limit"] spNum) : FnOk P w K mg base CX0 2 f fd ["value", "signs", "many"] spSrow := by
  refine F.ok scSrow (fun vs H Q E h => ?_) (fun cdv A outer s H vs Q E hr h => ?_)
  · obtain ⟨q, cs, row, m, rfl, _⟩ := h
    rfl
  · obtain ⟨q, cs, row, m, rfl, hc, hl, hg, hq, k⟩ := h
    have hu := hu_of hr
    refine ⟨_, pss_cons (ps_if (PW.pt (pw_or (pt_not (pt_val (pe_callB call_isi (by rfl) B.isinstance (by decide +kernel) (pa_cons (pv 0) (pa_cons (pe_bltn (v := .ty "dict") (by rfl) B.dict (by decide +kernel) rfl) pa_nil)))))
          (pw_or1 (pt_cmpR op_ne (pe_callB call_lenD (by rfl) B.len boot_len (pa_cons (pv 0) pa_nil)) (pe_callB call_len_str (by rfl) B.len boot_len (pa_cons (pv 1) pa_nil)) (nomark _)))))
        (pss_one (ps_ret pe_bl)) pss_nil)
      (pss_one (ps_ret (pe_callB (cr_all rfl) (by rfl) B.all (by decide +kernel) (pa_cons (pe_lc (own := [("sign", 3)]) (g := gName 3) (tt := tYes) (te := tAndV (tDIn (tVar 3) (tVar 0)) (tCall spNum [] E0 (tCons (tDGet (tVar 0) (tVar 3)) (tCons (tVar 2) tNil)))) rfl scSrow.nd (pi_str (pv 1)) (blkOk_by (by kernel_rfl))
        (fun _ _ _ _ _ => pg_name (i := 3) scSrow.nd rfl (.inl rfl)) (fun _ _ _ _ _ => pts_nil) (fun _ _ _ _ _ => pe_and (pe_cmp (pc_din hu (pv 3) (pv 0)) rfl) (pe_one (pe_cal N hr (pa_cons (pe_dget hu (pv 0) (pv 3) (fun _ _ => rfl)) (pa_cons (pv 2) pa_nil)))))) pa_nil)))), ?_⟩
    have hz : (txt cs).length ≤ sizeLine := by rw [txt_len, sizeLine_eq]; omega
    have hz' : (txt cs).cps.size = cs.length := by simp [txt]
    refine ⟨_, rfl, _, _, _, _, true, rfl, .ty "dict", .base (.dK hq), kit_ty (by decide +kernel), _, rfl, ?_⟩
    refine ⟨_, rfl, _, _, rfl, hq, _, rfl, _, rfl, hz, rfl, _, rfl, ?_⟩
    have hlen : ((rowK cs row).length : Int) = ((txt cs).length : Nat) := by
      rw [txt_len]
      have : (rowK cs row).length = cs.length := by unfold rowK; simp; omega
      rw [this]
    refine ite2 (fun h => absurd h ?_) (fun _ => ?_)
    · simp [hlen]
    refine ⟨_, rfl, _, rfl, fun D hD => lc_S walk_str hD (by rw [hz']; omega) (fun i acc _ => acc = (List.replicate i true).map V.bl) (fun _ _ _ _ _ _ _ h => h) rfl (fun _ _ => trivial) ?_ ?_⟩
    · rintro i v H3 H3' acc Qt Qf hi e3 hd rfl ⟨rfl, c, hc, rfl⟩ kt kf
      have hc' : cs[i]? = some c := by simpa [txt] using hc
      have hm := List.mem_of_getElem? hc'
      have hv := val_row hl hm
      have hgg : row.getD (cs.idxOf c) 0 ∈ row := by
        have hi : cs.idxOf c < row.length := by rw [hl]; exact List.idxOf_lt_length_of_mem hm
        rw [List.getD_eq_getElem?_getD, List.getElem?_eq_getElem hi]
        exact List.getElem_mem hi
      have gd : DGet H3' q (ltV c) (some (.int (row.getD (cs.idxOf c) 0))) := by
        rw [← hv]
        exact DGet.k (k := Sum.inr (lt c)) (e3 _ _ hq)
      refine ⟨rfl, _, rfl, _, rfl, q, _, rfl, gd, true, rfl, _, rfl, _, rfl, q, _, rfl, gd, _, rfl, _, _, rfl, (hg _ hgg).1, (hg _ hgg).2, kt _ _ (Same.refl _) ?_⟩
      rw [List.replicate_succ', List.map_append]
      rfl
    · rintro H1 acc e1 hd rfl
      refine ⟨D, _, rfl, SqL.of hd, ?_⟩
      rw [all_true]
      exact k _ e1
/-! ### are_states -/
abbrev sSta : Stmt := top 20
abbrev nSta : List Str := ["value", "many", "state"]
theorem scSta : FnScope nSta ["value", "many"] (defScope sSta) := ⟨rfl, rfl, rfl, by decide +kernel, rfl, by decide +kernel, by decide +kernel⟩
def spSta : Sp := fun vs H Q _ => ∃ (a : Addr) (m : Int) (es : List Int), vs = [.ref a, .int m] ∧ es.length ≤ 100 ∧ es.Nodup ∧ (∀ g ∈ es, 0 ≤ g ∧ g < m) ∧ LoT H a (es.map .int) ∧ ∀ H', Same H H' → Q (.bl true) H'
theorem ok_sta {f : Addr} {fd : FuncData} (F : Fun K "are_states" "are_states" sSta f fd) (B : Bl mg) (N : Cal P w K mg base "is_number_below" 1 ["value", "limit"] spNum) : FnOk P w K mg base CX0 2 f fd ["value", "many"] spSta := by
  refine F.ok scSta (fun vs H Q E h => ?_) (fun cdv A outer s H vs Q E hr h => ?_)
  · obtain ⟨a, m, es, rfl, _⟩ := h
    rfl
  · obtain ⟨a, m, es, rfl, hl, nd, hg, ha, k⟩ := h
    refine ⟨_, pss_cons (ps_if (PW.pt (pw_or (pt_not (pt_val (pe_callB call_isiT (by rfl) B.isinstance (by decide +kernel) (pa_cons (pv 0) (pa_cons (pe_tup (pa_cons (pe_bltn (v := .ty "list") (by rfl) B.list (by decide +kernel) rfl) (pa_cons (pe_bltn (v := .ty "tuple") (by rfl) B.tuple (by decide +kernel) rfl) pa_nil))) pa_nil)))))
          (pw_or1 (pt_not (pt_val (pe_callB (cr_all rfl) (by rfl) B.all (by decide +kernel) (pa_cons (pe_lc (own := [("state", 2)]) (g := gName 2) (tt := tYes) (te := tCall spNum [] E0 (tCons (tVar 2) (tCons (tVar 1) tNil))) rfl scSta.nd (pi_lot (pv 0)) (blkOk_by (by kernel_rfl))
            (fun _ _ _ _ _ => pg_name (i := 2) scSta.nd rfl (.inl rfl)) (fun _ _ _ _ _ => pts_nil) (fun _ _ _ _ _ => pe_cal N hr (pa_cons (pv 2) (pa_cons (pv 1) pa_nil)))) pa_nil)))))))
        (pss_one (ps_ret pe_bl)) pss_nil)
      (pss_one (ps_ret (pe_cmpR op_eq (pe_callB cr_lenK (by rfl) B.len boot_len (pa_cons (pe_callTy (cr_setK rfl) (by rfl) B.set (by decide +kernel) (pa_cons (pv 0) pa_nil)) pa_nil)) (pe_callB call_len_seq (by rfl) B.len boot_len (pa_cons (pv 0) pa_nil)) (nomark _)))), ?_⟩
    refine ⟨_, rfl, (by show 2 ≤ sizeLine; decide), fun T hT => ?_⟩
    have e0 : Same H (upd H T (.tup [.ty "list", .ty "tuple"])) := same_new hT
    obtain ⟨t, ty, kt⟩ := isi_LT (K := K) (ha.mono e0)
    refine ⟨_, T, _, t, _, true, rfl, upd_same, .cons (.ty _) (.cons (.ty _) .nil), ty, kt, true, rfl, ?_⟩
    refine ⟨_, rfl, a, _, rfl, ha.mono e0, fun J G wk hG D hD => lc_S wk hD (by rw [List.length_map]; omega) (fun i acc _ => acc = (List.replicate i true).map V.bl) (fun _ _ _ _ _ _ _ h => h) rfl hG ?_ ?_⟩
    · rintro i v H3 H3' acc Qt Qf hi e3 hd rfl ⟨rfl, hv⟩ kt kf
      rw [List.getElem?_map] at hv
      obtain ⟨g, hg', rfl⟩ := Option.map_eq_some_iff.mp hv
      have hgm := hg g (List.mem_of_getElem? hg')
      refine ⟨rfl, _, rfl, _, rfl, _, _, rfl, hgm.1, hgm.2, kt _ _ (Same.refl _) ?_⟩
      rw [List.replicate_succ', List.map_append]
      rfl
    · rintro H1 acc e1 hd rfl
      refine ⟨D, _, rfl, SqL.of hd, _, rfl, ?_⟩
      rw [all_true]
      have e01 := e0.trans e1
      refine ⟨_, rfl, es.map Sum.inl, .inl ⟨a, rfl, ?_⟩, by rw [List.length_map]; omega, fun p l hp ndl hm hll => ?_⟩
      · have := (ha.mono e01).seq (K := K)
        rw [show (es.map Sum.inl).map kV = es.map V.int by rw [List.map_map]; rfl]
        exact this
      · have pm : l.Perm (es.map Sum.inl) := (List.perm_ext_iff_of_nodup ndl (List.Pairwise.map _ (fun a b hab e => hab (Sum.inl.inj e)) nd)).mpr hm
        have e2 := e01.trans (same_new (o := SetMO w p l) hp)
        refine ⟨p, l, rfl, upd_same, _, rfl, a, _, rfl, (ha.mono e2).seq, rfl, ?_⟩
        have hh : decide (V.int (l.length : Nat) = V.int ((es.map V.int).length : Nat)) = true := decide_eq_true (by rw [pm.length_eq, List.length_map, List.length_map])
        show Q (.bl (decide (V.int (l.length : Nat) = V.int ((es.map V.int).length : Nat)))) _
        rw [hh]
        exact k _ e2
end
end SS

set_option maxRecDepth 100000
set_option maxHeartbeats 4000000
namespace SS
open PySem L2 SR TL
/-- a machine's rows and its member states, as they are handed over -/
structure Given (H : Hp) (cs : List Nat) (a e : Addr) (rows : List (List Int)) (ends : List Int) : Prop where
  ex : ∃ qs : List Addr, LoT H a (qs.map .ref) ∧ Paired (RowAt H cs) qs rows
  mem : LoT H e (ends.map .int)
theorem Given.mono {H H' : Hp} {cs : List Nat} {a b : Addr} {rows : List (List Int)} {ends : List Int} (e : Same H H') (g : Given H cs a b rows ends) : Given H' cs a b rows ends := by
  obtain ⟨qs, h1, h2⟩ := g.ex
  exact ⟨⟨qs, h1.mono e, Paired.mono h2 fun _ _ h => e _ _ h⟩, g.mem.mono e⟩
section
variable {P : Program} {w : World} {K : PySem.W.Frag} {mg : Str → Option Value} {base : Heap}
abbrev sChk : Stmt := top 21
abbrev nChk : List Str := ["signs", "states", "member_states", "index", "row"]
theorem scChk : FnScope nChk ["signs", "states", "member_states"] (defScope sChk) := ⟨rfl, rfl, rfl, by decide +kernel, rfl, by decide +kernel, by decide +kernel⟩
def spChk : Sp := fun vs H Q _ => ∃ (cs : List Nat) (a e : Addr) (rows : List (List Int)) (ends : List Int), vs = [.str (txt cs), .ref a, .ref e] ∧ Abc cs ∧ WfM cs rows ends ∧ Given H cs a e rows ends ∧ ∀ H', Same H H' → Q .non H'
theorem ok_chk {f : Addr} {fd : FuncData} (F : Fun K "check_machine" "check_machine" sChk f fd) (B : Bl mg) (C : Cn mg) (Sg : Cal P w K mg base "are_signs" 2 ["value"] spSigns) (Sr : Cal P w K mg base "is_state_row" 2 ["value", "signs", "many"] spSrow) (St : Cal P w K mg base "are_states" 2 ["value", "many"] spSta) :
    FnOk P w K mg base CX0 3 f fd ["signs", "states", "member_states"] spChk := by
  obtain ⟨tg, hgv⟩ := C.given
  refine F.ok scChk (fun vs H Q E h => ?_) (fun cdv A outer s H vs Q E hr h => ?_)
  · obtain ⟨cs, a, e, rows, ends, rfl, _⟩ := h
    rfl
  · obtain ⟨cs, a, e, rows, ends, rfl, ha, W, ⟨⟨qs, h1, h2⟩, h3⟩, k⟩ := h
    refine ⟨_, pss_cons (ps_if (pt_not (pt_val (pe_cal Sg hr (pa_cons (pv 0) pa_nil)))) (pss_one ps_never) pss_nil)
      (pss_cons (ps_if (PW.pt (pw_or (pt_not (pt_val (pe_callB call_isiT (by rfl) B.isinstance (by decide +kernel) (pa_cons (pv 1) (pa_cons (pe_tup (pa_cons (pe_bltn (v := .ty "list") (by rfl) B.list (by decide +kernel) rfl) (pa_cons (pe_bltn (v := .ty "tuple") (by rfl) B.tuple (by decide +kernel) rfl) pa_nil))) pa_nil)))))
          (pw_or1 (pt_not (pt_chain op_le op_le pe_int (pe_callB call_len_seq (by rfl) B.len boot_len (pa_cons (pv 1) pa_nil)) (pe_glob (v := .int 40) rfl hgv ⟨tg, rfl⟩)))))) (pss_one ps_never) pss_nil)
      (pss_cons (ps_for PassesOwn.never rfl (pi_enumL (by rfl) B.enumerate (pa_cons (pv 1) pa_nil)) (pg_tup rfl (pgs_cons (pg_name (i := 3) scChk.nd rfl (.inl rfl)) (pgs_cons (pg_name (i := 4) scChk.nd rfl (.inl rfl)) pgs_nil)))
          (pss_one (ps_if (pt_not (pt_val (pe_cal Sr hr (pa_cons (pv 4) (pa_cons (pv 0) (pa_cons (pe_callB call_len_seq (by rfl) B.len boot_len (pa_cons (pv 1) pa_nil)) pa_nil)))))) (pss_one ps_never) pss_nil)))
      (pss_one (ps_if (pt_not (pt_val (pe_cal St hr (pa_cons (pv 2) (pa_cons (pe_callB call_len_seq (by rfl) B.len boot_len (pa_cons (pv 1) pa_nil)) pa_nil))))) (pss_one ps_never) pss_nil)))), ?_⟩
    have hql : qs.length = rows.length := Paired.length h2
    refine ⟨_, rfl, cs, rfl, ha, fun H1 e1 => ⟨_, rfl, iteF ?_⟩⟩
    refine ⟨_, rfl, (by show 2 ≤ sizeLine; decide), fun T hT => ?_⟩
    have e2 : Same H (upd H1 T (.tup [.ty "list", .ty "tuple"])) := e1.trans (same_new hT)
    obtain ⟨t, ty, kt⟩ := isi_LT (K := K) (h1.mono e2)
    refine ⟨_, T, _, t, _, true, rfl, upd_same, .cons (.ty _) (.cons (.ty _) .nil), ty, kt, true, rfl, ?_⟩
    refine ⟨_, rfl, a, _, rfl, (h1.mono e2).seq, _, _, rfl, rfl, _, rfl, ?_⟩
    rw [List.length_map]
    rw [decide_eq_true (show (1 : Int) ≤ (qs.length : Nat) by have := W.one; omega)]
    refine ⟨_, _, rfl, rfl, _, rfl, ?_⟩
    rw [decide_eq_true (show ((qs.length : Nat) : Int) ≤ 40 by have := W.five; omega)]
    refine ⟨_, rfl, a, _, rfl, h1.mono e2, fun J G wk hG => ?_⟩
    refine for_it wk (fun i σ H' => Same (upd H1 T (.tup [.ty "list", .ty "tuple"])) H' ∧ ∃ a3 a4, σ = [some (.str (txt cs)), some (.ref a), some (.ref e), a3, a4]) ⟨Same.refl _, _, _, rfl⟩ (fun _ _ H' _ p => hG H' p.1) ?_ ?_
    · rintro j v σ H2 H2' hj ⟨e3, b3, b4, rfl⟩ ⟨T2, x, y, rfl, hT2, rfl, ex, ey⟩
      rw [List.length_map] at hj
      cases ex
      dsimp only at ey
      rw [List.getElem?_map] at ey
      obtain ⟨q, hq, rfl⟩ := Option.map_eq_some_iff.mp ey
      have hjr : j < rows.length := by omega
      obtain ⟨q', hq', hrow⟩ := paired_get j h2 (List.getElem?_eq_getElem hjr)
      rw [hq] at hq'
      cases hq'
      have hW := W.row _ (List.getElem_mem hjr)
      have e4 : Same H2 (upd H2 T2 (.tup [.int (j : Nat), .ref q])) := same_new hT2
      have e5 := e2.trans (e3.trans e4)
      refine ⟨T2, _, rfl, SqT.of upd_same, rfl, _, _, rfl, _, _, rfl, rfl, ?_⟩
      refine ⟨_, rfl, _, rfl, _, rfl, a, _, rfl, (h1.mono e5).seq, q, cs, _, _, rfl, (by have := ha.four; omega), hW.1, ?_, e5 _ _ hrow, fun H6 e6 => ⟨_, rfl, iteF ⟨(e3.trans e4).trans e6, _, _, rfl⟩⟩⟩
      intro g hg
      rw [List.length_map, hql]
      exact hW.2 g hg
    · rintro σ H2 ⟨e3, b3, b4, rfl⟩
      have e5 := e2.trans e3
      refine ⟨_, rfl, _, rfl, a, _, rfl, (h1.mono e5).seq, e, _, ends, rfl, ?_, W.nd, ?_, h3.mono e5, fun H6 e6 => ⟨_, rfl, iteF (k _ (e5.trans e6))⟩⟩
      · exact Nat.le_trans (nodup_len _ _ W.nd W.fin) (by have := W.five; omega)
      · intro g hg
        rw [List.length_map, hql]
        exact W.fin g hg
end
end SS

set_option maxRecDepth 100000
set_option maxHeartbeats 4000000
namespace SS
open PySem L2 SR TL
/-! ### numbering: classes as they are first reached -/
/-- the unseen ones of a row, laid behind -/
def addNew (L : List Int) : List Int → List Int
  | [] => L
  | g :: gs => addNew (if g ∈ L then L else L ++ [g]) gs
theorem addNew_prefix (gs : List Int) : ∀ L : List Int, ∃ t, addNew L gs = L ++ t := by
  induction gs with
  | nil => intro L; exact ⟨[], (List.append_nil L).symm⟩
  | cons g gs ih =>
    intro L
    obtain ⟨t, h⟩ := ih (if g ∈ L then L else L ++ [g])
    by_cases hm : g ∈ L
    · rw [if_pos hm] at h
      exact ⟨t, by show addNew (if g ∈ L then L else L ++ [g]) gs = _; rw [if_pos hm]; exact h⟩
    · rw [if_neg hm] at h
      exact ⟨[g] ++ t, by show addNew (if g ∈ L then L else L ++ [g]) gs = _; rw [if_neg hm, h, List.append_assoc]⟩
theorem addNew_none {gs : List Int} : ∀ {L : List Int}, (∀ g ∈ gs, g ∈ L) → addNew L gs = L := by
  induction gs with
  | nil => intro L _; rfl
  | cons g gs ih =>
    intro L h
    show addNew (if g ∈ L then L else L ++ [g]) gs = L
    rw [if_pos (h g List.mem_cons_self)]
    exact ih fun u hu => h u (List.mem_cons_of_mem _ hu)
theorem addNew_mem {gs : List Int} : ∀ {L : List Int}, ∀ g ∈ gs, g ∈ addNew L gs := by
  induction gs with
  | nil => intro L g h; cases h
  | cons g gs ih =>
    intro L u hu
    rcases List.mem_cons.mp hu with z | z
    · subst z
      show u ∈ addNew (if u ∈ L then L else L ++ [u]) gs
      obtain ⟨t, e⟩ := addNew_prefix gs (if u ∈ L then L else L ++ [u])
      rw [e]
      refine List.mem_append_left _ ?_
      by_cases hm : u ∈ L
      · rw [if_pos hm]; exact hm
      · rw [if_neg hm]; simp
    · exact ih u z
/-- n classes of L have been looked at -/
inductive BE (δ : Int → List Int) (q0 : Int) : Nat → List Int → Prop
  | start : BE δ q0 0 [q0]
  | turn {n : Nat} {L : List Int} {k : Int} : BE δ q0 n L → L[n]? = some k → BE δ q0 (n + 1) (addNew L (δ k))
theorem BE.fn {δ : Int → List Int} {q0 : Int} : ∀ {n : Nat} {L L' : List Int}, BE δ q0 n L → BE δ q0 n L' → L = L'
  | 0, _, _, .start, .start => rfl
  | n + 1, _, _, .turn b h, .turn b' h' => by
    have e := BE.fn b b'
    subst e
    rw [h] at h'
    cases h'
    rfl
/-- both are through: the same list -/
theorem BE.done {δ : Int → List Int} {q0 : Int} {n m : Nat} {L M : List Int} (b : BE δ q0 n L) (b' : BE δ q0 m M) (h : L.length ≤ n) (h' : M.length ≤ m) : L = M := by
  have key : ∀ {n m : Nat} {L M : List Int}, BE δ q0 n L → BE δ q0 m M → L.length ≤ n → n ≤ m → n = m := by
    intro n m L M b b' h le
    rcases Nat.lt_or_eq_of_le le with lt | e
    · exfalso
      have down : ∀ {m : Nat} {M : List Int}, BE δ q0 m M → n < m → ∃ k M', BE δ q0 n M' ∧ M'[n]? = some k := by
        intro m
        induction m with
        | zero => intro M _ lt; omega
        | succ m ih =>
          intro M b lt
          cases b with
          | turn b0 h0 =>
            by_cases e : n = m
            · subst e
              exact ⟨_, _, b0, h0⟩
            · exact ih b0 (by omega)
      obtain ⟨k, M', b1, h1⟩ := down b' lt
      have e := BE.fn b b1
      subst e
      have := (List.getElem?_eq_some_iff.mp h1).1
      omega
    · exact e
  have e : n = m := by
    rcases Nat.le_total n m with z | z
    · exact key b b' h z
    · exact (key b' b h' z).symm
  subst e
  exact BE.fn b b'
theorem addNew_app (a b : List Int) : ∀ L : List Int, addNew L (a ++ b) = addNew (addNew L a) b := by
  induction a with
  | nil => intro L; rfl
  | cons g a ih => intro L; exact ih _
theorem addNew_keep {L gs : List Int} {k : Int} (h : k ∈ L) : k ∈ addNew L gs := by
  obtain ⟨t, e⟩ := addNew_prefix gs L
  rw [e]
  exact List.mem_append_left _ h
theorem addNew_map (κ : Int → Int) (gs : List Int) : ∀ L : List Int, addNew [] ((addNew L gs).map κ) = addNew (addNew [] (L.map κ)) (gs.map κ) := by
  induction gs with
  | nil => intro L; rfl
  | cons g gs ih =>
    intro L
    show addNew [] ((addNew (if g ∈ L then L else L ++ [g]) gs).map κ) = addNew (if κ g ∈ addNew [] (L.map κ) then addNew [] (L.map κ) else addNew [] (L.map κ) ++ [κ g]) (gs.map κ)
    by_cases hm : g ∈ L
    · rw [if_pos hm, if_pos (addNew_mem (κ g) (List.mem_map.mpr ⟨g, hm, rfl⟩))]
      exact ih L
    · rw [if_neg hm, ih, List.map_append, addNew_app]
      rfl
theorem addNew_nodup {gs : List Int} : ∀ {L : List Int}, L.Nodup → (addNew L gs).Nodup := by
  induction gs with
  | nil => intro L h; exact h
  | cons g gs ih =>
    intro L h
    show (addNew (if g ∈ L then L else L ++ [g]) gs).Nodup
    by_cases hm : g ∈ L
    · rw [if_pos hm]; exact ih h
    · rw [if_neg hm]
      refine ih (List.nodup_append.mpr ⟨h, by simp, fun a ha b hb e => ?_⟩)
      rw [List.mem_singleton] at hb
      rw [e, hb] at ha
      exact hm ha
theorem addNew_only {gs : List Int} : ∀ {L : List Int} {k : Int}, k ∈ addNew L gs → k ∈ L ∨ k ∈ gs := by
  induction gs with
  | nil => intro L k h; exact .inl h
  | cons g gs ih =>
    intro L k h
    rcases ih (L := if g ∈ L then L else L ++ [g]) h with z | z
    · by_cases hm : g ∈ L
      · rw [if_pos hm] at z; exact .inl z
      · rw [if_neg hm] at z
        rcases List.mem_append.mp z with y | y
        · exact .inl y
        · exact .inr (by rw [List.mem_singleton.mp y]; exact List.mem_cons_self)
    · exact .inr (List.mem_cons_of_mem _ z)
theorem BE.closed {δ : Int → List Int} {q0 : Int} : ∀ {n : Nat} {L : List Int}, BE δ q0 n L → ∀ (j : Nat) (k : Int), j < n → L[j]? = some k → ∀ g ∈ δ k, g ∈ L
  | 0, _, .start, j, _, h, _, _, _ => by omega
  | n + 1, _, .turn (L := L) (k := k0) b h0, j, k, hj, hk, g, hg => by
    have hn := (List.getElem?_eq_some_iff.mp h0).1
    have hk' : L[j]? = some k := by
      obtain ⟨t, e⟩ := addNew_prefix (δ k0) L
      rw [e, List.getElem?_append_left (by omega)] at hk
      exact hk
    by_cases e : j = n
    · subst e
      rw [h0] at hk'
      cases hk'
      exact addNew_mem g hg
    · exact addNew_keep (BE.closed b j k (by omega) hk' g hg)
/-- the quotient of an enumeration -/
theorem BE.quot {δ δ' : Int → List Int} {κ : Int → Int} {q0 : Int} : ∀ {n : Nat} {L : List Int}, BE δ q0 n L → (∀ s ∈ L, (δ s).map κ = δ' (κ s)) → ∃ m, BE δ' (κ q0) m (addNew [] (L.map κ)) ∧ (addNew [] (L.map κ)).take m = addNew [] ((L.take n).map κ)
  | 0, _, .start, _ => ⟨0, .start, rfl⟩
  | n + 1, _, .turn (L := L) (k := s) b h, hδ => by
    obtain ⟨t, et⟩ := addNew_prefix (δ s) L
    obtain ⟨m, bm, em⟩ := BE.quot b fun u hu => hδ u (addNew_keep hu)
    have hn := (List.getElem?_eq_some_iff.mp h).1
    have hs : s ∈ L := List.mem_of_getElem? h
    have eM : addNew [] ((addNew L (δ s)).map κ) = addNew (addNew [] (L.map κ)) (δ' (κ s)) := by rw [addNew_map, hδ s (addNew_keep hs)]
    have eT : (addNew L (δ s)).take (n + 1) = L.take n ++ [s] := by
      rw [et, List.take_append_of_le_length (by omega), List.take_add_one, h]
      rfl
    have eP : addNew [] (((addNew L (δ s)).take (n + 1)).map κ) = addNew (addNew [] ((L.take n).map κ)) [κ s] := by
      rw [eT, List.map_append, addNew_app]
      rfl
    rw [eM, eP]
    generalize hP : addNew [] ((L.take n).map κ) = Pn at em
    have hL : L.map κ = (L.take n).map κ ++ (κ s :: (L.drop (n + 1)).map κ) := by
      have : L = L.take n ++ s :: L.drop (n + 1) := by
        have := (List.getElem?_eq_some_iff.mp h).2
        rw [← this, ← List.drop_eq_getElem_cons hn, List.take_append_drop]
      have e2 := congrArg (List.map κ) this
      rw [List.map_append, List.map_cons] at e2
      exact e2
    have eM0 : addNew [] (L.map κ) = addNew (addNew Pn [κ s]) ((L.drop (n + 1)).map κ) := by
      rw [hL, addNew_app, hP]
      rfl
    generalize addNew [] (L.map κ) = M at bm em eM0
    by_cases hm : κ s ∈ Pn
    · have e1 : addNew Pn [κ s] = Pn := addNew_none fun g hg => by rw [List.mem_singleton.mp hg]; exact hm
      rw [e1]
      have hm' : κ s ∈ M.take m := by rw [em]; exact hm
      obtain ⟨j, hj, ej⟩ := List.mem_iff_getElem.mp hm'
      rw [List.length_take] at hj
      rw [List.getElem_take] at ej
      have hMj : M[j]? = some (κ s) := by rw [List.getElem?_eq_getElem (by omega), ej]
      rw [addNew_none (BE.closed bm j (κ s) (by omega) hMj)]
      exact ⟨m, bm, em⟩
    · have e1 : addNew Pn [κ s] = Pn ++ [κ s] := by
        show (if κ s ∈ Pn then Pn else Pn ++ [κ s]) = _
        rw [if_neg hm]
      rw [e1] at eM0 ⊢
      obtain ⟨u, eu⟩ := addNew_prefix ((L.drop (n + 1)).map κ) (Pn ++ [κ s])
      rw [eu] at eM0
      have hlen : m = Pn.length := by
        have h1 := congrArg List.length em
        have h2 := congrArg List.length eM0
        simp at h1 h2
        omega
      have hMm : M[m]? = some (κ s) := by
        rw [eM0, hlen]
        simp
      refine ⟨m + 1, .turn bm hMm, ?_⟩
      obtain ⟨v, ev⟩ := addNew_prefix (δ' (κ s)) M
      have hlt := (List.getElem?_eq_some_iff.mp hMm).1
      rw [ev, List.take_append_of_le_length (by omega), List.take_add_one, hMm, em]
      rfl
/-- all looked at: so is the quotient -/
theorem BE.quotDone {δ δ' : Int → List Int} {κ : Int → Int} {q0 : Int} {n : Nat} {L : List Int} (b : BE δ q0 n L) (hδ : ∀ s ∈ L, (δ s).map κ = δ' (κ s)) (h : L.length ≤ n) : ∃ m, BE δ' (κ q0) m (addNew [] (L.map κ)) ∧ (addNew [] (L.map κ)).length ≤ m := by
  obtain ⟨m, b1, e⟩ := b.quot hδ
  rw [List.take_of_length_le h] at e
  refine ⟨m, b1, ?_⟩
  have := congrArg List.length e
  rw [List.length_take] at this
  omega
end SS

set_option maxRecDepth 100000
set_option maxHeartbeats 4000000
namespace SS
open PySem L2 SR TL
/-! ### dicts with int keys -/
def dI (l : List Int) (F : Int → V) : List (Key × V) := l.map fun g => ((Sum.inl g : Key), F g)
theorem val_dI (F : Int → V) (g : Int) : ∀ l : List Int, valV (dI l F) (Sum.inl g) = if g ∈ l then some (F g) else none
  | [] => rfl
  | h :: l => by
    by_cases e : h = g
    · subst e
      rw [show dI (h :: l) F = ((Sum.inl h : Key), F h) :: dI l F from rfl, valV_pos rfl]
      simp
    · rw [show dI (h :: l) F = ((Sum.inl h : Key), F h) :: dI l F from rfl, valV_neg (fun z => e (Sum.inl.inj z)), val_dI F g l]
      have e' : ¬ g = h := fun z => e z.symm
      by_cases hm : g ∈ l
      · rw [if_pos hm, if_pos (List.mem_cons_of_mem _ hm)]
      · rw [if_neg hm, if_neg (by simp [e', hm])]
theorem put_dI {F : Int → V} {g : Int} {l : List Int} (h : g ∉ l) : putK (dI l F) (Sum.inl g) (F g) = dI (l ++ [g]) F := by
  rw [putK_new _ (by rw [val_dI, if_neg h])]
  unfold dI
  rw [List.map_append]
  rfl
theorem len_dI (l : List Int) (F : Int → V) : (dI l F).length = l.length := by simp [dI]
theorem ix_lot {K : PySem.W.Frag} {H : Hp} {a : Addr} {xs : List V} {i : Int} {v : V} {Q : V → Hp → Prop} (h : LoT H a xs) (hi : atI xs i = some v) (q : Q v H) : rIx K (.ref a) (.int i) H Q := by
  rcases h with h | h
  · exact .inl ⟨a, xs, i, v, rfl, rfl, SqL.of h, hi, q⟩
  · exact .inr (.inl ⟨a, xs, i, v, rfl, rfl, SqT.of h, hi, q⟩)
/-! ### the states that are reached -/
structure Rch (cs : List Nat) (rows : List (List Int)) (at' j : Nat) (fd : List Int) : Prop where
  hd : ∃ t, fd = 0 :: t
  nd : fd.Nodup
  rg : ∀ q ∈ fd, 0 ≤ q ∧ q < (rows.length : Int)
  rc : ∀ q ∈ fd, ∃ x : List Nat, (∀ c ∈ x, c ∈ cs) ∧ run cs rows 0 x = q
  cl : ∀ (i : Nat) q, i < at' → fd[i]? = some q → ∀ c ∈ cs, nxt cs rows q c ∈ fd
  cj : ∀ q, fd[at']? = some q → ∀ c ∈ cs.take j, nxt cs rows q c ∈ fd
theorem Rch.start {cs : List Nat} {rows : List (List Int)} (h : 1 ≤ rows.length) : Rch cs rows 0 0 [0] :=
  ⟨⟨[], rfl⟩, by simp, fun q hq => by rw [List.mem_singleton.mp hq]; omega, fun q hq => ⟨[], (fun _ h => nomatch h), (List.mem_singleton.mp hq).symm⟩, fun i q hi => by omega, fun q _ c hc => by simp at hc⟩
theorem Rch.skip {cs : List Nat} {rows : List (List Int)} {at' j c : Nat} {fd : List Int} {q : Int} (R : Rch cs rows at' j fd) (hq : fd[at']? = some q) (hc : cs[j]? = some c) (h : nxt cs rows q c ∈ fd) : Rch cs rows at' (j + 1) fd := by
  refine ⟨R.hd, R.nd, R.rg, R.rc, R.cl, fun q' hq' d hd => ?_⟩
  rw [hq] at hq'
  cases hq'
  rw [List.take_add_one, hc] at hd
  rcases List.mem_append.mp hd with z | z
  · exact R.cj q hq d z
  · have : d = c := by simpa using z
    rw [this]; exact h
theorem Rch.add {cs : List Nat} {rows : List (List Int)} {ends : List Int} {at' j c : Nat} {fd : List Int} {q : Int} (W : WfM cs rows ends) (R : Rch cs rows at' j fd) (hq : fd[at']? = some q) (hc : cs[j]? = some c) (h : nxt cs rows q c ∉ fd) : Rch cs rows at' (j + 1) (fd ++ [nxt cs rows q c]) := by
  have hqm := List.mem_of_getElem? hq
  have hcm := List.mem_of_getElem? hc
  obtain ⟨q0, q1⟩ := R.rg q hqm
  obtain ⟨_, _, _, _, n0, n1⟩ := W.nxt_ok q0 q1 hcm
  have hlt : at' < fd.length := (List.getElem?_eq_some_iff.mp hq).1
  refine ⟨?_, ?_, ?_, ?_, ?_, ?_⟩
  · obtain ⟨t, e⟩ := R.hd
    exact ⟨t ++ [nxt cs rows q c], by rw [e]; rfl⟩
  · rw [List.nodup_append]
    refine ⟨R.nd, by simp, fun a ha b hb e => ?_⟩
    rw [List.mem_singleton] at hb
    rw [e, hb] at ha
    exact h ha
  · intro p hp
    rcases List.mem_append.mp hp with z | z
    · exact R.rg p z
    · rw [List.mem_singleton.mp z]; exact ⟨n0, n1⟩
  · intro p hp
    rcases List.mem_append.mp hp with z | z
    · exact R.rc p z
    · rw [List.mem_singleton.mp z]
      obtain ⟨x, hx, e⟩ := R.rc q hqm
      refine ⟨x ++ [c], fun d hd => ?_, ?_⟩
      · rcases List.mem_append.mp hd with z | z
        · exact hx d z
        · rw [List.mem_singleton.mp z]; exact hcm
      · unfold run at e ⊢
        rw [List.foldl_append, e]
        rfl
  · intro i p hi hp d hd
    rw [List.getElem?_append_left (by omega)] at hp
    exact List.mem_append_left _ (R.cl i p hi hp d hd)
  · intro p hp d hd
    rw [List.getElem?_append_left hlt, hq] at hp
    cases hp
    rw [List.take_add_one, hc] at hd
    rcases List.mem_append.mp hd with z | z
    · exact List.mem_append_left _ (R.cj q hq d z)
    · have : d = c := by simpa using z
      rw [this]; exact List.mem_append_right _ (by simp)
theorem Rch.next {cs : List Nat} {rows : List (List Int)} {at' : Nat} {fd : List Int} (R : Rch cs rows at' cs.length fd) : Rch cs rows (at' + 1) 0 fd := by
  refine ⟨R.hd, R.nd, R.rg, R.rc, fun i q hi hq c hc => ?_, fun q _ c hc => by simp at hc⟩
  by_cases e : i = at'
  · subst e
    exact R.cj q hq c (by rw [List.take_length]; exact hc)
  · exact R.cl i q (by omega) hq c hc
/-- what reached gives -/
structure Order (cs : List Nat) (rows : List (List Int)) (fd : List Int) : Prop where
  hd : ∃ t, fd = 0 :: t
  nd : fd.Nodup
  rg : ∀ q ∈ fd, 0 ≤ q ∧ q < (rows.length : Int)
  rc : ∀ q ∈ fd, ∃ x : List Nat, (∀ c ∈ x, c ∈ cs) ∧ run cs rows 0 x = q
  cl : ∀ q ∈ fd, ∀ c ∈ cs, nxt cs rows q c ∈ fd
theorem Rch.done {cs : List Nat} {rows : List (List Int)} {at' : Nat} {fd : List Int} (R : Rch cs rows at' 0 fd) (h : fd.length ≤ at') : Order cs rows fd := by
  refine ⟨R.hd, R.nd, R.rg, R.rc, fun q hq c hc => ?_⟩
  obtain ⟨i, hi, e⟩ := List.mem_iff_getElem.mp hq
  exact R.cl i q (by omega) (by rw [List.getElem?_eq_getElem hi, e]) c hc
/-- a number less the counter in slot j -/
def muAt (m j : Nat) : L2.St → Hp → Nat := fun σ _ => match σ[j]? with
  | some (some (.int i)) => m - i.toNat
  | _ => 0
section
variable {P : Program} {w : World} {K : PySem.W.Frag} {mg : Str → Option Value} {base : Heap}
abbrev sRch : Stmt := top 22
abbrev nRch : List Str := ["signs", "rows", "found", "known", "at", "sign", "goal"]
theorem scRch : FnScope nRch ["signs", "rows"] (defScope sRch) := ⟨rfl, rfl, rfl, by decide +kernel, rfl, by decide +kernel, by decide +kernel⟩
/-- rows as they are handed over -/
def RowsAt (H : Hp) (cs : List Nat) (a : Addr) (rows : List (List Int)) : Prop := ∃ qs : List Addr, LoT H a (qs.map .ref) ∧ Paired (RowAt H cs) qs rows
theorem RowsAt.mono {H H' : Hp} {cs : List Nat} {a : Addr} {rows : List (List Int)} (e : Same H H') (h : RowsAt H cs a rows) : RowsAt H' cs a rows := by
  obtain ⟨qs, h1, h2⟩ := h
  exact ⟨qs, h1.mono e, Paired.mono h2 fun _ _ h => e _ _ h⟩
/-- rows[q][sign] -/
theorem RowsAt.get {H : Hp} {cs : List Nat} {a : Addr} {rows : List (List Int)} {ends : List Int} {q : Int} {c : Nat} (h : RowsAt H cs a rows) (W : WfM cs rows ends) (q0 : 0 ≤ q) (q1 : q < (rows.length : Int)) (hc : c ∈ cs) :
    ∃ (xs : List V) (d : Addr), LoT H a xs ∧ atI xs q = some (.ref d) ∧ DGet H d (ltV c) (some (.int (nxt cs rows q c))) := by
  obtain ⟨qs, h1, h2⟩ := h
  obtain ⟨row, e1, e2, e3, _⟩ := W.nxt_ok q0 q1 hc
  obtain ⟨d, hd, hrow⟩ := paired_get _ h2 e1
  refine ⟨_, d, h1, atI_of q0 (by rw [List.getElem?_map, hd]; rfl), ?_⟩
  rw [e3, ← val_row e2 hc]
  exact DGet.k (k := Sum.inr (lt c)) hrow
/-- the next states, by ascending signs -/
def dlt (cs : List Nat) (rows : List (List Int)) (q : Int) : List Int := cs.map (nxt cs rows q)
theorem addNew_snoc {L gs : List Int} {g : Int} : addNew L (gs ++ [g]) = if g ∈ addNew L gs then addNew L gs else addNew L gs ++ [g] := by rw [addNew_app]; rfl
def spRch : Sp := fun vs H Q _ => ∃ (cs : List Nat) (a : Addr) (rows : List (List Int)) (ends : List Int), vs = [.str (txt cs), .ref a] ∧ Abc cs ∧ WfM cs rows ends ∧ RowsAt H cs a rows ∧
  ∀ (fd : List Int) (p : Addr) (H' : Hp), Order cs rows fd → (∃ n, BE (dlt cs rows) 0 n fd ∧ fd.length ≤ n) → H p = none → Same H H' → H' p = some (.lst (fd.map .int)) → Q (.ref p) H'
theorem ok_rch {f : Addr} {fd : FuncData} (F : Fun K "reached" "reached" sRch f fd) (B : Bl mg) : FnOk P w K mg base CX0 1 f fd ["signs", "rows"] spRch := by
  refine F.ok scRch (fun vs H Q E h => ?_) (fun cdv A outer s H vs Q E hr h => ?_)
  · obtain ⟨cs, a, rows, ends, rfl, _⟩ := h
    rfl
  · obtain ⟨cs, a, rows, ends, rfl, ha, W, hR, k⟩ := h
    have hu := hu_of hr
    refine ⟨_, pss_cons (ps_par (by rfl) scRch.nd (i := 2) (j := 3) rfl rfl (by decide) rfl rfl (pa_cons (pe_lst (pa_cons pe_int pa_nil)) (pa_cons (pe_disp (pps_cons pe_int pe_bl pps_nil) (by rfl) (by rfl) (fun z => by cases z) (by decide)) pa_nil)) (by rfl))
      (pss_cons (ps_set (i := 4) scRch.nd rfl (.inl rfl) pe_int)
      (pss_cons (ps_while PassesOwn.never (pt_cmpR op_lt (pv 4) (pe_callB call_len_seq (by rfl) B.len boot_len (pa_cons (pv 2) pa_nil)) (nomark _))
        (pss_cons (ps_for PassesOwn.never rfl (pi_str (pv 0)) (pg_name (i := 5) scRch.nd rfl (.inl rfl))
            (pss_cons (ps_set (i := 6) scRch.nd rfl (.inl rfl) (pe_dget hu (pe_ix ix_seq (pv 1) (pe_ix ix_list (pv 2) (pv 4) (fun _ _ => rfl)) (fun _ _ => rfl)) (pv 5) (fun _ _ => rfl)))
            (pss_one (ps_if (pt_cmp (pc_dnotin hu (pv 6) (pv 3)))
              (pss_cons (ps_dput hu (pv 3) (pv 6) pe_bl rfl) (pss_one (ps_expr (pe_bm PySem.F.plainAttrs_list PySem.F.slot_list_append PySem.F.type_list_append mt_append (pv 2) (pa_cons (pv 6) pa_nil))))) pss_nil))))
        (pss_one (ps_aug (i := 4) scRch.nd rfl (.inl rfl) pe_int ip_add))))
      (pss_one (ps_ret (pv 2))))), ?_⟩
    refine ⟨by show 1 ≤ sizeLine; decide, fun l hl => ?_⟩
    intro d hd
    refine ⟨upd_same, [(Sum.inl 0, .bl true)], rfl, (by show 1 ≤ 15; decide), ?_⟩
    refine ⟨_, _, rfl, ?_⟩
    have nld : l ≠ d := ne_of_none upd_same hd
    have hdH : H d = none := (same_new hl).free hd
    have s0 : Same H (upd (upd (upd H l (.lst [.int 0])) d (.dK [])) d (.dK (mergeK [] [(Sum.inl 0, .bl true)]))) := same_upd (same_upd (same_new hl) hdH) hdH
    refine while_by (fun σ H' => Same H H' ∧ ∃ (fd : List Int) (n : Nat) (a5 a6 : Option V), σ = [some (.str (txt cs)), some (.ref a), some (.ref l), some (.ref d), some (.int (n : Nat)), a5, a6] ∧ H' l = some (.lst (fd.map .int)) ∧ H' d = some (.dK (dI fd fun _ => .bl true)) ∧ Rch cs rows n 0 fd ∧ BE (dlt cs rows) 0 n fd) (muAt rows.length 4) ?_ ?_ ?_
    · refine ⟨s0, [0], 0, none, none, rfl, ?_, ?_, Rch.start W.one, .start⟩
      · rw [upd_ne nld, upd_ne nld, upd_same]; rfl
      · rw [upd_same]; rfl
    · rintro σ H1 ⟨e1, fd, n, a5, a6, rfl, h1, h2, R, be⟩
      refine ⟨_, rfl, _, rfl, l, _, rfl, .inl (SqL.of h1), _, _, rfl, rfl, _, rfl, ?_⟩
      rw [List.length_map]
      have hlen : fd.length ≤ rows.length := nodup_len _ _ R.nd R.rg
      refine ite2 (fun hlt => ?_) (fun hge => ?_)
      · have hlt : n < fd.length := by have := of_decide_eq_true hlt; omega
        obtain ⟨q, hq⟩ : ∃ q, fd[n]? = some q := ⟨_, List.getElem?_eq_getElem hlt⟩
        have hz : (txt cs).cps.size = cs.length := by simp [txt]
        obtain ⟨F0, hF0', hF0q, hF0⟩ : ∃ F0, BE (dlt cs rows) 0 n F0 ∧ F0[n]? = some q ∧ fd = addNew F0 ((cs.take 0).map (nxt cs rows q)) := ⟨fd, be, hq, rfl⟩
        refine ⟨_, rfl, _, rfl, for_it walk_str (fun j σ H' => Same H H' ∧ ∃ (fd : List Int) (a5 a6 : Option V), σ = [some (.str (txt cs)), some (.ref a), some (.ref l), some (.ref d), some (.int (n : Nat)), a5, a6] ∧ H' l = some (.lst (fd.map .int)) ∧ H' d = some (.dK (dI fd fun _ => .bl true)) ∧ Rch cs rows n j fd ∧ fd[n]? = some q ∧ fd = addNew F0 ((cs.take j).map (nxt cs rows q))) ⟨e1, fd, a5, a6, rfl, h1, h2, R, hq, hF0⟩ (fun _ _ _ _ _ => trivial) ?_ ?_⟩
        · rintro j v σ H2 H2' hj ⟨e2, fd, b5, b6, rfl, h1, h2, R, hq, hfd⟩ ⟨rfl, c, hc, rfl⟩
          have hc' : cs[j]? = some c := by simpa [txt] using hc
          have hcm := List.mem_of_getElem? hc'
          have hqm := List.mem_of_getElem? hq
          obtain ⟨q0, q1⟩ := R.rg q hqm
          obtain ⟨xs, dd, g1, g2, g3⟩ := (hR.mono e2).get W q0 q1 hcm
          refine ⟨_, rfl, _, rfl, _, rfl, l, _, _, .int q, rfl, rfl, SqL.of h1, atI_nat (by rw [List.getElem?_map, hq]; rfl), ?_⟩
          refine ix_lot g1 g2 ⟨_, rfl, dd, _, rfl, g3, ?_⟩
          refine ⟨_, rfl, _, rfl, d, _, rfl, DGet.k (k := Sum.inl (nxt cs rows q c)) h2, _, rfl, ?_⟩
          rw [val_dI]
          by_cases hm : nxt cs rows q c ∈ fd
          · rw [if_pos hm]
            refine iteF ⟨e2, fd, _, _, rfl, h1, h2, R.skip hq hc' hm, hq, ?_⟩
            rw [List.take_add_one, hc', List.map_append]
            show fd = addNew F0 (_ ++ [nxt cs rows q c])
            rw [addNew_snoc, ← hfd, if_pos hm]
          · rw [if_neg hm]
            have hlen : fd.length ≤ rows.length := nodup_len _ _ R.nd R.rg
            have h5 := W.five
            refine iteT ⟨_, rfl, _, rfl, d, _, rfl, DPut.k (k := Sum.inl (nxt cs rows q c)) h2 (by rw [len_dI, sizeLine_eq]; omega), ?_⟩
            rw [put_dI (F := fun _ => .bl true) hm]
            refine ⟨_, rfl, .inl ⟨rfl, _, SqL.of (by rw [upd_ne nld]; exact h1)⟩, _, rfl, l, _, _, rfl, rfl, (by rw [upd_ne nld]; exact h1), (by rw [List.length_map, sizeLine_eq]; omega), ?_⟩
            refine ⟨same_upd (same_upd e2 hdH) hl, fd ++ [nxt cs rows q c], _, _, rfl, ?_, ?_, R.add W hq hc' hm, ?_, ?_⟩
            · rw [upd_same, List.map_append]; rfl
            · rw [upd_ne (Ne.symm nld), upd_same]
            · rw [List.getElem?_append_left (List.getElem?_eq_some_iff.mp hq).1]; exact hq
            · rw [List.take_add_one, hc', List.map_append]
              show fd ++ _ = addNew F0 (_ ++ [nxt cs rows q c])
              rw [addNew_snoc, ← hfd, if_neg hm]
        · rintro σ H2 ⟨e2, fd, b5, b6, rfl, h1, h2, R, hq, hfd⟩
          rw [hz] at R hfd
          rw [List.take_length] at hfd
          have be' : BE (dlt cs rows) 0 (n + 1) fd := by rw [hfd]; exact .turn hF0' hF0q
          have hlt' : n < fd.length := (List.getElem?_eq_some_iff.mp hq).1
          have hlen : fd.length ≤ rows.length := nodup_len _ _ R.nd R.rg
          refine ⟨_, rfl, _, _, rfl, rfl, ⟨e2, fd, n + 1, b5, b6, ?_, h1, h2, R.next, be'⟩, ?_⟩
          · show [some (V.str (txt cs)), some (.ref a), some (.ref l), some (.ref d), some (.int ((n : Nat) + 1)), b5, b6] = _
            rfl
          · show rows.length - ((n : Int) + 1).toNat < rows.length - (n : Int).toNat
            omega
      · have hge' : fd.length ≤ n := by
          have h : ¬ ((n : Int) < (fd.length : Nat)) := fun z => hge (decide_eq_true z)
          omega
        exact ⟨_, rfl, k fd l H1 (R.done hge') ⟨n, be, hge'⟩ hl e1 h1⟩
    · intro σ H Q Q' m h
      obtain ⟨v, h1, w, h2, p, ys, h3, h4, i, j, h5, h6, b, h7, q⟩ := h
      exact ⟨v, h1, w, h2, p, ys, h3, h4, i, j, h5, h6, b, h7, m _ _ q⟩
end
end SS

set_option maxRecDepth 100000
set_option maxHeartbeats 4000000
namespace SS
open PySem L2 SR TL
/-! ### kinds of states -/
def sig (cs : List Nat) (rows : List (List Int)) (κ : Int → Int) (q : Int) : PKey := (κ q, cs.map fun c => κ (nxt cs rows q c))
def Refn (cs : List Nat) (rows : List (List Int)) (fd : List Int) (κ κ' : Int → Int) : Prop := ∀ p ∈ fd, ∀ q ∈ fd, κ' p = κ' q ↔ sig cs rows κ p = sig cs rows κ q
def dKi (fd : List Int) (κ : Int → Int) : List (Key × V) := dI fd fun q => .int (κ q)
theorem rowK_ne_dI {cs : List Nat} {row fd : List Int} {F : Int → V} (h : fd ≠ []) : rowK cs row ≠ dI fd F := fun e => by
  cases fd with
  | nil => exact h rfl
  | cons g fd =>
    have hm : ((Sum.inl g : Key), F g) ∈ rowK cs row := by rw [e]; exact List.mem_cons_self
    obtain ⟨p, _, ep⟩ := List.mem_map.mp hm
    cases ep
theorem RowsAt.lock {H : Hp} {cs : List Nat} {a d : Addr} {rows : List (List Int)} {fd : List Int} {F : Int → V} {o : HO} (h : RowsAt H cs a rows) (hd : H d = some (.dK (dI fd F))) (hf : fd ≠ []) : RowsAt (upd H d o) cs a rows := by
  obtain ⟨qs, h1, h2⟩ := h
  have na : a ≠ d := by
    rcases h1 with z | z
    · exact ne_of z hd (by intro z; cases z)
    · exact ne_of z hd (by intro z; cases z)
  refine ⟨qs, ?_, Paired.mono h2 fun q row z => ?_⟩
  · rcases h1 with z | z
    · exact .inl (by rw [upd_ne na]; exact z)
    · exact .inr (by rw [upd_ne na]; exact z)
  · have nq : q ≠ d := fun e => by
      have z' : H q = some (.dK (rowK cs row)) := z
      rw [e, hd] at z'
      exact rowK_ne_dI hf (HO.dK.inj (Option.some.inj z')).symm
    show _ = _
    rw [upd_ne nq]
    exact z
theorem dI_congr {F G : Int → V} : ∀ {l : List Int}, (∀ q ∈ l, F q = G q) → dI l F = dI l G := fun h => List.map_congr_left fun q hq => by rw [h q hq]
theorem lookP_some {xs : List (PKey × Addr × Int)} {k : PKey} {v : Int} (hx : ∀ (j : Nat) x, xs[j]? = some x → x.2.2 = (j : Int)) (h : lookP xs k = some v) : ∃ j : Nat, v = (j : Int) ∧ ∃ b, xs[j]? = some (k, b, v) := by
  unfold lookP at h
  obtain ⟨x, h1, h2⟩ := Option.map_eq_some_iff.mp h
  have hk : x.1 = k := by simpa using List.find?_some h1
  have hm := List.mem_of_find?_eq_some h1
  obtain ⟨j, hj, e⟩ := List.mem_iff_getElem.mp hm
  have hj' : xs[j]? = some x := by rw [List.getElem?_eq_getElem hj, e]
  refine ⟨j, by rw [← h2]; exact hx j x hj', x.2.1, ?_⟩
  rw [hj', ← hk, ← h2]
theorem lookP_app {xs ys : List (PKey × Addr × Int)} {k : PKey} {v : Int} (h : lookP xs k = some v) : lookP (xs ++ ys) k = some v := by
  unfold lookP at h ⊢
  obtain ⟨x, h1, h2⟩ := Option.map_eq_some_iff.mp h
  rw [List.find?_append, h1]
  exact congrArg some h2
theorem lookP_new {xs : List (PKey × Addr × Int)} {k : PKey} {b : Addr} {v : Int} (h : lookP xs k = none) : lookP (xs ++ [(k, b, v)]) k = some v := by
  unfold lookP at h ⊢
  rw [List.find?_append, Option.map_eq_none_iff.mp h]
  simp
theorem keyT_upd {H : Hp} {k : PKey} {b p : Addr} {o o' : HO} (h : KeyT H k b) (hp : H p = some o) (n : ∀ xs, o ≠ .tup xs) : KeyT (L2.upd H p o') k b := by
  obtain ⟨c, h1, h2⟩ := h
  have n1 : b ≠ p := fun e => by rw [e, hp] at h1; exact n _ (Option.some.inj h1)
  have n2 : c ≠ p := fun e => by rw [e, hp] at h2; exact n _ (Option.some.inj h2)
  exact ⟨c, by rw [upd_ne n1]; exact h1, by rw [upd_ne n2]; exact h2⟩
theorem put_upd {fd : List Int} {κ : Int → Int} {i : Nat} {q v : Int} (nd : fd.Nodup) (hq : fd[i]? = some q) : putK (dKi (fd.take i) κ) (Sum.inl q) (.int v) = dKi (fd.take (i + 1)) (fun p => if p = q then v else κ p) ∧ ∀ p ∈ fd.take i, p ≠ q := by
  have hni : q ∉ fd.take i := fun h => by
    obtain ⟨j, hj, e⟩ := List.mem_iff_getElem.mp h
    rw [List.length_take] at hj
    have hi := (List.getElem?_eq_some_iff.mp hq).1
    have e' : fd[j]? = some q := by
      rw [List.getElem_take] at e
      rw [List.getElem?_eq_getElem (by omega), e]
    have := (List.getElem?_inj (by omega) nd).mp (e'.trans hq.symm)
    omega
  have hp : ∀ p ∈ fd.take i, p ≠ q := fun p hp e => hni (e ▸ hp)
  refine ⟨?_, hp⟩
  have e1 : dKi (fd.take i) κ = dKi (fd.take i) (fun p => if p = q then v else κ p) := dI_congr fun p h => by
    show V.int (κ p) = V.int (if p = q then v else κ p)
    rw [if_neg (hp p h)]
  rw [e1]
  have e2 : fd.take (i + 1) = fd.take i ++ [q] := by rw [List.take_add_one, hq]; rfl
  rw [e2]
  have e3 := put_dI (F := fun p => V.int (if p = q then v else κ p)) hni
  simp only [if_true] at e3
  exact e3
section
variable {P : Program} {w : World} {K : PySem.W.Frag} {mg : Str → Option Value} {base : Heap}
abbrev sRef : Stmt := top 23
abbrev nRef : List Str := ["signs", "rows", "kinds", "numbers", "found", "state", "kind", "key", "sign"]
theorem scRef : FnScope nRef ["signs", "rows", "kinds"] (defScope sRef) := ⟨rfl, rfl, rfl, by decide +kernel, rfl, by decide +kernel, by decide +kernel⟩
def spRef : Sp := fun vs H Q _ => ∃ (cs : List Nat) (a d : Addr) (rows : List (List Int)) (ends fd : List Int) (κ : Int → Int), vs = [.str (txt cs), .ref a, .ref d] ∧ Abc cs ∧ WfM cs rows ends ∧ RowsAt H cs a rows ∧ Order cs rows fd ∧ H d = some (.dK (dKi fd κ)) ∧
  ∀ (κ' : Int → Int) (p : Addr) (H' : Hp), Refn cs rows fd κ κ' → H p = none → Same H H' → H' p = some (.dK (dKi fd κ')) → Q (.ref p) H'
theorem ok_ref {f : Addr} {fd : FuncData} (F : Fun K "refined" "refined" sRef f fd) (B : Bl mg) : FnOk P w K mg base CX0 1 f fd ["signs", "rows", "kinds"] spRef := by
  refine F.ok scRef (fun vs H Q E h => ?_) (fun cdv A outer s H vs Q E hr h => ?_)
  · obtain ⟨cs, a, d, rows, ends, fd, κ, rfl, _⟩ := h
    rfl
  · obtain ⟨cs, a, d, rows, ends, fd, κ, rfl, ha, W, hR, O, hd, k⟩ := h
    have hu := hu_of hr
    have hu2 := Nat.lt_of_le_of_lt (Nat.add_le_add_left (by decide : 2 ≤ 64) _) hr.units
    refine ⟨_, pss_cons (ps_par (by rfl) scRef.nd (i := 3) (j := 4) rfl rfl (by decide) rfl rfl (pa_cons pe_dnewP (pa_cons pe_dnewK pa_nil)) (by rfl))
      (pss_cons (ps_lock (ps_for PassesOwn.never rfl (pi_items (pv 2)) (pg_tup rfl (pgs_cons (pg_name (i := 5) scRef.nd rfl (.inr rfl)) (pgs_cons (pg_name (i := 6) scRef.nd rfl (.inl rfl)) pgs_nil)))
        (pss_cons (ps_set (i := 7) scRef.nd rfl (.inl rfl) (pe_tup (pa_cons (pv 6) (pa_cons (pe_callTy call_tuple_of (by rfl) B.tuple (by decide +kernel) (pa_cons (pe_lc (own := [("sign", 8)]) (g := gName 8) (tt := tYes) (te := tDGet (tVar 2) (tDGet (tOp (rIx K) (tVar 1) (tVar 5)) (tVar 8))) rfl scRef.nd (pi_str (pv 0)) (blkOk_by (by kernel_rfl))
            (fun _ _ _ _ _ => pg_name (i := 8) scRef.nd rfl (.inl rfl)) (fun _ _ _ _ _ => pts_nil) (fun _ _ _ _ _ => pe_dget hu (pv 2) (pe_dget hu (pe_ix ix_seq (pv 1) (pv 5) (fun _ _ => rfl)) (pv 8) (fun _ _ => rfl)) (fun _ _ => rfl))) pa_nil)) pa_nil))))
        (pss_one (ps_dput hu (pv 4) (pv 5) (pe_psetd hu2 (pv 3) (pv 7) (pe_callB call_lenP (by rfl) B.len boot_len (pa_cons (pv 3) pa_nil)) ⟨rfl, rfl, rfl, rfl⟩) rfl)))))
      (pss_one (ps_ret (pv 4)))), ?_⟩
    intro pn hpn pf hpf
    refine ⟨_, _, rfl, ?_⟩
    have hpfH : H pf = none := (same_new hpn).free hpf
    have nnf : pn ≠ pf := ne_of_none upd_same hpf
    have s0 : Same H (upd (upd H pn (PkO P w pn [])) pf (.dK [])) := same_upd (same_new hpn) hpfH
    have hne : fd ≠ [] := by obtain ⟨t, e⟩ := O.hd; rw [e]; simp
    have ndn : d ≠ pn := ne_of_none hd hpn
    have ndf : d ≠ pf := ne_of_none hd hpfH
    refine ⟨d, _, s0 _ _ hd, trivial, fun od => ?_⟩
    have hRd : RowsAt (upd H d (.frz od (.dK (dKi fd κ)))) cs a rows := hR.lock hd hne
    have sd : Same (upd H d (.frz od (.dK (dKi fd κ)))) (upd (upd (upd H pn (PkO P w pn [])) pf (.dK [])) d (.frz od (.dK (dKi fd κ)))) := fun b o hb => by
      by_cases e : b = d
      · subst e; rw [upd_same] at hb ⊢; exact hb
      · rw [upd_ne e] at hb ⊢; exact s0 _ _ hb
    have pnd : (upd H d (.frz od (.dK (dKi fd κ)))) pn = none := by rw [upd_ne (Ne.symm ndn)]; exact hpn
    have pfd : (upd H d (.frz od (.dK (dKi fd κ)))) pf = none := by rw [upd_ne (Ne.symm ndf)]; exact hpfH
    refine ⟨_, rfl, d, od, _, rfl, upd_same, ?_⟩
    have hfl : fd.length ≤ rows.length := nodup_len _ _ O.nd O.rg
    have h5 := W.five
    refine for_it walk_items (fun i σ H' => Same (upd H d (.frz od (.dK (dKi fd κ)))) H' ∧ ∃ (κ' : Int → Int) (xs : List (PKey × Addr × Int)) (a5 a6 a7 a8 : Option V), σ = [some (.str (txt cs)), some (.ref a), some (.ref d), some (.ref pn), some (.ref pf), a5, a6, a7, a8] ∧
      H' pn = some (PkO P w pn xs) ∧ H' pf = some (.dK (dKi (fd.take i) κ')) ∧ (∀ x ∈ xs, KeyT H' x.1 x.2.1) ∧ (∀ (j : Nat) x, xs[j]? = some x → x.2.2 = (j : Int)) ∧ xs.length ≤ i ∧ ∀ q ∈ fd.take i, lookP xs (sig cs rows κ q) = some (κ' q)) ?_ (fun i σ H' _ p => p.1 _ _ upd_same) ?_ ?_
    · refine ⟨sd, κ, [], none, none, none, none, rfl, ?_, ?_, (fun _ h => nomatch h), (fun j x h => by simp at h), Nat.le_refl _, (fun _ h => by simp at h)⟩
      · rw [upd_ne (Ne.symm ndn), upd_ne nnf, upd_same]
        rfl
      · rw [upd_ne (Ne.symm ndf), upd_same]; rfl
    · rintro i v σ H1 H1' hi ⟨e1, κ', xs, b5, b6, b7, b8, rfl, h1, h2, h3, h4, h6, h7⟩ ⟨T, x, y, rfl, hT, rfl, ex, ey⟩
      rw [show (dKi fd κ).length = fd.length from len_dI _ _] at hi
      have hq : fd[i]? = some fd[i] := List.getElem?_eq_getElem hi
      generalize fd[i] = q at hq
      have hkv : (dKi fd κ)[i]? = some (Sum.inl q, .int (κ q)) := by
        unfold dKi dI
        rw [List.getElem?_map, hq]; rfl
      dsimp only at ex ey
      rw [hkv] at ex ey
      cases ex
      cases ey
      have hqm := List.mem_of_getElem? hq
      obtain ⟨q0, q1⟩ := O.rg q hqm
      have eT : Same H1 (upd H1 T (.tup [kV (Sum.inl q), .int (κ q)])) := same_new hT
      refine ⟨T, _, rfl, SqT.of upd_same, rfl, _, _, rfl, _, _, rfl, rfl, ?_⟩
      have hz : (txt cs).cps.size = cs.length := by simp [txt]
      have h4' := ha.four
      refine ⟨_, rfl, _, rfl, _, rfl, fun D hD => lc_S walk_str hD (by rw [hz]; omega) (fun j acc _ => acc = ((cs.take j).map fun c => κ (nxt cs rows q c)).map V.int) (fun _ _ _ _ _ _ _ h => h) rfl (fun _ _ => trivial) ?_ ?_⟩
      · rintro j v H3 H3' acc Qt Qf hj e3 hd3 rfl ⟨rfl, c, hc, rfl⟩ kt kf
        have hc' : cs[j]? = some c := by simpa [txt] using hc
        have hcm := List.mem_of_getElem? hc'
        have e4 := e1.trans (eT.trans e3)
        obtain ⟨ys, dd, g1, g2, g3⟩ := (hRd.mono e4).get W q0 q1 hcm
        refine ⟨rfl, _, rfl, _, rfl, _, rfl, ix_lot g1 g2 ⟨_, rfl, dd, _, rfl, g3, d, .int (κ (nxt cs rows q c)), rfl, ?_, kt _ _ (Same.refl _) ?_⟩⟩
        · refine .inl ⟨_, Sum.inl (nxt cs rows q c), .inr ⟨od, e4 _ _ upd_same⟩, rfl, ?_⟩
          show some _ = valV (dI fd fun q => .int (κ q)) _
          rw [val_dI, if_pos (O.cl q hqm c hcm)]
        · rw [List.take_add_one, hc', List.map_append, List.map_append]
          rfl
      · rintro H3 acc e3 hd3 rfl
        rw [hz, List.take_length] at hd3
        refine ⟨D, _, rfl, .inl ⟨SqL.of hd3, fun l hl => ⟨by show 2 ≤ sizeLine; decide, fun b hb => ?_⟩⟩⟩
        have e4 := (e1.trans (eT.trans e3)).trans ((same_new (o := .tup (((cs.map fun c => κ (nxt cs rows q c))).map V.int)) hl).trans (same_new (o := .tup [.int (κ q), .ref l]) hb))
        have e5 : Same H1 _ := (eT.trans e3).trans ((same_new (o := .tup (((cs.map fun c => κ (nxt cs rows q c))).map V.int)) hl).trans (same_new (o := .tup [.int (κ q), .ref l]) hb))
        have hk : KeyT (upd (upd H3 l (.tup (((cs.map fun c => κ (nxt cs rows q c))).map V.int))) b (.tup [.int (κ q), .ref l])) (sig cs rows κ q) b := ⟨l, upd_same, (same_new hb) _ _ upd_same⟩
        generalize (upd (upd H3 l (.tup (((cs.map fun c => κ (nxt cs rows q c))).map V.int))) b (.tup [.int (κ q), .ref l])) = H4 at e4 e5 hk
        have k3 : ∀ x ∈ xs, KeyT H4 x.1 x.2.1 := fun x hx => (h3 x hx).mono e5
        have p1 := e5 _ _ h1
        have p2 := e5 _ _ h2
        have hlen : (dKi (fd.take i) κ').length < sizeLine := by rw [show (dKi (fd.take i) κ').length = (fd.take i).length from len_dI _ _, List.length_take, sizeLine_eq]; omega
        refine ⟨_, rfl, pn, xs, rfl, p1, _, rfl, _, rfl, pn, xs, rfl, p1, k3, xs, sig cs rows κ q, b, _, p1, rfl, hk, rfl, (by rw [sizeLine_eq]; omega), k3, fun v hv => ?_, fun hv => ?_⟩
        · obtain ⟨pu, pv'⟩ := put_upd (κ := κ') (v := v) O.nd hq
          refine ⟨_, rfl, _, rfl, pf, _, rfl, DPut.k (k := Sum.inl q) p2 hlen, ?_⟩
          rw [pu]
          refine ⟨same_upd e4 pfd, _, xs, _, _, _, _, rfl, ?_, upd_same, ?_, h4, by omega, ?_⟩
          · rw [upd_ne nnf]; exact p1
          · exact fun x hx => keyT_upd (k3 x hx) p2 (fun _ => nofun)
          · intro p hp
            rw [List.take_add_one, hq] at hp
            rcases List.mem_append.mp hp with z | z
            · simp only [if_neg (pv' p z)]; exact h7 p z
            · have : p = q := by simpa using z
              subst this
              simp only [if_true]; exact hv
        · obtain ⟨pu, pv'⟩ := put_upd (κ := κ') (v := (xs.length : Nat)) O.nd hq
          refine ⟨_, rfl, _, rfl, pf, _, rfl, DPut.k (k := Sum.inl q) (by rw [upd_ne (Ne.symm nnf)]; exact p2) hlen, ?_⟩
          rw [pu]
          refine ⟨same_upd (same_upd e4 pnd) pfd, _, xs ++ [(sig cs rows κ q, b, ((xs.length : Nat) : Int))], _, _, _, _, rfl, ?_, upd_same, ?_, ?_, (by simp; omega), ?_⟩
          · rw [upd_ne nnf, upd_same]
            rfl
          · intro x hx
            have p2' : (L2.upd H4 pn (PkO P w pn (xs ++ [(sig cs rows κ q, b, ((xs.length : Nat) : Int))]))) pf = some (.dK (dKi (fd.take i) κ')) := by rw [upd_ne (Ne.symm nnf)]; exact p2
            rcases List.mem_append.mp hx with z | z
            · exact keyT_upd (keyT_upd (k3 x z) p1 (fun _ => nofun)) p2' (fun _ => nofun)
            · have : x = (sig cs rows κ q, b, ((xs.length : Nat) : Int)) := by simpa using z
              subst this
              exact keyT_upd (keyT_upd hk p1 (fun _ => nofun)) p2' (fun _ => nofun)
          · intro j x hx
            by_cases hj : j < xs.length
            · rw [List.getElem?_append_left hj] at hx
              exact h4 j x hx
            · have hj' : j = xs.length := by
                have := (List.getElem?_eq_some_iff.mp hx).1
                simp at this; omega
              subst hj'
              rw [List.getElem?_append_right (Nat.le_refl _)] at hx
              simp at hx
              rw [← hx]
          · intro p hp
            rw [List.take_add_one, hq] at hp
            rcases List.mem_append.mp hp with z | z
            · simp only [if_neg (pv' p z)]; exact lookP_app (h7 p z)
            · have : p = q := by simpa using z
              subst this
              simp only [if_true]; exact lookP_new hv
    · rintro σ H1 ⟨e1, κ', xs, b5, b6, b7, b8, rfl, h1, h2, h3, h4, h6, h7⟩
      rw [show (dKi fd κ).length = fd.length from len_dI _ _, List.take_length] at h2 h7
      refine ⟨e1 _ _ upd_same, _, rfl, k κ' pf _ ?_ hpfH (lock_same hd e1) ?_⟩
      · intro p hp q hq
        have hp' := h7 p hp
        have hq' := h7 q hq
        constructor
        · intro e
          obtain ⟨j, j1, b, j2⟩ := lookP_some h4 hp'
          obtain ⟨j', j1', b', j2'⟩ := lookP_some h4 hq'
          have ej : j = j' := by omega
          subst ej
          rw [j2] at j2'
          exact congrArg (·.1) (Option.some.inj j2')
        · intro e
          rw [e, hq'] at hp'
          exact (Option.some.inj hp').symm
      · rw [upd_ne (Ne.symm ndf)]; exact h2
end
end SS

set_option maxRecDepth 100000
set_option maxHeartbeats 4000000
namespace SS
open PySem L2 SR TL
/-! ### kinds and texts: after r refinements kinds are equal just if no text of at most r signs tells the states apart -/
def Eqv (cs : List Nat) (rows : List (List Int)) (ends : List Int) (r : Nat) (p q : Int) : Prop := ∀ x : List Nat, (∀ c ∈ x, c ∈ cs) → x.length ≤ r → (run cs rows p x ∈ ends ↔ run cs rows q x ∈ ends)
section
variable {cs : List Nat} {rows : List (List Int)} {ends fd : List Int}
theorem Eqv.mono {r r' : Nat} {p q : Int} (h : Eqv cs rows ends r p q) (le : r' ≤ r) : Eqv cs rows ends r' p q := fun x hx hl => h x hx (Nat.le_trans hl le)
theorem eqv_zero {p q : Int} : Eqv cs rows ends 0 p q ↔ (p ∈ ends ↔ q ∈ ends) := by
  constructor
  · intro h
    exact h [] (fun _ h => nomatch h) (Nat.le_refl _)
  · intro h x hx hl
    have : x = [] := List.length_eq_zero_iff.mp (Nat.le_zero.mp hl)
    subst this
    exact h
theorem eqv_succ {r : Nat} {p q : Int} : Eqv cs rows ends (r + 1) p q ↔ Eqv cs rows ends r p q ∧ ∀ c ∈ cs, Eqv cs rows ends r (nxt cs rows p c) (nxt cs rows q c) := by
  constructor
  · intro h
    refine ⟨h.mono (Nat.le_succ r), fun c hc x hx hl => ?_⟩
    have := h (c :: x) (fun d hd => by
      rcases List.mem_cons.mp hd with z | z
      · rw [z]; exact hc
      · exact hx d z) (by simpa using hl)
    exact this
  · rintro ⟨h1, h2⟩ x hx hl
    cases x with
    | nil => exact h1 [] hx (Nat.zero_le _)
    | cons c x => exact h2 c (hx c List.mem_cons_self) x (fun d hd => hx d (List.mem_cons_of_mem _ hd)) (by simpa using hl)
/-- the kinds κ are told by texts of at most r signs -/
def Kn (cs : List Nat) (rows : List (List Int)) (ends fd : List Int) (r : Nat) (κ : Int → Int) : Prop := ∀ p ∈ fd, ∀ q ∈ fd, κ p = κ q ↔ Eqv cs rows ends r p q
theorem Refn.kn {κ κ' : Int → Int} {r : Nat} (R : Refn cs rows fd κ κ') (O : Order cs rows fd) (k : Kn cs rows ends fd r κ) : Kn cs rows ends fd (r + 1) κ' := fun p hp q hq => by
  rw [R p hp q hq, eqv_succ, ← k p hp q hq]
  unfold sig
  rw [Prod.mk.injEq]
  refine and_congr Iff.rfl ?_
  rw [List.map_inj_left]
  constructor
  · intro h c hc
    exact (k _ (O.cl p hp c hc) _ (O.cl q hq c hc)).mp (h c hc)
  · intro h c hc
    exact (k _ (O.cl p hp c hc) _ (O.cl q hq c hc)).mpr (h c hc)
end
end SS

set_option maxRecDepth 100000
set_option maxHeartbeats 4000000
namespace SR
open PySem PySem.Spec PyProof.Rows L2
theorem kv_at {κ : Type} {kvs : List (κ × V)} {vs : List (κ × Value)} (r : KV kvs vs) : ∀ (i : Nat) {y : κ × Value}, vs[i]? = some y → ∃ x, kvs[i]? = some x ∧ RelV x.2 y.2 := by
  unfold KV at r
  induction r with
  | nil => intro i y e; simp at e
  | @cons a b _ _ h _ ih =>
    intro i y e
    match i, e with
    | 0, e => exact ⟨a, rfl, by rw [← Option.some.inj e]; exact h.2⟩
    | i + 1, e =>
      obtain ⟨x, h1, h2⟩ := ih i (by simpa using e)
      exact ⟨x, by simpa using h1, h2⟩
/-! ### d.values() as a thing of its own; its list -/
def ViewO (r d : Addr) : HO := .ext fun h => h.IsValuesView r d
section
variable {X : Cx} {o : Expr} {td : TE} {apos cpos : Pos}
def tView (td : TE) : TE := fun σ H Q => td σ H fun x H1 => ∃ a kvs, x = .ref a ∧ H1 a = some (.dK kvs) ∧ ∀ r, H1 r = none → Q (.ref r) (upd H1 r (ViewO r a))
theorem pe_view (he : PE X o td) (hbase : attributeBase o "values" X.env (eval o X.env) = eval o X.env := by rfl) (hline : (apos.endLine == cpos.line) = true := by rfl) : PE X (.Call (.Attribute o "values" apos) [] [] cpos) (tView td) := by
  refine ⟨fun pins s σ H Q I h => ?_⟩
  refine wpAny_Call_method0_late hbase hline (thn (he.run pins s σ H _ I h) fun u s1 ⟨x, H1, I1, rx, a, kvs, ex, ha, q⟩ => ?_)
  subst ex
  obtain rfl : u = Value.ref a := rx
  obtain ⟨_, hsys, vs, rel, dof⟩ := dk_of I1.hok ha
  refine ⟨"dict", "dict.values", F.plainAttrs_dict, F.slot_dict_values, F.type_dict_values, dof.typeIs, dof.mapOf.noDict, Calls.callWith_builtin rfl (PySem.evalArgs_none ?_)⟩
  refine call_meetsIn F.slot_dict_values dof.typeIs F.entry_dict_values (F.args_dict_values_1 _) (meets_dict_values (mixKind X.prog X.w) a hsys) ⟨⟨vs, dof⟩, ?_⟩
  refine ⟨.ref s1.heap.objs.size, _, I1.laid (a := s1.heap.objs.size) (o := ViewO s1.heap.objs.size a) (t' := s1.toks) (fun _ _ q => Heap.get?_push_of_some _ q) (Nat.le_refl _) ?_, rfl, q _ (I1.hok.fresh (Nat.le_refl _))⟩
  refine ⟨⟨_, Heap.get?_push_size _ rfl, rfl, rfl⟩, ⟨_, Heap.get?_push_size _ rfl⟩, fun h1 h2 z k => ?_⟩
  obtain ⟨ov, z1, z2⟩ := z
  exact ⟨ov, k ov z1, z2⟩
theorem call_list_view (hc : X.calm = true) : CallR X (.type "list") (fun xs H Q => ∃ r a kvs, xs = [.ref r] ∧ H r = some (ViewO r a) ∧ H a = some (.dK kvs) ∧ ∀ l, H l = none → Q (.ref l) (upd H l (.lst (kvs.map (·.2))))) := by
  intro pins s σ H xs us Q I r h
  obtain ⟨r', a, kvs, rfl, hr, ha, q⟩ := h
  obtain ⟨u, rfl, rx⟩ := vals1 r
  obtain rfl : u = Value.ref r' := rx
  obtain ⟨hl, hsys, vs, rel, dof⟩ := dk_of I.hok ha
  obtain ⟨es, ep, raw, hsz, ent⟩ := dof.raw
  have hlen : vs.length = kvs.length := (KV.length rel).symm
  refine PySem.W.kdl_call (KdlSrc.rawValues (es := es) (ep := ep)) (I.ok.hd hc) ⟨(I.hok r' _ hr).1, raw⟩ (by rw [hsz, hlen]; exact hl) fun h' tk acc' c' hk hS' hacc => ?_
  have hv : Vals (kvs.map (·.2)) acc'.toList := by
    have key : ∀ (l : List (Key × V)) (ys : List Value), ys.length = l.length → (∀ (j : Nat) y, ys[j]? = some y → ∃ kx, l[j]? = some kx ∧ RelV kx.2 y) → Vals (l.map (·.2)) ys := by
      intro l
      induction l with
      | nil =>
        intro ys e _
        rw [List.length_eq_zero_iff.mp e]
        exact .nil
      | cons c l ih =>
        intro ys e hy
        cases ys with
        | nil => simp at e
        | cons y ys =>
          obtain ⟨kx, e1, e2⟩ := hy 0 y rfl
          cases (Option.some.inj e1)
          exact .cons e2 (ih ys (by simpa using e) fun j v hv => hy (j + 1) v (by simpa using hv))
    refine key _ _ (by rw [Array.length_toList, hacc.1, hsz, hlen]) fun j y hy => ?_
    obtain ⟨hj, e⟩ := hacc.2 j y (by simpa using hy)
    have hj' : j < vs.length := by rw [← hsz]; exact hj
    obtain ⟨_, e2⟩ := ent j hj _ _ (List.getElem?_eq_getElem hj')
    obtain ⟨x, x1, x2⟩ := kv_at rel _ (List.getElem?_eq_getElem hj')
    refine ⟨_, x1, ?_⟩
    rw [e, e2]
    exact x2
  refine ⟨.ref s.heap.objs.size, _, I.laid (t' := tk) hk (Nat.le_refl _) (show ObjOk X.prog X.w _ h' _ (.lst (kvs.map (·.2))) from ⟨by rw [List.length_map]; exact hl, acc'.toList, c', hv, by simpa using hS'⟩), rfl, q _ (I.hok.fresh (Nat.le_refl _))⟩
/-- repr(flag) -/
theorem call_repr_bl : CallR X (.builtin "repr") (fun xs H Q => ∃ b, xs = [.bl b] ∧ Q (.str (if b then "True" else "False")) H) := by
  intro pins s σ H xs us Q I r h
  obtain ⟨b, rfl, q⟩ := h
  obtain ⟨u, rfl, rx⟩ := vals1 r
  cases rx
  exact PySem.P.repr_of_bool ⟨.str _, H, I.tok _, ⟨_, rfl⟩, q⟩
end
/-! ### enumerate over the keys of a dict -/
section
variable {prog : Program} {w : World} {A : Around} {E : Value → Shared → Prop} {s : Shared}
theorem next_key {it d : Addr} {i ep : Nat} {es : Array DictEntry} {Q : Value → Shared → Prop} (hit : s.heap.IsKeyIter it d i es.size ep) (hm : s.heap.DictRaw d es ep) (hi : i < es.size)
    (hQ : ∀ h', h'.IsKeyIter it d (i + 1) es.size ep → Heap.SameBut it s.heap h' → Q es[i].key { s with heap := h' }) : wpAny (model prog w) A (Builtin.SmallTypes.nextOf (.ref it)) Q E s := by
  obtain ⟨o, e1, e2, e3⟩ := id hit
  obtain ⟨od, d1, d2, d3⟩ := id hm
  have ty := hit.typeIs
  have own : Builtin.Dict_items.ownsTuple "dict_keyiterator" = false := by decide
  unfold Builtin.SmallTypes.nextOf
  refine wpAny_bind (wpAny_callSpecial?_slot (name := Str.ofString "__next__") ty F.slot_dict_keyiterator_next (wpAny_call_entry F.slot_dict_keyiterator_next ty F.entry_dict_keyiterator_next (wpAny_bind (wpAny_pure (wpAny_bind (wpAny_bind ?_)))) (F.args_dict_keyiterator_next_1 _)))
  first | refine wpAny_bind (wpAny_typeNameOfWhole_keyiter ty (wpAny_pure (wpAny_bind (wpAny_fieldsOf e1 e3 ?_)))) | refine wpAny_bind (wpAny_typeNameOf_keyiter ty (wpAny_pure (wpAny_bind (wpAny_fieldsOf e1 e3 ?_))))
  simp only [own, Bool.false_eq_true, if_false]
  refine wpAny_ite_false rfl (wpAny_bind (wpAny_pure (wpAny_bind (wpAny_dictEntries d1 d3 ?_))))
  rw [if_neg (by simp)]
  refine wpAny_bind (wpAny_pure (wpAny_bind (wpAny_dictEpoch d1 d3 ?_)))
  rw [if_neg (by simp)]
  refine wpAny_pure ?_
  have n0 : ¬ ((i : Int) < 0) := by omega
  simp only [n0, if_false, Int.toNat_natCast, Array.getElem?_eq_getElem hi]
  refine wpAny_bind ?_
  first | refine wpAny_bind (wpAny_typeNameOfWhole_keyiter ty (wpAny_pure (wpAny_bind (wpAny_isOneOf_keyiter ty ?_)))) | refine wpAny_bind (wpAny_typeNameOf_keyiter ty (wpAny_pure (wpAny_bind (wpAny_isOneOf_keyiter ty ?_))))
  show wpAny _ _ (setField (.ref it) 1 (rawInt ((i : Int) + 1)) >>= _) _ _ s
  have nx : (s.heap.update it (Obj.mapFields (·.setIfInBounds 1 (rawInt ((i : Int) + 1))))).IsKeyIter it d (i + 1) es.size ep :=
    ⟨_, Heap.get?_update_self _ e1 (Obj.isFreed_of_fields (Obj.data_mapFields e3 _)), (Obj.cls_mapFields ..).trans e2, by rw [Obj.data_mapFields e3]; simp [rawInt]⟩
  refine wpAny_bind (wpAny_setField e1 e3 (by simp) (wpAny_bind (wpAny_holding (wpAny_bind (wpAny_isOneOf_keyiter (s := { s with heap := s.heap.update it (Obj.mapFields (·.setIfInBounds 1 (rawInt ((i : Int) + 1)))) }) nx.typeIs ?_)))))
  show wpAny _ _ (pure es[i].key) _ _ _
  exact wpAny_pure (wpAny_pure ⟨_, rfl, wpAny_pure (hQ _ nx (Heap.SameBut.update ..))⟩)
theorem next_keyE {it d : Addr} {i ep : Nat} {es : Array DictEntry} {Q : Value → Shared → Prop} (hh : A.handled = none) (hit : s.heap.IsKeyIter it d i es.size ep) (hm : s.heap.DictRaw d es ep) (hi : es.size ≤ i)
    (hE : ∀ h' e, Heap.ExtBut it s.heap h' → (∃ o, h'.get? e = some o ∧ o.cls = .type "StopIteration") → E (.ref e) { s with heap := h' }) : wpAny (model prog w) A (Builtin.SmallTypes.nextOf (.ref it)) Q E s := by
  obtain ⟨o, e1, e2, e3⟩ := id hit
  obtain ⟨od, d1, d2, d3⟩ := id hm
  have ty := hit.typeIs
  have own : Builtin.Dict_items.ownsTuple "dict_keyiterator" = false := by decide
  unfold Builtin.SmallTypes.nextOf
  refine wpAny_bind (wpAny_callSpecial?_slot (name := Str.ofString "__next__") ty F.slot_dict_keyiterator_next (wpAny_call_entry F.slot_dict_keyiterator_next ty F.entry_dict_keyiterator_next (wpAny_bind (wpAny_pure (wpAny_bind (wpAny_bind ?_)))) (F.args_dict_keyiterator_next_1 _)))
  first | refine wpAny_bind (wpAny_typeNameOfWhole_keyiter ty (wpAny_pure (wpAny_bind (wpAny_fieldsOf e1 e3 ?_)))) | refine wpAny_bind (wpAny_typeNameOf_keyiter ty (wpAny_pure (wpAny_bind (wpAny_fieldsOf e1 e3 ?_))))
  simp only [own, Bool.false_eq_true, if_false]
  refine wpAny_ite_false rfl (wpAny_bind (wpAny_pure (wpAny_bind (wpAny_dictEntries d1 d3 ?_))))
  rw [if_neg (by simp)]
  refine wpAny_bind (wpAny_pure (wpAny_bind (wpAny_dictEpoch d1 d3 ?_)))
  rw [if_neg (by simp)]
  refine wpAny_pure ?_
  have n0 : ¬ ((i : Int) < 0) := by omega
  simp only [n0, if_false, Int.toNat_natCast, Array.getElem?_eq_none hi]
  refine wpAny_bind ?_
  first | refine wpAny_bind (wpAny_typeNameOfWhole_keyiter ty (wpAny_pure ?_)) | refine wpAny_bind (wpAny_typeNameOf_keyiter ty (wpAny_pure ?_))
  show wpAny _ _ (setField (.ref it) 0 .none >>= _) _ _ s
  refine wpAny_bind (wpAny_setField e1 e3 (by simp) ?_)
  show wpAny _ _ (newExc (.type "StopIteration") [] >>= _) _ _ _
  refine wpAny_bind ?_
  simp only [newExc, newTuple]
  refine wpAny_bind (wpAny_newObj_type (wpAny_bind (m := firstArgMember _ _) (wpAny_of_eq (a := Value.none) (by first | rfl | (simp only [firstArgMember]; rfl)) (wpAny_newObj_type ?_ (by size_fits)))) (by size_fits))
  simp only [raiseNew]
  refine wpAny_bind (wpAny_handled ?_)
  first | rw [show A.in1.handled = none from hh] | rw [hh]
  exact wpAny_bind (wpAny_pure (wpAny_throw (hE _ _ (((Heap.SameBut.update ..).extBut.push _).push _) ⟨_, Heap.get?_push_size _ rfl, rfl⟩)))
end
theorem draws_keys {P : Program} {w : World} {A : Around} (hh : A.handled = none) (it d : Addr) (hne : d ≠ it) (es : Array DictEntry) (ep : Nat) :
    Draws P w A it [it, d] es.size (fun i v => ∃ hi : i < es.size, v = es[i].key) (fun i h => h.IsKeyIter it d i es.size ep ∧ h.DictRaw d es ep) where
  live := fun _ _ st => let ⟨o, ho, _⟩ := st.1; ⟨o, ho⟩
  frame := fun _ _ _ st hk => ⟨let ⟨o, ho, r⟩ := st.1; ⟨o, hk it (by simp) o ho, r⟩, st.2.at fun o e => hk d (by simp) o e⟩
  item := fun i s Q E hi st hQ => next_key st.1 st.2 hi fun h' hit hs => hQ _ h' s.toks ⟨hi, rfl⟩ ⟨hit, st.2.at fun o e => hs.extBut d o hne e⟩ hs
  done := fun s Q E st hE => next_keyE hh st.1 st.2 (Nat.le_refl _) hE
theorem begins_keys (d : Addr) (es : Array DictEntry) (ep : Nat) (hd : (d == sysModules) = false) : Begins (.ref d) { cls := .type "dict_keyiterator", data := .fields #[.ref d, .int 0 0, .int es.size 0, .int ep 0] } fun h => h.DictRaw d es ep where
  iter := fun prog w A E s Q hm h => wpAny_pyIter_dict_raw hd hm h
  keeps := fun h h' x hk => x.at fun o e => hk d o e
  free := rfl
/-- the dict at d, locked: its keys -/
theorem src_keys {P : Program} {w : World} {K : PySem.W.Frag} {d it : Addr} {ob : Obj} {kvs : List (Key × V)} {ep : Nat} (hne : d ≠ it) (hep : ∃ es, ob.data = .dict es ep) :
    ESrc P w K (fun H => H d = some (.frz ob (.dK kvs))) (kvs.map fun kv => kV kv.1) d it (fun i h => h.IsKeyIter it d i kvs.length ep) where
  draws := by
    intro X hP hw hK hc pins s σ H I hs
    subst hP hw hK
    obtain ⟨h1, h2, h3, es, ep', vs, hdt, hsz, kv, hm⟩ := I.frzK hs
    obtain ⟨es', e'⟩ := hep
    obtain ⟨e1, e2⟩ := dict_ep hdt e'
    subst e1 e2
    have hl : kvs.length = vs.length := Paired.length kv
    have hz : es'.size = kvs.length := by rw [hsz]
    have D := draws_keys (P := X.prog) (w := X.w) (A := X.A.in1) (I.ok.hd hc) it d hne es' ep
    refine ⟨fun i v => ∃ hi : i < es'.size, v = es'[i].key, fun i h => h.IsKeyIter it d i es'.size ep ∧ h.DictRaw d es' ep, by rw [List.length_map, ← hz]; exact D, fun i h => ⟨by rw [hz]; exact h, ob, h2, h3, hdt⟩, fun i h' h => by rw [← hz]; exact h.1, fun i v x hv hx => ?_⟩
    obtain ⟨hi, rfl⟩ := hv
    rw [List.getElem?_map] at hx
    obtain ⟨p, hp, rfl⟩ := Option.map_eq_some_iff.mp hx
    obtain ⟨k, y⟩ := p
    obtain ⟨u, hu, _⟩ := kv_get kv hp
    obtain ⟨o2, es2, g2, _, dt2, _, pr, _⟩ := hm
    rw [h2] at g2
    cases g2
    obtain ⟨e3, _⟩ := dict_ep hdt dt2
    subst e3
    exact relV_key (show keyIs k es2[i].key = true from (pr.get? (e := es2[i]) (by simp [hi]) hu).1)
  obj := fun i h st => by
    obtain ⟨o, ho, hc, hd⟩ := st
    exact ⟨o, ho, fun v q => by rw [hd] at q; cases q⟩
  keep := fun i h h' st k => let ⟨o, ho, r⟩ := st; ⟨o, k o ho, r⟩
/-- enumerate(d), d a locked dict -/
def iEnumK (ta : TA) : TI := fun σ H R => ta σ H fun vs H1 => ∃ d ob kvs, vs = [.ref d] ∧ H1 d = some (.frz ob (.dK kvs)) ∧ R (ItE (fun H => H d = some (.frz ob (.dK kvs))) (kvs.map fun kv => kV kv.1)) H1
theorem pi_enumK {X : Cx} {e : Expr} {ta : TA} {p pos tpos : Pos} {elts : List Expr} {kk : Nat} (hg : Gl X "enumerate") (hm : X.mg "enumerate" = none) (ha : PA X [e] ta) (hs : starEach [e] X.env = [(false, eval e X.env)] := by rfl) :
    PI X (.Tuple elts kk tpos) (.Call (.Name "enumerate" p) [e] [] pos) (iEnumK ta) := by
  refine ⟨fun pins s σ H R I h => ?_⟩
  refine Call_ (ld_blt I hg hm boot_enumerate (PyProof.Rows.callWith_type1 (thn (ha.run pos pins s σ H _ I h) fun us s1 ⟨vs, H1, I1, r1, q1⟩ => ?_) hs rfl))
  obtain ⟨d, ob, kvs, ex, hq, q⟩ := q1
  subst ex
  cases r1 with
  | cons r rr =>
    cases rr
    cases r
    obtain ⟨h1, h2, h3, es, ep, ws, hdt, hsz, kv, _⟩ := I1.frzK hq
    have hld : d < s1.heap.objs.size := Heap.lt_size h2
    refine enum_begins1 (begins_keys d es ep h1) ⟨ob, h2, h3, hdt⟩ fun h' he hit _ hk => wpAny_pyIter_enum he ?_
    have I2 : Inv X pins σ H1 { s1 with heap := h' } := I1.kept (t' := s1.toks) hk
    refine ⟨s1.heap.objs.size + 1, [s1.heap.objs.size + 1, s1.heap.objs.size], _, _, H1, rfl, I2, turn_enumS (src_keys (d := d) (it := s1.heap.objs.size) (kvs := kvs) (Nat.ne_of_lt hld) ⟨es, hdt⟩) (Nat.succ_ne_self _) (Nat.ne_of_gt (Nat.lt_succ_of_lt hld)), ⟨⟨.none, he⟩, _, hit, rfl, by rw [hsz]; rfl⟩, fun b hb => ?_, q⟩
    have e' : b = s1.heap.objs.size + 1 ∨ b = s1.heap.objs.size := by simpa using hb
    have hle : s1.heap.objs.size ≤ b := by
      rcases e' with z | z
      · rw [z]; exact Nat.le_add_right _ _
      · rw [z]; exact Nat.le_refl _
    exact I1.fpOk hle (I1.hok.fresh hle)
end SR


set_option maxRecDepth 100000
set_option maxHeartbeats 4000000
namespace SS
open PySem L2 SR TL
theorem len_subG {α : Type} [DecidableEq α] : ∀ (l D : List α), l.Nodup → (∀ x ∈ l, x ∈ D) → l.length ≤ D.length
  | [], _, _, _ => Nat.zero_le _
  | x :: l, D, nd, h => by
    obtain ⟨n1, n2⟩ := List.nodup_cons.mp nd
    have hx := h x List.mem_cons_self
    have := len_subG l (D.erase x) n2 fun y hy => (List.mem_erase_of_ne (fun (e : y = x) => n1 (e ▸ hy))).mpr (h y (List.mem_cons_of_mem _ hy))
    rw [List.length_erase_of_mem hx] at this
    have hpos : 0 < D.length := List.length_pos_of_mem hx
    show l.length + 1 ≤ D.length
    omega
/-- as many kinds as before: none was split -/
theorem unsplit {fd l0 l : List Int} {κ0 κ : Int → Int} (fine : ∀ p ∈ fd, ∀ q ∈ fd, κ p = κ q → κ0 p = κ0 q) (nd0 : l0.Nodup) (h0 : ∀ v, v ∈ l0 ↔ v ∈ fd.map κ0) (h : ∀ v, v ∈ l ↔ v ∈ fd.map κ) (hl : l.length ≤ l0.length) :
    ∀ p ∈ fd, ∀ q ∈ fd, κ0 p = κ0 q → κ p = κ q := by
  intro p hp q hq e
  refine Classical.byContradiction fun ne => ?_
  have hf : ∀ s ∈ fd, κ0 ((fd.find? fun t => decide (κ t = κ s)).getD 0) = κ0 s := fun s hs => by
    cases ef : fd.find? fun t => decide (κ t = κ s) with
    | none => exact absurd (List.find?_eq_none.mp ef s hs) (by simp)
    | some t =>
      have h1 : κ t = κ s := by simpa using List.find?_some ef
      exact fine t (List.mem_of_find?_eq_some ef) s hs h1
  have hpl : κ p ∈ l := (h _).mpr (List.mem_map.mpr ⟨p, hp, rfl⟩)
  have sub : ∀ x ∈ l0, x ∈ (l.erase (κ p)).map fun v => κ0 ((fd.find? fun t => decide (κ t = v)).getD 0) := fun x hx => by
    obtain ⟨s, hs, rfl⟩ := List.mem_map.mp ((h0 x).mp hx)
    by_cases es : κ s = κ p
    · refine List.mem_map.mpr ⟨κ q, (List.mem_erase_of_ne (fun z => ne z.symm)).mpr ((h _).mpr (List.mem_map.mpr ⟨q, hq, rfl⟩)), ?_⟩
      rw [hf q hq, ← e]
      exact (fine s hs p hp es).symm
    · exact List.mem_map.mpr ⟨κ s, (List.mem_erase_of_ne es).mpr ((h _).mpr (List.mem_map.mpr ⟨s, hs, rfl⟩)), hf s hs⟩
  have := len_subG _ _ nd0 sub
  rw [List.length_map, List.length_erase_of_mem hpl] at this
  have := List.length_pos_of_mem hpl
  omega
def Bis (cs : List Nat) (rows : List (List Int)) (fd : List Int) (κ : Int → Int) : Prop := ∀ p ∈ fd, ∀ q ∈ fd, κ p = κ q → ∀ c ∈ cs, κ (nxt cs rows p c) = κ (nxt cs rows q c)
def Fine (fd : List Int) (κ0 κ : Int → Int) : Prop := ∀ p ∈ fd, ∀ q ∈ fd, κ p = κ q → κ0 p = κ0 q
theorem Refn.fine {cs : List Nat} {rows : List (List Int)} {fd : List Int} {κ κ' : Int → Int} (R : Refn cs rows fd κ κ') : Fine fd κ κ' := fun p hp q hq e => congrArg (·.1) ((R p hp q hq).mp e)
theorem Refn.bis {cs : List Nat} {rows : List (List Int)} {fd l0 l : List Int} {κ κ' : Int → Int} (R : Refn cs rows fd κ κ') (O : Order cs rows fd) (nd0 : l0.Nodup) (h0 : ∀ v, v ∈ l0 ↔ v ∈ fd.map κ) (h : ∀ v, v ∈ l ↔ v ∈ fd.map κ') (hl : l.length ≤ l0.length) : Bis cs rows fd κ' := by
  intro p hp q hq e c hc
  have e1 := congrArg (·.2) ((R p hp q hq).mp e)
  have e2 : κ (nxt cs rows p c) = κ (nxt cs rows q c) := List.map_inj_left.mp e1 c hc
  exact unsplit R.fine nd0 h0 h hl _ (O.cl p hp c hc) _ (O.cl q hq c hc) e2
theorem ints_of_keys : ∀ m : List Key, (∀ k ∈ m, ∃ x : Int, k = Sum.inl x) → ∃ ts : List Int, m = ts.map Sum.inl
  | [], _ => ⟨[], rfl⟩
  | k :: m, h => by
    obtain ⟨x, rfl⟩ := h k List.mem_cons_self
    obtain ⟨ts, rfl⟩ := ints_of_keys m fun u hu => h u (List.mem_cons_of_mem _ hu)
    exact ⟨x :: ts, rfl⟩
section
variable {P : Program} {w : World} {K : PySem.W.Frag} {mg : Str → Option Value} {base : Heap}
/-- len(set(list(d.values()))) -/
def tCnt (i : Nat) : TE := fun σ H Q => ∃ (d : Addr) (kvs : List (Key × V)) (ns : List Int), σ[i]? = some (some (.ref d)) ∧ H d = some (.dK kvs) ∧ kvs.map (·.2) = ns.map V.int ∧ ns.length < 1000 ∧ ∀ (l : List Int) (H' : Hp), l.Nodup → (∀ v, v ∈ l ↔ v ∈ ns) → Same H H' → Q (.int (l.length : Nat)) H'
theorem pe_cnt {X : Cx} {x : Str} {i : Nat} {px p1 p2 p3 q1 q2 q3 ap cp : Pos} (hc : X.calm = true) (B : Bl X.mg) (he : PE X (.Name x px) (tVar i)) (g1 : Gl X "len") (g2 : Gl X "set") (g3 : Gl X "list")
    (hbase : attributeBase (.Name x px) "values" X.env (eval (.Name x px) X.env) = eval (.Name x px) X.env := by rfl) (hline : (ap.endLine == cp.line) = true := by rfl) :
    PE X (.Call (.Name "len" p1) [.Call (.Name "set" p2) [.Call (.Name "list" p3) [.Call (.Attribute (.Name x px) "values" ap) [] [] cp] [] q3] [] q2] [] q1) (tCnt i) := by
  refine ⟨fun pins s σ H Q I h => (pe_callB cr_lenK g1 B.len boot_len (pa_cons (pe_callTy (cr_setK hc) g2 B.set (by decide +kernel) (pa_cons (pe_callTy (call_list_view hc) g3 B.list (by decide +kernel) (pa_cons (pe_view he hbase hline) pa_nil)) pa_nil)) pa_nil)).run pins s σ H Q I ?_⟩
  obtain ⟨d, kvs, ns, hi, hd, hv, hn, k⟩ := h
  refine ⟨_, hi, d, kvs, rfl, hd, fun r hr => ⟨r, d, kvs, rfl, upd_same, by rw [upd_ne (ne_of_none hd hr)]; exact hd, fun l hl => ?_⟩⟩
  refine ⟨ns.map Sum.inl, .inl ⟨l, rfl, .inl (SqL.of ?_)⟩, by rw [List.length_map]; exact hn, fun p kl hp nd hm hll => ⟨p, kl, rfl, upd_same, ?_⟩⟩
  · rw [upd_same, hv, List.map_map]; rfl
  · obtain ⟨ts, rfl⟩ := ints_of_keys kl fun x hx => by
      obtain ⟨i, _, e⟩ := List.mem_map.mp ((hm x).mp hx)
      exact ⟨i, e.symm⟩
    rw [List.length_map]
    refine k ts _ ?_ ?_ (((same_new hr).trans (same_new hl)).trans (same_new hp))
    · exact (List.pairwise_map.mp nd).imp fun h e => h (congrArg Sum.inl e)
    · intro v
      have h1 := hm (Sum.inl v)
      constructor
      · intro hv'
        obtain ⟨i, hi, e⟩ := List.mem_map.mp (h1.mp (List.mem_map.mpr ⟨v, hv', rfl⟩))
        rw [← Sum.inl.inj e]; exact hi
      · intro hv'
        obtain ⟨i, hi, e⟩ := List.mem_map.mp (h1.mpr (List.mem_map.mpr ⟨v, hv', rfl⟩))
        rw [← Sum.inl.inj e]; exact hi
/-- at most m classes -/
def Cover (m : Nat) (cs : List Nat) (rows : List (List Int)) (ends fd : List Int) : Prop := ∃ rs : List Int, rs.length ≤ m ∧ (∀ s ∈ rs, s ∈ fd) ∧ ∀ p ∈ fd, ∃ s ∈ rs, ∀ n, Eqv cs rows ends n p s
theorem Cover.few {m : Nat} {cs : List Nat} {rows : List (List Int)} {ends fd l : List Int} {κ : Int → Int} {r : Nat} (c : Cover m cs rows ends fd) (k : Kn cs rows ends fd r κ) (nd : l.Nodup) (h : ∀ v, v ∈ l ↔ v ∈ fd.map κ) : l.length ≤ m := by
  obtain ⟨rs, h1, h2, h3⟩ := c
  have := len_subG l (rs.map κ) nd fun v hv => by
    obtain ⟨p, hp, rfl⟩ := List.mem_map.mp ((h v).mp hv)
    obtain ⟨s, hs, e⟩ := h3 p hp
    exact List.mem_map.mpr ⟨s, hs, ((k p hp s (h2 s hs)).mpr (e r)).symm⟩
  rw [List.length_map] at this
  omega
abbrev sLek : Stmt := top 24
abbrev nLek : List Str := ["signs", "rows", "kinds", "count"]
theorem scLek : FnScope nLek ["signs", "rows", "kinds"] (defScope sLek) := ⟨rfl, rfl, rfl, by decide +kernel, rfl, by decide +kernel, by decide +kernel⟩
def spLek : Sp := fun vs H Q _ => ∃ (cs : List Nat) (a d : Addr) (rows : List (List Int)) (ends fd : List Int) (κ : Int → Int) (m : Nat), vs = [.str (txt cs), .ref a, .ref d] ∧ m ≤ 6 ∧ Abc cs ∧ WfM cs rows ends ∧ RowsAt H cs a rows ∧ Order cs rows fd ∧ H d = some (.dK (dKi fd κ)) ∧ Kn cs rows ends fd 0 κ ∧ Cover m cs rows ends fd ∧
  ∀ (κ' : Int → Int) (p : Addr) (H' : Hp) (r : Nat), Kn cs rows ends fd r κ' → r + 1 ≤ m → Bis cs rows fd κ' → Same H H' → H' p = some (.dK (dKi fd κ')) → Q (.ref p) H'
theorem ok_lek {f : Addr} {fd : FuncData} (F : Fun K "least_kinds" "least_kinds" sLek f fd) (B : Bl mg) (C : Cn mg) (Rf : Cal P w K mg base "refined" 1 ["signs", "rows", "kinds"] spRef) : FnOk P w K mg base CX0 2 f fd ["signs", "rows", "kinds"] spLek := by
  obtain ⟨tm, hmost⟩ := C.most
  refine F.ok scLek (fun vs H Q E h => ?_) (fun cdv A outer s H vs Q E hr h => ?_)
  · obtain ⟨cs, a, d, rows, ends, fd, κ, m, rfl, _⟩ := h
    rfl
  · obtain ⟨cs, a, d, rows, ends, fd, κ, m, rfl, hm6, ha, W, hR, O, hd, k0, cov, k⟩ := h
    refine ⟨_, pss_cons (ps_set (i := 3) scLek.nd rfl (.inl rfl) pe_int)
      (pss_cons (ps_while PassesOwn.never (pt_cmpR op_lt (pv 3) (pe_cnt rfl B (pv 2) (by rfl) (by rfl) (by rfl)) (nomark _))
        (pss_cons (ps_set (i := 3) scLek.nd rfl (.inl rfl) (pe_cnt rfl B (pv 2) (by rfl) (by rfl) (by rfl)))
        (pss_cons (ps_if (pt_cmpR op_gt (pv 3) (pe_glob (v := .int 6) rfl hmost ⟨tm, rfl⟩) (nomark _)) (pss_one ps_never) pss_nil)
        (pss_one (ps_set (i := 2) scLek.nd rfl (.inl rfl) (pe_cal Rf hr (pa_cons (pv 0) (pa_cons (pv 1) (pa_cons (pv 2) pa_nil)))))))))
      (pss_one (ps_ret (pv 2)))), ?_⟩
    have hfl : fd.length ≤ rows.length := nodup_len _ _ O.nd O.rg
    have h5 := W.five
    have vals : ∀ κ : Int → Int, (dKi fd κ).map (·.2) = (fd.map κ).map V.int := fun κ => by
      unfold dKi dI
      rw [List.map_map, List.map_map]; rfl
    refine while_by (fun σ H' => Same H H' ∧ ∃ (κ' : Int → Int) (dk : Addr) (n t : Nat), σ = [some (.str (txt cs)), some (.ref a), some (.ref dk), some (.int (n : Nat))] ∧ H' dk = some (.dK (dKi fd κ')) ∧ Kn cs rows ends fd t κ' ∧ n ≤ 6 ∧ t ≤ n ∧
      (n = 0 ∨ ∃ (κp : Int → Int) (l0 : List Int) (t0 : Nat), t = t0 + 1 ∧ Kn cs rows ends fd t0 κp ∧ Refn cs rows fd κp κ' ∧ l0.Nodup ∧ (∀ v, v ∈ l0 ↔ v ∈ fd.map κp) ∧ l0.length = n)) (muAt 7 3) ?_ ?_ ?_
    · exact ⟨Same.refl _, κ, d, 0, 0, rfl, hd, k0, by decide, by decide, .inl rfl⟩
    · rintro σ H1 ⟨e1, κ', dk, n, t, rfl, hk, kn, hn, htn, inv⟩
      refine ⟨_, rfl, dk, _, fd.map κ', rfl, hk, vals κ', (by rw [List.length_map]; omega), fun l H2 nd hl e2 => ⟨_, _, rfl, rfl, _, rfl, ?_⟩⟩
      have hl6 : l.length ≤ m := cov.few kn nd hl
      have e12 := e1.trans e2
      refine ite2 (fun hlt => ?_) (fun hge => ?_)
      · have hlt : n < l.length := by have := of_decide_eq_true hlt; omega
        refine ⟨dk, _, fd.map κ', rfl, e2 _ _ hk, vals κ', (by rw [List.length_map]; omega), fun l' H3 nd' hl' e3 => ?_⟩
        have hll' : l'.length = l.length := ((List.perm_ext_iff_of_nodup nd' nd).mpr fun v => (hl' v).trans (hl v).symm).length_eq
        refine ⟨_, rfl, _, _, rfl, rfl, _, rfl, ite2 (fun hgt => ?_) (fun _ => ?_)⟩
        · have := of_decide_eq_true hgt
          omega
        · refine ⟨_, rfl, _, rfl, _, rfl, cs, a, dk, rows, ends, fd, κ', rfl, ha, W, hR.mono (e12.trans e3), O, e3 _ _ (e2 _ _ hk), fun κ2 p H4 R hp e4 h4 => ⟨⟨(e12.trans e3).trans e4, κ2, p, l'.length, t + 1, rfl, h4, R.kn O kn, by omega, by omega, .inr ⟨κ', l', t, rfl, kn, R, nd', hl', rfl⟩⟩, ?_⟩⟩
          show 7 - ((l'.length : Nat) : Int).toNat < 7 - ((n : Nat) : Int).toNat
          omega
      · have hge : l.length ≤ n := by
          have h : ¬ ((n : Int) < (l.length : Nat)) := fun z => hge (decide_eq_true z)
          omega
        rcases inv with rfl | ⟨κp, l0, t0, rfl, kp, R, nd0, h0, rfl⟩
        · exfalso
          obtain ⟨t, e⟩ := O.hd
          have : κ' 0 ∈ l := (hl _).mpr (List.mem_map.mpr ⟨0, by rw [e]; exact List.mem_cons_self, rfl⟩)
          have := List.length_pos_of_mem this
          omega
        · have kn0 : Kn cs rows ends fd t0 κ' := fun p hp q hq => by
            rw [← kp p hp q hq]
            exact ⟨R.fine p hp q hq, unsplit R.fine nd0 h0 hl hge p hp q hq⟩
          exact ⟨_, rfl, k κ' dk H2 t0 kn0 (by have := cov.few kp nd0 h0; omega) (R.bis O nd0 h0 hl hge) e12 (e2 _ _ hk)⟩
    · intro σ H Q Q' m h
      obtain ⟨v, h1, d, kvs, ns, h2, h3, h4, h5, h6⟩ := h
      refine ⟨v, h1, d, kvs, ns, h2, h3, h4, h5, fun l H' a1 a2 a3 => ?_⟩
      obtain ⟨i, j, b1, b2, b, b3, q⟩ := h6 l H' a1 a2 a3
      exact ⟨i, j, b1, b2, b, b3, m _ _ q⟩
end
end SS

set_option maxRecDepth 100000
set_option maxHeartbeats 4000000
namespace SS
open PySem L2 SR TL
section
variable {P : Program} {w : World} {K : PySem.W.Frag} {mg : Str → Option Value} {base : Heap}
/-! ### live_states -/
abbrev sLst : Stmt := top 26
abbrev nLst : List Str := ["table", "member_list", "found", "turn", "state", "row", "goal"]
theorem scLst : FnScope nLst ["table", "member_list"] (defScope sLst) := ⟨rfl, rfl, rfl, by decide +kernel, rfl, by decide +kernel, by decide +kernel⟩
/-- the table of a machine: a tuple of rows, a tuple of member states -/
def TabAt (H : Hp) (cs : List Nat) (t m : Addr) (rows : List (List Int)) (ends : List Int) : Prop := (∃ qs : List Addr, H t = some (.tup (qs.map .ref)) ∧ Paired (RowAt H cs) qs rows) ∧ H m = some (.tup (ends.map .int))
theorem TabAt.mono {H H' : Hp} {cs : List Nat} {t m : Addr} {rows : List (List Int)} {ends : List Int} (e : Same H H') (h : TabAt H cs t m rows ends) : TabAt H' cs t m rows ends := by
  obtain ⟨⟨qs, h1, h2⟩, h3⟩ := h
  exact ⟨⟨qs, e _ _ h1, Paired.mono h2 fun _ _ h => e _ _ h⟩, e _ _ h3⟩
def spLst : Sp := fun vs H Q _ => ∃ (t m : Addr) (cs : List Nat) (rows : List (List Int)) (ends : List Int), vs = [.ref t, .ref m] ∧ Abc cs ∧ WfM cs rows ends ∧ TabAt H cs t m rows ends ∧
  ∀ (ns : List Int) (p : Addr) (H' : Hp), (∀ q, 0 ≤ q → q < (rows.length : Int) → (q ∈ ns ↔ Leads cs rows ends q)) → (∀ q ∈ ns, 0 ≤ q ∧ q < (rows.length : Int)) → ns.length ≤ 40 → ns.Pairwise (· ≤ ·) → H p = none → Same H H' → H' p = some (.tup (ns.map .int)) → Q (.ref p) H'
theorem ok_lst {f : Addr} {fd : FuncData} (F : Fun K "live_states" "live_states" sLst f fd) (B : Bl mg) : FnOk P w K mg base CX0 1 f fd ["table", "member_list"] spLst := by
  refine F.ok scLst (fun vs H Q E h => ?_) (fun cdv A outer s H vs Q E hr h => ?_)
  · obtain ⟨t, m, cs, rows, ends, rfl, _⟩ := h
    rfl
  · obtain ⟨t, m, cs, rows, ends, rfl, ha, W, ⟨⟨qs, h1, h3⟩, h4⟩, k⟩ := h
    have nd : cs.Nodup := ris_nodup ha.ris
    refine ⟨_, pss_cons (ps_set (i := 2) scLst.nd rfl (.inr rfl) (pe_callTy call_list_of (by rfl) B.list (by decide +kernel) (pa_cons (pv 1) pa_nil)))
      (pss_cons (ps_for PassesOwn.never rfl (pi_range1 (by rfl) B.range (pa_cons (pe_callB call_len_seq (by rfl) B.len boot_len (pa_cons (pv 0) pa_nil)) pa_nil)) (pg_name (i := 3) scLst.nd rfl (.inl rfl))
        (pss_one (ps_for PassesOwn.never rfl (pi_enumT (by rfl) B.enumerate (pa_cons (pv 0) pa_nil)) (pg_tup rfl (pgs_cons (pg_name (i := 4) scLst.nd rfl (.inl rfl)) (pgs_cons (pg_name (i := 5) scLst.nd rfl (.inl rfl)) pgs_nil)))
          (pss_one (ps_if (PW.pt (pw_and (pt_cmpR op_notIn_seq (pv 4) (pv 2) (by rfl)) (pw_and1 (pt_val (pe_callB (cr_any rfl) (by rfl) B.any (by decide +kernel) (pa_cons (pe_lock (pe_lc (own := [("goal", 6)]) (g := gName 6) (tt := tYes) (te := tOp (rIn K false) (tVar 6) (tVar 2)) rfl scLst.nd (pi_values (pv 5)) (blkOk_by (by kernel_rfl))
              (fun _ _ _ _ _ => pg_name (i := 6) scLst.nd rfl (.inl rfl)) (fun _ _ _ _ _ => pts_nil) (fun _ _ _ _ _ => pe_cmpR op_in_seq (pv 6) (pv 2) (by rfl)))) pa_nil))))))
            (pss_one (ps_expr (pe_bm PySem.F.plainAttrs_list PySem.F.slot_list_append PySem.F.type_list_append mt_append (pv 2) (pa_cons (pv 4) pa_nil)))) pss_nil)))))
      (pss_one (ps_ret (pe_callTy call_tuple_of (by rfl) B.tuple (by decide +kernel) (pa_cons (pe_callB cr_sorted (by rfl) B.sorted (by decide +kernel) (pa_cons (pv 2) pa_nil)) pa_nil))))), ?_⟩
    have hql : qs.length = rows.length := Paired.length h3
    have h5 := W.five
    refine ⟨_, rfl, m, _, rfl, .inr (SqT.of h4), fun pf hpf => ?_⟩
    have e0 : Same H (upd H pf (.lst (ends.map .int))) := same_new hpf
    have hcl : cs.length ≤ 1000 := by have := ha.four; omega
    refine ⟨_, rfl, t, _, rfl, .inr (SqT.of (e0 _ _ h1)), _, rfl, (by rw [List.length_map]; omega), (by rw [List.length_map]; omega), for_it (walk_range (lo := 0)) (fun i σ H' => Same H H' ∧ ∃ fd a3 a4 a5 a6, σ = [some (.ref t), some (.ref m), some (.ref pf), a3, a4, a5, a6] ∧ H' pf = some (.lst (fd.map .int)) ∧ Outer rows (Leads cs rows ends) ends i fd) ?_ (fun _ _ _ _ _ => trivial) ?_ ?_⟩
    · exact ⟨e0, ends, none, none, none, none, rfl, upd_same, ⟨W.nd, W.fin, fun q hq => ⟨[], (fun _ h => nomatch h), hq⟩, fun _ h => h⟩, .inr (Nat.zero_le _)⟩
    · rintro i v σ H1 H1' hi ⟨e1, fd, a3, a4, a5, a6, rfl, hf, O⟩ ⟨rfl, rfl⟩
      refine ⟨_, rfl, t, _, rfl, SqT.of (e1 _ _ h1), for_it (walk_enumE (xs := qs.map .ref)) (fun j σ H' => Same H H' ∧ ∃ fd' a3 a4 a5 a6, σ = [some (.ref t), some (.ref m), some (.ref pf), a3, a4, a5, a6] ∧ H' pf = some (.lst (fd'.map .int)) ∧ Inner rows (Leads cs rows ends) ends fd j fd') ?_ (fun j σ H' _ p => SqT.of (p.1 _ _ h1)) ?_ ?_⟩
      · exact ⟨e1, fd, _, _, _, _, rfl, hf, Inner.start O.snd⟩
      · rintro j v σ H2 H2' hj ⟨e2, fd', b2, b3, b4, b5, rfl, hf2, IN⟩ ⟨T, x, y, rfl, hT, rfl, ex, ey⟩
        rw [List.length_map] at hj
        cases ex
        dsimp only at ey
        rw [List.getElem?_map] at ey
        obtain ⟨q, hq, rfl⟩ := Option.map_eq_some_iff.mp ey
        have hjr : j < rows.length := by omega
        obtain ⟨q', hq', hrow⟩ := paired_get j h3 (List.getElem?_eq_getElem hjr)
        rw [hq] at hq'
        cases hq'
        have hrj := List.getElem?_eq_getElem hjr
        generalize rows[j] = row at hrow hrj
        have hl := (W.row row (List.mem_of_getElem? hrj)).1
        have e2T : Same H2 (upd H2 T (.tup [.int (j : Nat), .ref q])) := same_new hT
        have hf3 := e2T _ _ hf2
        have hd3 := e2T _ _ (e2 _ _ hrow)
        have e3 := e2.trans e2T
        refine ⟨T, _, rfl, SqT.of upd_same, rfl, _, _, rfl, _, _, rfl, rfl, ?_⟩
        refine ⟨_, rfl, _, rfl, pf, _, rfl, .inl (SqL.of hf3), rfl, flat_ints _, _, rfl, ?_⟩
        show (if (!inV (.int (j : Nat)) (fd'.map .int)) = true then _ else _)
        rw [inV_ints]
        by_cases hm : ((j : Nat) : Int) ∈ fd'
        · rw [decide_eq_true hm]
          refine ⟨e3, fd', _, _, _, _, rfl, hf3, IN.skip hrj (.inl hm)⟩
        · rw [decide_eq_false hm]
          refine vals_in (K := K) hd3 hl hcl hf3 (fun _ => rfl) (fun _ => rfl) (fun _ => rfl) rfl fun D H4 e4 hD => ?_
          refine ⟨D, _, rfl, SqL.of hD, _, rfl, ?_⟩
          by_cases hh : Hit fd' row
          · rw [(any_dec fd' row).mpr hh]
            refine ⟨_, rfl, .inl ⟨rfl, _, SqL.of (e4 _ _ hf3)⟩, _, rfl, pf, _, _, rfl, rfl, e4 _ _ hf3, ?_, ?_⟩
            · have := IN.snd.len
              rw [List.length_map, sizeLine_eq]
              omega
            · refine ⟨?_, fd' ++ [(j : Int)], _, _, _, _, rfl, ?_, IN.add (leads_back W nd) hrj hm hh⟩
              · exact same_upd (e3.trans e4) hpf
              · rw [upd_same, List.map_append]; rfl
          · have : (row.map fun g => decide (g ∈ fd')).any id = false := by
              cases hb : (row.map fun g => decide (g ∈ fd')).any id with
              | false => rfl
              | true => exact absurd ((any_dec fd' row).mp hb) hh
            rw [this]
            exact ⟨e3.trans e4, fd', _, _, _, _, rfl, e4 _ _ hf3, IN.skip hrj (.inr hh)⟩
      · rintro σ H2 ⟨e2, fd', b2, b3, b4, b5, rfl, hf2, IN⟩
        rw [List.length_map, hql] at IN
        exact ⟨e2, fd', _, _, _, _, rfl, hf2, IN.done O⟩
    · rintro σ H1 ⟨e1, fd, a2, a3, a4, a5, rfl, hf, O⟩
      have O' : Outer rows (Leads cs rows ends) ends rows.length fd := by
        rw [List.length_map, Int.toNat_natCast, hql] at O
        exact O
      have hl5 : fd.length ≤ 40 := Nat.le_trans O'.snd.len h5
      refine ⟨_, rfl, pf, fd, rfl, SqL.of hf, by omega, fun ns p pm rs hp => ⟨p, _, rfl, .inl ⟨SqL.of upd_same, fun l hl => ?_⟩⟩⟩
      refine k ns l _ (fun q q0 q1 => ?_) (fun q hq => O'.snd.bd q (pm.mem_iff.mp hq)) (by rw [pm.length_eq]; exact hl5) rs (((e1.trans (same_new hp)).free hl)) ((e1.trans (same_new hp)).trans (same_new hl)) upd_same
      exact pm.mem_iff.trans (O'.leads W q0 q1)
end
end SS

set_option maxRecDepth 100000
set_option maxHeartbeats 4000000
namespace SS
open PySem L2 SR TL
section
variable {cs : List Nat} {rows : List (List Int)} {ends fd : List Int}
/-- a class for each state: the ones that no text tells apart -/
theorem Kn.all {κ : Int → Int} {r : Nat} (k : Kn cs rows ends fd r κ) (O : Order cs rows fd) (b : Bis cs rows fd κ) : ∀ p ∈ fd, ∀ q ∈ fd, κ p = κ q → ∀ n, Eqv cs rows ends n p q := by
  intro p hp q hq e n
  have key : ∀ (x : List Nat) (p q : Int), p ∈ fd → q ∈ fd → κ p = κ q → (∀ c ∈ x, c ∈ cs) → (run cs rows p x ∈ ends ↔ run cs rows q x ∈ ends) := by
    intro x
    induction x with
    | nil =>
      intro p q hp hq e _
      exact (k p hp q hq).mp e [] (fun _ h => nomatch h) (Nat.zero_le _)
    | cons c x ih =>
      intro p q hp hq e hx
      have hc := hx c List.mem_cons_self
      exact ih _ _ (O.cl p hp c hc) (O.cl q hq c hc) (b p hp q hq e c hc) fun d hd => hx d (List.mem_cons_of_mem _ hd)
  exact fun x hx _ => key x p q hp hq e hx
end
end SS

set_option maxRecDepth 100000
set_option maxHeartbeats 4000000
namespace SS
open PySem L2 SR TL
/-! ### the least machine, told plainly -/
def rep (fd : List Int) (κ : Int → Int) (k : Int) : Int := (fd.find? fun s => decide (κ s = k)).getD 0
structure Fst (fd : List Int) (κ : Int → Int) (i : Nat) (ks : List Int) : Prop where
  nd : ks.Nodup
  mem : ∀ k, k ∈ ks ↔ ∃ s ∈ fd.take i, κ s = k
  hd : i ≠ 0 → ks[0]? = some (κ 0)
  eq : ks = addNew [] ((fd.take i).map κ)
theorem rep_first {fd : List Int} {κ : Int → Int} {i : Nat} {s : Int} (hs : fd[i]? = some s) (h : ∀ t ∈ fd.take i, κ t ≠ κ s) : rep fd κ (κ s) = s := by
  unfold rep
  have hi := (List.getElem?_eq_some_iff.mp hs)
  have e : fd = fd.take i ++ s :: fd.drop (i + 1) := by
    rw [← hi.2, ← List.drop_eq_getElem_cons hi.1, List.take_append_drop]
  rw [e, List.find?_append]
  have : (fd.take i).find? (fun t => decide (κ t = κ s)) = none := List.find?_eq_none.mpr fun t ht => by simpa using h t ht
  rw [this]
  simp
theorem rep_mem {fd : List Int} {κ : Int → Int} {s : Int} (hs : s ∈ fd) : rep fd κ (κ s) ∈ fd ∧ κ (rep fd κ (κ s)) = κ s := by
  unfold rep
  cases ef : fd.find? fun t => decide (κ t = κ s) with
  | none => exact absurd (List.find?_eq_none.mp ef s hs) (by simp)
  | some t => exact ⟨List.mem_of_find?_eq_some ef, by simpa using List.find?_some ef⟩
theorem Fst.start {fd : List Int} {κ : Int → Int} : Fst fd κ 0 [] := ⟨List.nodup_nil, fun k => by simp, fun h => absurd rfl h, rfl⟩
theorem Fst.skip {fd : List Int} {κ : Int → Int} {i : Nat} {ks : List Int} {s : Int} (f : Fst fd κ i ks) (hs : fd[i]? = some s) (h : κ s ∈ ks) : Fst fd κ (i + 1) ks := by
  refine ⟨f.nd, fun k => ?_, fun _ => ?_, ?_⟩
  · rw [List.take_add_one, hs, f.mem]
    constructor
    · rintro ⟨t, ht, e⟩
      exact ⟨t, List.mem_append_left _ ht, e⟩
    · rintro ⟨t, ht, e⟩
      rcases List.mem_append.mp ht with z | z
      · exact ⟨t, z, e⟩
      · have : t = s := by simpa using z
        subst this
        rw [← e]
        exact (f.mem _).mp h
  · refine f.hd fun z => ?_
    subst z
    obtain ⟨t, ht, _⟩ := (f.mem _).mp h
    simp at ht
  · rw [List.take_add_one, hs, List.map_append]
    show ks = addNew [] (_ ++ [κ s])
    rw [addNew_snoc, ← f.eq, if_pos h]
theorem Fst.add {fd : List Int} {κ : Int → Int} {i : Nat} {ks : List Int} {s : Int} (f : Fst fd κ i ks) (h0 : fd[0]? = some 0) (hs : fd[i]? = some s) (h : κ s ∉ ks) : Fst fd κ (i + 1) (ks ++ [κ s]) ∧ rep fd κ (κ s) = s := by
  refine ⟨⟨?_, fun k => ?_, fun _ => ?_, ?_⟩, ?_⟩
  · rw [List.nodup_append]
    refine ⟨f.nd, by simp, fun a ha b hb e => ?_⟩
    rw [List.mem_singleton] at hb
    rw [e, hb] at ha
    exact h ha
  · rw [List.take_add_one, hs, List.mem_append, f.mem]
    constructor
    · rintro (⟨t, ht, e⟩ | z)
      · exact ⟨t, List.mem_append_left _ ht, e⟩
      · exact ⟨s, List.mem_append_right _ (by simp), (List.mem_singleton.mp z).symm⟩
    · rintro ⟨t, ht, e⟩
      rcases List.mem_append.mp ht with z | z
      · exact .inl ⟨t, z, e⟩
      · have : t = s := by simpa using z
        subst this
        exact .inr (by simp [e])
  · by_cases hi : i = 0
    · subst hi
      have e : ks = [] := by
        cases ks with
        | nil => rfl
        | cons k ks =>
          obtain ⟨t, ht, _⟩ := (f.mem k).mp List.mem_cons_self
          simp at ht
      subst e
      rw [h0] at hs
      cases hs
      rfl
    · have := f.hd hi
      rw [List.getElem?_append_left (List.getElem?_eq_some_iff.mp this).1]
      exact this
  · rw [List.take_add_one, hs, List.map_append]
    show ks ++ _ = addNew [] (_ ++ [κ s])
    rw [addNew_snoc, ← f.eq, if_neg h]
  · exact rep_first hs fun t ht e => h ((f.mem _).mpr ⟨t, ht, e⟩)
/-- the number of a kind -/
def num (ks : List Int) (k : Int) : Int := ((ks.idxOf k : Nat) : Int)
def rows' (cs : List Nat) (rows : List (List Int)) (fd : List Int) (κ : Int → Int) (ks : List Int) : List (List Int) := ks.map fun k => cs.map fun c => num ks (κ (nxt cs rows (rep fd κ k) c))
def ends' (ends fd : List Int) (κ : Int → Int) (ks : List Int) : List Int := (ks.filter fun k => decide (rep fd κ k ∈ ends)).map (num ks)
/-- the same texts -/
def Alike (cs : List Nat) (rows : List (List Int)) (ends : List Int) (rw' : List (List Int)) (en' : List Int) : Prop :=
  (∀ x : List Nat, (∀ c ∈ x, c ∈ cs) → (run cs rw' 0 x ∈ en' ↔ run cs rows 0 x ∈ ends)) ∧ ∀ q, 0 ≤ q → q < (rw'.length : Int) → ∃ x : List Nat, (∀ c ∈ x, c ∈ cs) ∧ run cs rw' 0 x = q
/-- the next kinds of a kind -/
def dltK (cs : List Nat) (rows : List (List Int)) (fd : List Int) (κ : Int → Int) (k : Int) : List Int := cs.map fun c => κ (nxt cs rows (rep fd κ k) c)
/-- how the least machine was made -/
def Least (m : Nat) (cs : List Nat) (rows : List (List Int)) (ends : List Int) (rw' : List (List Int)) (en' : List Int) : Prop := ∃ (fd : List Int) (κ : Int → Int) (r : Nat) (ks : List Int), Order cs rows fd ∧ Kn cs rows ends fd r κ ∧ r + 1 ≤ m ∧ Bis cs rows fd κ ∧ Fst fd κ fd.length ks ∧
  (∃ n, BE (dltK cs rows fd κ) (κ 0) n ks ∧ ks.length ≤ n) ∧ rw' = rows' cs rows fd κ ks ∧ en' = ends' ends fd κ ks
section
variable {cs : List Nat} {rows : List (List Int)} {ends fd : List Int} {κ : Int → Int} {ks : List Int}
theorem least_be {n : Nat} (be : BE (dlt cs rows) 0 n fd) (hn : fd.length ≤ n) (bi : Bis cs rows fd κ) (f : Fst fd κ fd.length ks) : ∃ m, BE (dltK cs rows fd κ) (κ 0) m ks ∧ ks.length ≤ m := by
  have e := f.eq
  rw [List.take_length] at e
  rw [e]
  refine be.quotDone (fun s hs => ?_) hn
  unfold dlt dltK
  rw [List.map_map]
  refine List.map_congr_left fun c hc => ?_
  obtain ⟨r1, r2⟩ := rep_mem (κ := κ) hs
  exact bi s hs _ r1 r2.symm c hc
theorem num_get {j : Nat} {k : Int} (nd : ks.Nodup) (h : ks[j]? = some k) : num ks k = (j : Int) := by
  obtain ⟨hj, e⟩ := List.getElem?_eq_some_iff.mp h
  unfold num
  rw [← e, List.Nodup.idxOf_getElem nd j hj]
theorem num_lt {k : Int} (h : k ∈ ks) : 0 ≤ num ks k ∧ num ks k < (ks.length : Int) := by
  have := List.idxOf_lt_length_of_mem h
  unfold num
  omega
theorem get_num {k : Int} (h : k ∈ ks) : ks[(num ks k).toNat]? = some k := by
  have hl := List.idxOf_lt_length_of_mem h
  unfold num
  rw [Int.toNat_natCast, List.getElem?_eq_getElem hl, List.getElem_idxOf]
theorem num_inj {k k' : Int} (h : k ∈ ks) (h' : k' ∈ ks) (e : num ks k = num ks k') : k = k' := by
  have h1 := get_num h
  rw [e, get_num h'] at h1
  exact (Option.some.inj h1).symm
theorem nxt_rows' (nd : cs.Nodup) (O : Order cs rows fd) (bi : Bis cs rows fd κ) (f : Fst fd κ fd.length ks) {s : Int} {c : Nat} (hs : s ∈ fd) (hc : c ∈ cs) : nxt cs (rows' cs rows fd κ ks) (num ks (κ s)) c = num ks (κ (nxt cs rows s c)) := by
  have hk : κ s ∈ ks := (f.mem _).mpr ⟨s, by rw [List.take_length]; exact hs, rfl⟩
  have e1 : (rows' cs rows fd κ ks).getD (num ks (κ s)).toNat [] = cs.map fun c => num ks (κ (nxt cs rows (rep fd κ (κ s)) c)) := by
    unfold rows'
    rw [List.getD_eq_getElem?_getD, List.getElem?_map, get_num hk]
    rfl
  show ((rows' cs rows fd κ ks).getD (num ks (κ s)).toNat []).getD (cs.idxOf c) 0 = _
  rw [e1]
  have hi := List.idxOf_lt_length_of_mem hc
  rw [List.getD_eq_getElem?_getD, List.getElem?_map, List.getElem?_eq_getElem hi, List.getElem_idxOf]
  show num ks (κ (nxt cs rows (rep fd κ (κ s)) c)) = _
  obtain ⟨r1, r2⟩ := rep_mem (κ := κ) hs
  rw [bi _ r1 s hs r2 c hc]
theorem run_rows' (nd : cs.Nodup) (O : Order cs rows fd) (bi : Bis cs rows fd κ) (f : Fst fd κ fd.length ks) : ∀ (x : List Nat) (s : Int), s ∈ fd → (∀ c ∈ x, c ∈ cs) → run cs (rows' cs rows fd κ ks) (num ks (κ s)) x = num ks (κ (run cs rows s x)) ∧ run cs rows s x ∈ fd
  | [], s, hs, _ => ⟨rfl, hs⟩
  | c :: x, s, hs, hx => by
    have hc := hx c List.mem_cons_self
    have h := run_rows' nd O bi f x (nxt cs rows s c) (O.cl s hs c hc) fun d hd => hx d (List.mem_cons_of_mem _ hd)
    refine ⟨?_, h.2⟩
    show run cs (rows' cs rows fd κ ks) (nxt cs (rows' cs rows fd κ ks) (num ks (κ s)) c) x = _
    rw [nxt_rows' nd O bi f hs hc]
    exact h.1
theorem least_ok (nd : cs.Nodup) (W : WfM cs rows ends) (O : Order cs rows fd) (bi : Bis cs rows fd κ) (fi : ∀ p ∈ fd, ∀ q ∈ fd, κ p = κ q → (p ∈ ends ↔ q ∈ ends)) (f : Fst fd κ fd.length ks) :
    WfM cs (rows' cs rows fd κ ks) (ends' ends fd κ ks) ∧ Alike cs rows ends (rows' cs rows fd κ ks) (ends' ends fd κ ks) := by
  obtain ⟨t, ht⟩ := O.hd
  have h0 : (0 : Int) ∈ fd := by rw [ht]; exact List.mem_cons_self
  have hmem : ∀ k, k ∈ ks ↔ ∃ s ∈ fd, κ s = k := fun k => by rw [f.mem, List.take_length]
  have hne : fd.length ≠ 0 := by rw [ht]; simp
  have hk0 := f.hd hne
  have n0 : num ks (κ 0) = 0 := num_get f.nd hk0
  have hfl : fd.length ≤ rows.length := nodup_len _ _ O.nd O.rg
  have hkl : ks.length ≤ fd.length := by
    have := len_subG ks (fd.map κ) f.nd fun k hk => by
      obtain ⟨s, hs, e⟩ := (hmem k).mp hk
      exact List.mem_map.mpr ⟨s, hs, e⟩
    rwa [List.length_map] at this
  have hk1 : 0 < ks.length := (List.getElem?_eq_some_iff.mp hk0).1
  have hrl : (rows' cs rows fd κ ks).length = ks.length := by simp [rows']
  have hends : ∀ s ∈ fd, num ks (κ s) ∈ ends' ends fd κ ks ↔ s ∈ ends := fun s hs => by
    have hk : κ s ∈ ks := (hmem _).mpr ⟨s, hs, rfl⟩
    obtain ⟨r1, r2⟩ := rep_mem (κ := κ) hs
    constructor
    · intro h
      obtain ⟨k, hk', e⟩ := List.mem_map.mp h
      obtain ⟨k1, k2⟩ := List.mem_filter.mp hk'
      have := num_inj k1 hk e
      subst this
      exact (fi _ r1 s hs r2).mp (of_decide_eq_true k2)
    · intro h
      exact List.mem_map.mpr ⟨κ s, List.mem_filter.mpr ⟨hk, decide_eq_true ((fi _ r1 s hs r2).mpr h)⟩, rfl⟩
  refine ⟨⟨by omega, by have := W.five; omega, fun row hrow => ?_, ?_, fun e he => ?_⟩, fun x hx => ?_, fun q q0 q1 => ?_⟩
  · obtain ⟨k, hk, rfl⟩ := List.mem_map.mp hrow
    refine ⟨by simp, fun g hg => ?_⟩
    obtain ⟨c, hc, rfl⟩ := List.mem_map.mp hg
    obtain ⟨s, hs, rfl⟩ := (hmem k).mp hk
    rw [hrl]
    exact num_lt ((hmem _).mpr ⟨_, O.cl _ (rep_mem hs).1 c hc, rfl⟩)
  · unfold ends'
    refine List.pairwise_map.mpr ?_
    have : (ks.filter fun k => decide (rep fd κ k ∈ ends)).Nodup := f.nd.filter _
    refine List.Pairwise.imp_of_mem (fun {a b} ha hb h e => ?_) this
    exact h (num_inj (List.mem_filter.mp ha).1 (List.mem_filter.mp hb).1 e)
  · obtain ⟨k, hk, rfl⟩ := List.mem_map.mp he
    rw [hrl]
    exact num_lt (List.mem_filter.mp hk).1
  · have h := run_rows' nd O bi f x 0 h0 hx
    rw [n0] at h
    rw [h.1]
    exact hends _ h.2
  · rw [hrl] at q1
    have hq : q.toNat < ks.length := by omega
    have hk := List.getElem?_eq_getElem hq
    obtain ⟨s, hs, e⟩ := (hmem ks[q.toNat]).mp (List.getElem_mem hq)
    obtain ⟨x, hx, ex⟩ := O.rc s hs
    refine ⟨x, hx, ?_⟩
    have h := run_rows' nd O bi f x 0 h0 hx
    rw [n0, ex, e, num_get f.nd hk] at h
    rw [h.1]
    omega
end
end SS

set_option maxRecDepth 100000
set_option maxHeartbeats 4000000
namespace SS
open PySem L2 SR TL
/-- a dict comprehension that changes nothing but its own dict D -/
theorem dc_S {J : It} {n : Nat} {G : Hp → Prop} {Y : Nat → Hp → V → Hp → Prop} (w : Walk J n G Y) {g : TG} {tt : TT} {tk tv : TE} {vs : List Nat} {σ : L2.St} {H1 : Hp} {D : Addr} {Qd : Hp → Prop} (hD : H1 D = none) (hn : n ≤ 1000000)
    (S : Nat → List (Key × V) → Hp → Prop) (hS : ∀ i acc acc' H H', H D = some (.dK acc') → SameB D H H' → S i acc H → S i acc H') (h0 : S 0 [] (upd H1 D (.dK []))) (hG : ∀ H, Same H1 H → G H)
    (hs : ∀ i x H H' acc (Qt : V → V → Hp → Prop) (Qf : Hp → Prop), i < n → Same H1 H → H D = some (.dK acc) → S i acc H → Y i H x H' → (∀ k z H5, Same H H5 → S (i + 1) (putK acc k z) H5 → Qt (kV k) z H5) → (∀ H3, Same H H3 → S (i + 1) acc H3 → Qf H3) →
      g x (wipe σ vs) H' fun σ2 H2 => wipe σ2 vs = wipe σ vs ∧ tt σ2 H2 fun b H3 => if b = true then tk σ2 H3 fun y H4 => tv σ2 H4 fun z H5 => Qt y z H5 else Qf H3)
    (hd : ∀ H acc, Same H1 H → H D = some (.dK acc) → S n acc H → Qd H) :
    ∃ W : Nat → Nat → Hp → Prop, (∃ m, W 0 m (upd H1 D (.dK []))) ∧ ∀ i m H, W i m H →
      (J.stop i H ∧ Qd H) ∨ (J.go i H ∧ ∃ Nx : Hp → Prop, (∀ H', Nx H' → ∃ m', m' < m ∧ W (i + 1) m' H') ∧ ∀ x H', J.yld i H x H' → g x (wipe σ vs) H' fun σ2 H2 => wipe σ2 vs = wipe σ vs ∧ tt σ2 H2 fun b H3 =>
        if b = true then tk σ2 H3 fun y H4 => tv σ2 H4 fun z H5 => ∃ kvs k, y = kV k ∧ H5 D = some (.dK kvs) ∧ kvs.length < sizeLine ∧ Nx (upd H5 D (.dK (putK kvs k z))) else Nx H3) := by
  refine ⟨fun i m H => m = n - i ∧ i ≤ n ∧ Same H1 H ∧ ∃ acc, H D = some (.dK acc) ∧ acc.length ≤ i ∧ S i acc H, ⟨n, by simp, Nat.zero_le _, same_new hD, [], upd_same, Nat.le_refl _, h0⟩, ?_⟩
  rintro i m H ⟨rfl, hi, e, acc, hd', hl, s⟩
  have q := hG H e
  by_cases hlt : i < n
  · refine .inr ⟨w.goes i H hlt q, fun H' => Same H1 H' ∧ ∃ acc, H' D = some (.dK acc) ∧ acc.length ≤ i + 1 ∧ S (i + 1) acc H', fun H' p' => ⟨n - (i + 1), by omega, rfl, hlt, p'⟩, fun x H' y => ?_⟩
    refine hs i x H H' acc _ _ hlt e hd' s (w.yields i H x H' hlt q y) (fun k z H5 e5 s5 => ⟨acc, k, rfl, e5 _ _ hd', by rw [sizeLine_eq]; omega, same_upd (e.trans e5) hD, _, upd_same, ?_, ?_⟩) (fun H3 e3 s3 => ⟨e.trans e3, acc, e3 _ _ hd', Nat.le_succ_of_le hl, s3⟩)
    · have := length_putK acc k z
      omega
    · exact hS _ _ _ _ _ (e5 _ _ hd') SameB.upd s5
  · have ei : i = n := by omega
    subst ei
    exact .inl ⟨w.stops H q, hd H acc e hd' s⟩
theorem not_before {l : List Int} {i : Nat} {q : Int} (nd : l.Nodup) (hq : l[i]? = some q) : q ∉ l.take i := fun h => (put_upd (κ := id) (v := 0) nd hq).2 q h rfl
theorem put_take {l : List Int} {F : Int → V} {i : Nat} {q : Int} {v : V} (nd : l.Nodup) (hq : l[i]? = some q) (hv : v = F q) : putK (dI (l.take i) F) (Sum.inl q) v = dI (l.take (i + 1)) F := by
  subst hv
  rw [put_dI (not_before nd hq), List.take_add_one, hq]
  rfl
theorem row_snoc {cs : List Nat} {f : Nat → Int} {j c : Nat} (nd : cs.Nodup) (hc : cs[j]? = some c) : putK (rowK (cs.take j) ((cs.take j).map f)) (Sum.inr (lt c)) (.int (f c)) = rowK (cs.take (j + 1)) ((cs.take (j + 1)).map f) := by
  have hni : c ∉ cs.take j := fun h => by
    obtain ⟨i, hi, e⟩ := List.mem_iff_getElem.mp h
    rw [List.length_take] at hi
    have hj := (List.getElem?_eq_some_iff.mp hc).1
    have e' : cs[i]? = some c := by
      rw [List.getElem_take] at e
      rw [List.getElem?_eq_getElem (by omega), e]
    have := (List.getElem?_inj (by omega) nd).mp (e'.trans hc.symm)
    omega
  have hv : valV (rowK (cs.take j) ((cs.take j).map f)) (Sum.inr (lt c)) = none := by
    unfold valV
    rw [Option.map_eq_none_iff, List.find?_eq_none]
    intro p hp hk
    obtain ⟨x, hx, rfl⟩ := List.mem_map.mp hp
    have e : lt x.1 = lt c := by simpa using hk
    exact hni ((lt_inj e) ▸ (List.of_mem_zip hx).1)
  rw [putK_new _ hv, List.take_add_one, hc]
  show _ = rowK (cs.take j ++ [c]) ((cs.take j ++ [c]).map f)
  unfold rowK
  rw [List.map_append, List.zip_append (by simp), List.map_append]
  rfl
section
variable {P : Program} {w : World} {K : PySem.W.Frag} {mg : Str → Option Value} {base : Heap}
/-! ### least_machine -/
abbrev sLma : Stmt := top 25
abbrev nLma : List Str := ["signs", "rows", "member_states", "belongs", "order", "kinds", "firsts", "state", "numbers", "table", "number", "kind", "sign"]
theorem scLma : FnScope nLma ["signs", "rows", "member_states"] (defScope sLma) := ⟨rfl, rfl, rfl, by decide +kernel, rfl, by decide +kernel, by decide +kernel⟩
def spLma : Sp := fun vs H Q _ => ∃ (cs : List Nat) (a e : Addr) (rows : List (List Int)) (ends : List Int) (m : Nat), vs = [.str (txt cs), .ref a, .ref e] ∧ m ≤ 6 ∧ Abc cs ∧ WfM cs rows ends ∧ (∀ fd, Order cs rows fd → Cover m cs rows ends fd) ∧ Given H cs a e rows ends ∧
  ∀ (rows' : List (List Int)) (ends' : List Int) (t pt pm : Addr) (H' : Hp), WfM cs rows' ends' → Alike cs rows ends rows' ends' → Least m cs rows ends rows' ends' → Same H H' → H' t = some (.tup [.ref pt, .ref pm]) → (∀ H'' : Hp, (∀ b o, H b = none → H' b = some o → H'' b = some o) → TabAt H'' cs pt pm rows' ends') → Q (.ref t) H'
theorem ok_lma {f : Addr} {fd : FuncData} (F : Fun K "least_machine" "least_machine" sLma f fd) (B : Bl mg) (Rc : Cal P w K mg base "reached" 1 ["signs", "rows"] spRch) (Lk : Cal P w K mg base "least_kinds" 2 ["signs", "rows", "kinds"] spLek) :
    FnOk P w K mg base CX0 3 f fd ["signs", "rows", "member_states"] spLma := by
  refine F.ok scLma (fun vs H Q E h => ?_) (fun cdv A outer s H vs Q E hr h => ?_)
  · obtain ⟨cs, a, e, rows, ends, m, rfl, _⟩ := h
    rfl
  · obtain ⟨cs, a, e, rows, ends, m, rfl, hm6, ha, W, cov, G, k⟩ := h
    have hu := hu_of hr
    refine ⟨_, pss_cons (ps_set (i := 3) scLma.nd rfl (.inr rfl) (pe_dc (own := [("state", 7)]) (g := gName 7) (tt := tYes) (tk := tVar 7) (tv := tC (.bl true)) rfl scLma.nd (pi_lot (pv 2)) (blkOk_by (by kernel_rfl))
          (fun _ _ _ _ _ => pg_name (i := 7) scLma.nd rfl (.inl rfl)) (fun _ _ _ _ _ => pts_nil) (fun _ _ _ _ _ => pv 7) (fun _ _ _ _ _ => pe_bl)))
      (pss_cons (ps_set (i := 4) scLma.nd rfl (.inl rfl) (pe_cal Rc (hr.mono (by decide)) (pa_cons (pv 0) (pa_cons (pv 1) pa_nil))))
      (pss_cons (ps_set (i := 5) scLma.nd rfl (.inr rfl) (pe_cal Lk hr (pa_cons (pv 0) (pa_cons (pv 1) (pa_cons (pe_dc (own := [("state", 7)]) (g := gName 7) (tt := tYes) (tk := tVar 7) (tv := tCB (fun xs H Q => (∃ i, xs = [.int i] ∧ Q (.int i) H) ∨ ∃ k, xs = [.bl k] ∧ Q (.int (if k then 1 else 0)) H) (tCons (tDIn (tVar 7) (tVar 3)) tNil)) rfl scLma.nd (pi_list (pv 4)) (blkOk_by (by kernel_rfl))
          (fun _ _ _ _ _ => pg_name (i := 7) scLma.nd rfl (.inl rfl)) (fun _ _ _ _ _ => pts_nil) (fun _ _ _ _ _ => pv 7) (fun _ _ _ _ _ => pe_callTy call_int1 (by rfl) B.int (by decide +kernel) (pa_cons (pe_cmp (pc_din hu (pv 7) (pv 3)) rfl) pa_nil))) pa_nil)))))
      (pss_cons (ps_set (i := 6) scLma.nd rfl (.inl rfl) pe_dnewK)
      (pss_cons (ps_for PassesOwn.never rfl (pi_list (pv 4)) (pg_name (i := 7) scLma.nd rfl (.inl rfl)) (pss_one (ps_expr (pe_dsetd (pv 6) (pe_dget hu (pv 5) (pv 7) (fun _ _ => rfl)) (pv 7) ⟨rfl, rfl, rfl, rfl⟩))))
      (pss_cons (ps_set (i := 8) scLma.nd rfl (.inr rfl) (pe_lock (pe_dc (own := [("number", 10), ("kind", 11)]) (g := gTup K 2 (gCons (gName 10) (gCons (gName 11) gNil))) (tt := tYes) (tk := tVar 11) (tv := tVar 10) rfl scLma.nd (pi_enumK (by rfl) B.enumerate (pa_cons (pv 6) pa_nil)) (blkOk_by (by kernel_rfl))
          (fun _ _ _ _ _ => pg_tup rfl (pgs_cons (pg_name (i := 10) scLma.nd rfl (.inl rfl)) (pgs_cons (pg_name (i := 11) scLma.nd rfl (.inl rfl)) pgs_nil))) (fun _ _ _ _ _ => pts_nil) (fun _ _ _ _ _ => pv 11) (fun _ _ _ _ _ => pv 10))))
      (pss_cons (ps_set (i := 9) scLma.nd rfl (.inl rfl) (pe_callTy call_tuple_of (by rfl) B.tuple (by decide +kernel) (pa_cons (pe_lock (pe_lc (own := [("state", 7)]) (g := gName 7) (tt := tYes) (te := tDc (iStr (tVar 0)) (gName 12) tYes (tVar 12) (tDGet (tVar 8) (tDGet (tVar 5) (tDGet (tOp (rIx K) (tVar 1) (tVar 7)) (tVar 12)))) [12]) rfl scLma.nd (pi_values (pv 6)) (blkOk_by (by kernel_rfl))
          (fun _ _ _ _ _ => pg_name (i := 7) scLma.nd rfl (.inr rfl)) (fun _ _ _ _ _ => pts_nil)
          (fun _ _ _ _ _ => pe_dc (own := [("sign", 12)]) (g := gName 12) (tt := tYes) (tk := tVar 12) (tv := tDGet (tVar 8) (tDGet (tVar 5) (tDGet (tOp (rIx K) (tVar 1) (tVar 7)) (tVar 12)))) rfl scLma.nd (pi_str (pv 0)) (blkOk_by (by kernel_rfl))
            (fun _ _ _ _ _ => pg_name (i := 12) scLma.nd rfl (.inl rfl)) (fun _ _ _ _ _ => pts_nil) (fun _ _ _ _ _ => pv 12) (fun _ _ _ _ _ => pe_dget hu (pv 8) (pe_dget hu (pv 5) (pe_dget hu (pe_ix ix_seq (pv 1) (pv 7) (fun _ _ => rfl)) (pv 12) (fun _ _ => rfl)) (fun _ _ => rfl)) (fun _ _ => rfl))))) pa_nil)))
      (pss_one (ps_ret (pe_tup (pa_cons (pv 9) (pa_cons (pe_callTy call_tuple_of (by rfl) B.tuple (by decide +kernel) (pa_cons (pe_lock (pe_lc (own := [("kind", 11), ("state", 7)]) (g := gTup K 2 (gCons (gName 11) (gCons (gName 7) gNil))) (tt := tB (tDIn (tVar 7) (tVar 3))) (te := tDGet (tVar 8) (tVar 11)) rfl scLma.nd (pi_items (pv 6)) (blkOk_by (by kernel_rfl))
          (fun _ _ _ _ _ => pg_tup rfl (pgs_cons (pg_name (i := 11) scLma.nd rfl (.inl rfl)) (pgs_cons (pg_name (i := 7) scLma.nd rfl (.inl rfl)) pgs_nil))) (fun _ _ _ _ _ => pts_one (pt_cmp (pc_din hu (pv 7) (pv 3)))) (fun _ _ _ _ _ => pe_dget hu (pv 8) (pv 11) (fun _ _ => rfl)))) pa_nil)) pa_nil))))))))))), ?_⟩
    have nd : cs.Nodup := ris_nodup ha.ris
    have h5 := W.five
    have hel : ends.length ≤ rows.length := nodup_len _ _ W.nd W.fin
    obtain ⟨⟨qs0, g1, g2⟩, g3⟩ := G
    have hRA : RowsAt H cs a rows := ⟨qs0, g1, g2⟩
    refine ⟨_, rfl, e, _, rfl, g3, fun J Gd wk hG pb hpb => dc_S wk hpb (by rw [List.length_map]; omega) (fun i acc _ => acc = dI (ends.take i) (fun _ => .bl true)) (fun _ _ _ _ _ _ _ h => h) rfl hG ?_ ?_⟩
    · rintro i v H3 H3' acc Qt Qf hi e3 hd rfl ⟨rfl, hv⟩ kt kf
      rw [List.getElem?_map] at hv
      obtain ⟨g, hg, rfl⟩ := Option.map_eq_some_iff.mp hv
      exact ⟨rfl, _, rfl, kt (Sum.inl g) (.bl true) _ (Same.refl _) (put_take W.nd hg rfl)⟩
    rintro H1 acc e1 hB rfl
    rw [List.length_map, List.take_length] at hB
    refine ⟨_, rfl, _, rfl, cs, a, rows, ends, rfl, ha, W, hRA.mono e1, fun fd po H2 O hbe hpo e2 h2 => ?_⟩
    have hfl : fd.length ≤ rows.length := nodup_len _ _ O.nd O.rg
    refine ⟨_, rfl, _, rfl, _, rfl, po, rfl, ⟨_, SqL.of h2⟩, fun pd hpd => dc_S (walk_list (K := K) (a := po) (xs := fd.map .int)) hpd (by rw [List.length_map]; omega) (fun i acc _ => acc = dKi (fd.take i) (fun q => if q ∈ ends then 1 else 0)) (fun _ _ _ _ _ _ _ h => h) rfl (fun H' e' => e'.seq (SqL.of h2)) ?_ ?_⟩
    · rintro i v H3 H3' acc Qt Qf hi e3 hd rfl ⟨rfl, hv⟩ kt kf
      rw [List.getElem?_map] at hv
      obtain ⟨g, hg, rfl⟩ := Option.map_eq_some_iff.mp hv
      refine ⟨rfl, _, rfl, _, rfl, _, rfl, pb, _, rfl, DGet.k (k := Sum.inl g) (e3 _ _ (e2 _ _ hB)), .inr ⟨_, rfl, kt (Sum.inl g) _ _ (Same.refl _) (put_take O.nd hg ?_)⟩⟩
      rw [val_dI]
      by_cases hm : g ∈ ends
      · simp [hm]
      · simp [hm]
    rintro H3 acc e3 h3 rfl
    rw [List.length_map, List.take_length] at h3
    refine ⟨cs, a, pd, rows, ends, fd, _, m, rfl, hm6, ha, W, hRA.mono ((e1.trans e2).trans e3), O, h3, ?_, cov fd O, fun κ pk H4 r kn hr5 bi e4 h4 => ?_⟩
    · intro p hp q hq
      rw [eqv_zero]
      by_cases z1 : p ∈ ends <;> by_cases z2 : q ∈ ends <;> simp [z1, z2]
    have hB4 := e4 _ _ (e3 _ _ (e2 _ _ hB))
    have hO4 := e4 _ _ (e3 _ _ h2)
    have e04 := ((e1.trans e2).trans e3).trans e4
    have hR4 := hRA.mono e04
    have fi' : ∀ p ∈ fd, ∀ q ∈ fd, κ p = κ q → (p ∈ ends ↔ q ∈ ends) := fun p hp q hq ee => (kn p hp q hq).mp ee [] (fun _ h => nomatch h) (Nat.zero_le _)
    clear g1 g2 g3 hB h2 h3 e1 e2 e3 e4 hRA
    intro pf hpf
    refine ⟨_, rfl, po, rfl, ⟨_, SqL.of ((same_new hpf) _ _ hO4)⟩, for_it (walk_list (K := K) (a := po) (xs := fd.map .int)) (fun i σ H' => Same H4 H' ∧ ∃ ks a7, σ = [some (.str (txt cs)), some (.ref a), some (.ref e), some (.ref pb), some (.ref po), some (.ref pk), some (.ref pf), a7, none, none, none, none, none] ∧ H' pf = some (.dK (dI ks fun k => .int (rep fd κ k))) ∧ Fst fd κ i ks) ?_ (fun i σ H' _ p => p.1.seq (SqL.of hO4)) ?_ ?_⟩
    · exact ⟨same_new hpf, [], none, rfl, upd_same, Fst.start⟩
    · rintro i v σ H5 H5' hi ⟨e5, ks, a7, rfl, hf, fs⟩ ⟨rfl, hv⟩
      rw [List.getElem?_map] at hv
      obtain ⟨s1, hs, rfl⟩ := Option.map_eq_some_iff.mp hv
      have hsm := List.mem_of_getElem? hs
      have hkl : ks.length ≤ 40 := by
        have := len_subG ks ((fd.take i).map κ) fs.nd fun k hk => by
          obtain ⟨t, ht, ee⟩ := (fs.mem k).mp hk
          exact List.mem_map.mpr ⟨t, ht, ee⟩
        rw [List.length_map, List.length_take] at this
        omega
      have dk : DGet H5' pk (.int s1) (some (.int (κ s1))) := by
        have := DGet.k (k := Sum.inl s1) (e5 _ _ h4)
        rw [show valV (dKi fd κ) (Sum.inl s1) = some (.int (κ s1)) by rw [dKi, val_dI, if_pos hsm]] at this
        exact this
      refine ⟨_, rfl, pf, rfl, .inl ⟨_, .inl hf⟩, _, rfl, _, rfl, pk, _, rfl, dk, _, rfl, _, Sum.inl (κ s1), hf, rfl, (by rw [len_dI, sizeLine_eq]; omega), fun v hv => ?_, fun hv => ?_⟩
      · rw [val_dI] at hv
        have hm : κ s1 ∈ ks := Classical.byContradiction fun hn => by rw [if_neg hn] at hv; cases hv
        exact ⟨e5, ks, _, rfl, hf, fs.skip hs hm⟩
      · rw [val_dI] at hv
        have hm : κ s1 ∉ ks := fun hn => by rw [if_pos hn] at hv; cases hv
        obtain ⟨t0, ht0⟩ := O.hd
        obtain ⟨f1, f2⟩ := fs.add (by rw [ht0]; rfl) hs hm
        refine ⟨same_upd e5 hpf, ks ++ [κ s1], _, rfl, ?_, f1⟩
        rw [upd_same]
        have := put_dI (F := fun k => V.int (rep fd κ k)) hm
        rw [f2] at this
        rw [this]
    rintro σ H5 ⟨e5, ks, a7, rfl, hf, fs⟩
    rw [List.length_map] at fs
    have hmem : ∀ k, k ∈ ks ↔ ∃ s ∈ fd, κ s = k := fun k => by rw [fs.mem, List.take_length]
    obtain ⟨W', A'⟩ := least_ok nd W O bi fi' fs
    obtain ⟨nbe, hbe1, hbe2⟩ := hbe
    have Le : Least m cs rows ends (rows' cs rows fd κ ks) (ends' ends fd κ ks) := ⟨fd, κ, r, ks, O, kn, hr5, bi, fs, least_be hbe1 hbe2 bi fs, rfl, rfl⟩
    have hkl : ks.length ≤ 40 := by
      have := W'.five
      simpa [rows'] using this
    refine ⟨pf, _, hf, trivial, fun od => ?_⟩
    have e5l : Same H4 (upd H5 pf (.frz od (.dK (dI ks fun k => .int (rep fd κ k))))) := same_upd e5 hpf
    have hcl : cs.length ≤ 4 := ha.four
    refine ⟨_, rfl, pf, od, _, rfl, upd_same, fun pn hpn => dc_S walk_enumE hpn (by rw [List.length_map, len_dI]; omega) (fun i acc _ => acc = dI (ks.take i) (fun k => .int (num ks k))) (fun _ _ _ _ _ _ _ h => h) rfl (fun H' e' => e' _ _ upd_same) ?_ ?_⟩
    · rintro i v H6 H6' acc Qt Qf hi e6 hd rfl ⟨T, x, y, rfl, hT, rfl, ex, ey⟩ kt kf
      cases ex
      dsimp only at ey
      obtain ⟨k1, hk⟩ : ∃ k1, ks[i]? = some k1 := ⟨_, List.getElem?_eq_getElem (show i < ks.length by simpa [len_dI] using hi)⟩
      have ey' : y = .int k1 := by
        rw [List.getElem?_map] at ey
        unfold dI at ey
        rw [List.getElem?_map, hk] at ey
        exact (Option.some.inj ey).symm
      subst ey'
      refine ⟨T, _, rfl, SqT.of upd_same, rfl, _, _, rfl, _, _, rfl, rfl, rfl, _, rfl, _, rfl, kt (Sum.inl k1) (.int (i : Nat)) _ (same_new hT) (put_take fs.nd hk ?_)⟩
      rw [num_get fs.nd hk]
    rintro H6 acc e6 hn rfl
    rw [List.length_map, len_dI, List.take_length] at hn
    have hf6 : H6 pf = some (.frz od (.dK (dI ks fun k => .int (rep fd κ k)))) := e6 _ _ upd_same
    refine ⟨hf6, ?_⟩
    have npf : pn ≠ pf := ne_of hn hf6 (by intro z; cases z)
    have e46 : Same H4 (upd H6 pf (.dK (dI ks fun k => .int (rep fd κ k)))) := same_upd (e5l.trans e6) hpf
    have hn7 : (upd H6 pf (.dK (dI ks fun k => .int (rep fd κ k)))) pn = some (.dK (dI ks fun k => .int (num ks k))) := by rw [upd_ne npf]; exact hn
    have hf7 : (upd H6 pf (.dK (dI ks fun k => .int (rep fd κ k)))) pf = some (.dK (dI ks fun k => .int (rep fd κ k))) := upd_same
    generalize (upd H6 pf (.dK (dI ks fun k => .int (rep fd κ k)))) = H7 at e46 hn7 hf7
    clear hf6 hn e6 e5l hf e5 hpn
    refine ⟨pf, _, hf7, trivial, fun od2 => ?_⟩
    have e47 : Same H4 (upd H7 pf (.frz od2 (.dK (dI ks fun k => .int (rep fd κ k))))) := same_upd e46 hpf
    have hn7l : (upd H7 pf (.frz od2 (.dK (dI ks fun k => .int (rep fd κ k))))) pn = some (.dK (dI ks fun k => .int (num ks k))) := by rw [upd_ne npf]; exact hn7
    refine ⟨_, rfl, pf, od2, _, rfl, upd_same, fun pl hpl => lc_S walk_values hpl (by rw [len_dI]; omega) (fun i acc H' => ∃ qs : List Addr, acc = qs.map .ref ∧ Paired (fun q row => RowAt H' cs q row ∧ H4 q = none) qs ((ks.take i).map fun k => cs.map fun c => num ks (κ (nxt cs rows (rep fd κ k) c)))) ?_ ⟨[], rfl, .nil⟩ (fun H' e' => e' _ _ upd_same) ?_ ?_⟩
    · rintro i acc acc' H8 H9 hd ee ⟨qs, q1, q2⟩
      exact ⟨qs, q1, Paired.mono q2 fun a b h => ⟨ee _ _ (ne_lst hd h.1 fun _ => nofun) h.1, h.2⟩⟩
    · rintro i x H8 H8' acc Qt Qf hi e8 hd ⟨qs, rfl, hq⟩ ⟨rfl, kk, hkk⟩ kt kf
      obtain ⟨k1, hk⟩ : ∃ k1, ks[i]? = some k1 := ⟨_, List.getElem?_eq_getElem (show i < ks.length by simpa [len_dI] using hi)⟩
      have hx : x = .int (rep fd κ k1) := by
        unfold dI at hkk
        rw [List.getElem?_map, hk] at hkk
        exact (congrArg (·.2) (Option.some.inj hkk)).symm
      subst hx
      obtain ⟨s1, hs1, es1⟩ := (hmem k1).mp (List.mem_of_getElem? hk)
      have hrep : rep fd κ k1 ∈ fd := by rw [← es1]; exact (rep_mem hs1).1
      obtain ⟨r0, r1⟩ := O.rg _ hrep
      have hz : (txt cs).cps.size = cs.length := by simp [txt]
      refine ⟨rfl, _, rfl, _, rfl, fun pr hpr => dc_S walk_str hpr (by rw [hz]; omega) (fun j acc _ => acc = rowK (cs.take j) ((cs.take j).map fun c => num ks (κ (nxt cs rows (rep fd κ k1) c)))) (fun _ _ _ _ _ _ _ h => h) rfl (fun _ _ => trivial) ?_ ?_⟩
      · rintro j v H9 H9' acc Qt9 Qf9 hj e9 hd9 rfl ⟨rfl, c, hc, rfl⟩ kt9 kf9
        have hc' : cs[j]? = some c := by simpa [txt] using hc
        have hcm := List.mem_of_getElem? hc'
        have e49 := (e47.trans e8).trans e9
        have hnm := O.cl _ hrep c hcm
        obtain ⟨ys, dd, g1, g2, g3⟩ := (hR4.mono e49).get W r0 r1 hcm
        have dk : DGet H9' pk (.int (nxt cs rows (rep fd κ k1) c)) (some (.int (κ (nxt cs rows (rep fd κ k1) c)))) := by
          have := DGet.k (k := Sum.inl (nxt cs rows (rep fd κ k1) c)) (e49 _ _ h4)
          rw [show valV (dKi fd κ) (Sum.inl (nxt cs rows (rep fd κ k1) c)) = some (.int (κ (nxt cs rows (rep fd κ k1) c))) by rw [dKi, val_dI, if_pos hnm]] at this
          exact this
        have dn : DGet H9' pn (.int (κ (nxt cs rows (rep fd κ k1) c))) (some (.int (num ks (κ (nxt cs rows (rep fd κ k1) c))))) := by
          have := DGet.k (k := Sum.inl (κ (nxt cs rows (rep fd κ k1) c))) (e9 _ _ (e8 _ _ hn7l))
          rw [val_dI, if_pos ((hmem _).mpr ⟨_, hnm, rfl⟩)] at this
          exact this
        refine ⟨rfl, _, rfl, _, rfl, _, rfl, _, rfl, _, rfl, ix_lot g1 g2 ⟨_, rfl, dd, _, rfl, g3, pk, _, rfl, dk, pn, _, rfl, dn, kt9 (Sum.inr (lt c)) _ _ (Same.refl _) ?_⟩⟩
        exact row_snoc (f := fun c => num ks (κ (nxt cs rows (rep fd κ k1) c))) nd hc'
      · rintro H9 acc e9 hd9 rfl
        rw [hz, List.take_length] at hd9
        refine kt _ _ e9 ⟨qs ++ [pr], by simp, ?_⟩
        rw [List.take_add_one, hk, List.map_append]
        exact paired_snoc (Paired.mono hq fun a b h => ⟨e9 _ _ h.1, h.2⟩) ⟨hd9, (e47.trans e8).free hpr⟩
    rintro H8 acc e8 hl8 ⟨qs, rfl, hq⟩
    rw [len_dI, List.take_length] at hq
    have hf8 : H8 pf = some (.frz od2 (.dK (dI ks fun k => .int (rep fd κ k)))) := e8 _ _ upd_same
    refine ⟨hf8, ?_⟩
    have nlf : pl ≠ pf := ne_of hl8 hf8 (by intro z; cases z)
    refine ⟨pl, _, rfl, .inl ⟨SqL.of (by rw [upd_ne nlf]; exact hl8), fun pt hpt => ?_⟩⟩
    have e78 := lock_same hf7 e8
    have e79 := e78.trans (same_new (o := .tup (qs.map .ref)) hpt)
    have hq9 : Paired (fun q row => RowAt (upd (upd H8 pf (.dK (dI ks fun k => .int (rep fd κ k)))) pt (.tup (qs.map .ref))) cs q row ∧ H4 q = none) qs (rows' cs rows fd κ ks) := Paired.mono hq fun p row h => by
      have np : p ≠ pf := ne_of h.1 hf8 (by intro z; cases z)
      exact ⟨(same_new hpt) _ _ (by rw [upd_ne np]; exact h.1), h.2⟩
    have ptf : H pt = none := ((e04.trans e46).trans e78).free hpt
    have ht9 : (upd (upd H8 pf (.dK (dI ks fun k => .int (rep fd κ k)))) pt (.tup (qs.map .ref))) pt = some (.tup (qs.map .ref)) := upd_same
    generalize (upd (upd H8 pf (.dK (dI ks fun k => .int (rep fd κ k)))) pt (.tup (qs.map .ref))) = H9 at e79 hq9 ht9
    have hf9 := e79 _ _ hf7
    have hn9 := e79 _ _ hn7
    have e49 := e46.trans e79
    clear hq hl8 hf8 e8 e78 hpl hpt hn7l e47
    refine ⟨_, rfl, pf, _, hf9, trivial, fun od3 => ?_⟩
    have e49l : Same H4 (upd H9 pf (.frz od3 (.dK (dI ks fun k => .int (rep fd κ k))))) := same_upd e49 hpf
    have hn9l : (upd H9 pf (.frz od3 (.dK (dI ks fun k => .int (rep fd κ k))))) pn = some (.dK (dI ks fun k => .int (num ks k))) := by rw [upd_ne npf]; exact hn9
    refine ⟨_, rfl, pf, od3, _, rfl, upd_same, fun pm hpm => lc_S walk_items hpm (by rw [len_dI]; omega) (fun i acc _ => acc = (((ks.take i).filter fun k => decide (rep fd κ k ∈ ends)).map (num ks)).map .int) (fun _ _ _ _ _ _ _ h => h) rfl (fun H' e' => e' _ _ upd_same) ?_ ?_⟩
    · rintro i v HA HA' acc Qt Qf hi eA hd rfl ⟨T, x, y, rfl, hT, rfl, ex, ey⟩ kt kf
      obtain ⟨k1, hk⟩ : ∃ k1, ks[i]? = some k1 := ⟨_, List.getElem?_eq_getElem (show i < ks.length by simpa [len_dI] using hi)⟩
      have hkv : (dI ks fun k => V.int (rep fd κ k))[i]? = some (Sum.inl k1, .int (rep fd κ k1)) := by
        unfold dI
        rw [List.getElem?_map, hk]; rfl
      dsimp only at ex ey
      rw [hkv] at ex ey
      cases ex
      cases ey
      have eT : Same HA (upd HA T (.tup [kV (Sum.inl k1), .int (rep fd κ k1)])) := same_new hT
      have et : ks.take (i + 1) = ks.take i ++ [k1] := by rw [List.take_add_one, hk]; rfl
      refine ⟨T, _, rfl, SqT.of upd_same, rfl, _, _, rfl, _, _, rfl, rfl, rfl, _, rfl, _, rfl, pb, _, rfl, DGet.k (k := Sum.inl (rep fd κ k1)) (eT _ _ (eA _ _ (e49l _ _ hB4))), _, rfl, ?_⟩
      rw [val_dI]
      by_cases hm : rep fd κ k1 ∈ ends
      · rw [if_pos hm]
        have dn : DGet (upd HA T (.tup [kV (Sum.inl k1), .int (rep fd κ k1)])) pn (.int k1) (some (.int (num ks k1))) := by
          have := DGet.k (k := Sum.inl k1) (eT _ _ (eA _ _ hn9l))
          rw [val_dI, if_pos (List.mem_of_getElem? hk)] at this
          exact this
        refine iteT ⟨_, rfl, _, rfl, pn, _, rfl, dn, kt _ _ eT ?_⟩
        rw [et, List.filter_append, List.map_append, List.map_append]
        simp [hm]
      · rw [if_neg hm]
        refine iteF (kf _ eT ?_)
        rw [et, List.filter_append, List.map_append, List.map_append]
        simp [hm]
    rintro HA acc eA hm rfl
    rw [len_dI, List.take_length] at hm
    have hfA : HA pf = some (.frz od3 (.dK (dI ks fun k => .int (rep fd κ k)))) := eA _ _ upd_same
    refine ⟨hfA, ?_⟩
    have nmf : pm ≠ pf := ne_of hm hfA (by intro z; cases z)
    have e9A := lock_same hf9 eA
    refine ⟨pm, _, rfl, .inl ⟨SqL.of (by rw [upd_ne nmf]; exact hm), fun pe hpe => ⟨by show 2 ≤ sizeLine; decide, fun t ht => ?_⟩⟩⟩
    have e9B := (e9A.trans (same_new (o := .tup ((ends' ends fd κ ks).map .int)) hpe)).trans (same_new (o := .tup [.ref pt, .ref pe]) ht)
    refine k (rows' cs rows fd κ ks) (ends' ends fd κ ks) t pt pe _ W' A' Le ((e04.trans e49).trans e9B) upd_same fun H'' ext => ⟨⟨qs, ext _ _ ptf (e9B _ _ ht9), Paired.mono hq9 fun p row h => ext _ _ (e04.free h.2) (e9B _ _ h.1)⟩, ext _ _ (((e04.trans e49).trans e9A).free hpe) ((same_new ht) _ _ upd_same)⟩
end
end SS

set_option maxRecDepth 100000
set_option maxHeartbeats 4000000
namespace SR
open PySem PySem.Spec PyProof.Rows L2
/-- o.f as a target among others -/
def gFld (K : PySem.W.Frag) (ta : TE) (f : Str) : TG := fun v σ H Q => ta σ H fun x H1 => ∃ a C dx fs, x = .ref a ∧ H1 a = some (.ins C dx fs) ∧ Cls K C ∧ NoAttr K C f ∧ fs.length < 1000 ∧ Q σ (upd H1 a (.ins C dx (putF f v fs)))
theorem pg_fld {X : Cx} {o : Expr} {ta : TE} {f : Str} {pos : Pos} (ho : PE X o ta) : PG X (.Attribute o f pos) (gFld X.K ta f) := by
  refine ⟨fun pins s σ H v u Q I r h => ?_⟩
  rw [assign_Attribute]
  refine wpAny_bind (wpAny_holding (thn (ho.run pins s σ H _ I h) fun ov s1 ⟨x, H1, I1, r1, a, C, dx, fs, ex, ea, c, n, l, q⟩ => ?_))
  subst ex
  obtain rfl : ov = Value.ref a := r1
  refine wpAny_bind (wpAny_standAt (wpAny_bind (wpAny_holding ?_)))
  exact setattr_ok I1 ea c n l r fun s3 I3 => wpAny_release ⟨σ, _, I3, q⟩
end SR
namespace SS
open PySem L2 SR TL
/-- what the walk asks of the class -/
structure LTx (K : PySem.W.Frag) (mg : Str → Option Value) (C : Addr) : Prop where
  cl : Cls K C
  nS : NoAttr K C "own_signs"
  nG : NoAttr K C "goals"
  nM : NoAttr K C "member_list"
  nL : NoAttr K C "live_list"
  mgC : mg "Language" = some (.ref C)
theorem lk_ne {a b : Str} {v : V} {fs : List (Str × V)} (h : ¬ a = b) : (putF b v fs).lookup a = fs.lookup a := by rw [lookup_putF, if_neg h]
theorem lk_eq {a : Str} {v : V} {fs : List (Str × V)} : (putF a v fs).lookup a = some v := by rw [lookup_putF, if_pos rfl]
/-- a language as it lies: its least machine, its live states -/
structure LangR (C : Addr) (H : Hp) (x : Addr) (cs : List Nat) (rw' : List (List Int)) (en' ns : List Int) : Prop where
  ex : ∃ (dx pt pm pl : Addr) (fs : List (Str × V)), H x = some (.ins C dx fs) ∧ fs.lookup ("own_signs" : Str) = some (.str (txt cs)) ∧ fs.lookup ("goals" : Str) = some (.ref pt) ∧ fs.lookup ("member_list" : Str) = some (.ref pm) ∧ fs.lookup ("live_list" : Str) = some (.ref pl) ∧
    (∀ n : Str, ¬ n = "own_signs" → ¬ n = "goals" → ¬ n = "member_list" → ¬ n = "live_list" → fs.lookup n = none) ∧ TabAt H cs pt pm rw' en' ∧ H pl = some (.tup (ns.map .int)) ∧ ns.length ≤ 40
theorem LangR.mono {C : Addr} {H H' : Hp} {x : Addr} {cs : List Nat} {rw' : List (List Int)} {en' ns : List Int} (e : Same H H') (h : LangR C H x cs rw' en' ns) : LangR C H' x cs rw' en' ns := by
  obtain ⟨dx, pt, pm, pl, fs, h1, h2, h3, h4, h5, h6, h7, h8, h9⟩ := h.ex
  exact ⟨dx, pt, pm, pl, fs, e _ _ h1, h2, h3, h4, h5, h6, h7.mono e, e _ _ h8, h9⟩
structure LangAt (m : Nat) (C : Addr) (H : Hp) (x : Addr) (cs : List Nat) (rows : List (List Int)) (ends : List Int) : Prop where
  ex : ∃ (rw' : List (List Int)) (en' ns : List Int), LangR C H x cs rw' en' ns ∧ WfM cs rw' en' ∧ Alike cs rows ends rw' en' ∧ Least m cs rows ends rw' en' ∧ (∀ q, 0 ≤ q → q < (rw'.length : Int) → (q ∈ ns ↔ Leads cs rw' en' q)) ∧ ∀ q ∈ ns, 0 ≤ q ∧ q < (rw'.length : Int)
theorem LangAt.mono {m : Nat} {C : Addr} {H H' : Hp} {x : Addr} {cs : List Nat} {rows : List (List Int)} {ends : List Int} (e : Same H H') (h : LangAt m C H x cs rows ends) : LangAt m C H' x cs rows ends := by
  obtain ⟨rw', en', ns, h1, h2⟩ := h.ex
  exact ⟨rw', en', ns, h1.mono e, h2⟩
theorem Given.b {H H' : Hp} {cs : List Nat} {a b x C dx : Addr} {fs : List (Str × V)} {rows : List (List Int)} {ends : List Int} (hx : H x = some (.ins C dx fs)) (e : SameB x H H') (g : Given H cs a b rows ends) : Given H' cs a b rows ends := by
  obtain ⟨qs, h1, h2⟩ := g.ex
  have lot : ∀ {p : Addr} {xs : List V}, LoT H p xs → LoT H' p xs := fun {p xs} h => by
    rcases h with z | z
    · exact .inl (e _ _ (ne_of z hx (by intro z; cases z)) z)
    · exact .inr (e _ _ (ne_of z hx (by intro z; cases z)) z)
  exact ⟨⟨qs, lot h1, Paired.mono h2 fun p row h => e _ _ (ne_of h hx (by intro z; cases z)) h⟩, lot g.mem⟩
theorem TabAt.b {H H' : Hp} {cs : List Nat} {t m x C dx : Addr} {fs : List (Str × V)} {rows : List (List Int)} {ends : List Int} (hx : H x = some (.ins C dx fs)) (e : SameB x H H') (g : TabAt H cs t m rows ends) : TabAt H' cs t m rows ends := by
  obtain ⟨⟨qs, h1, h2⟩, h3⟩ := g
  exact ⟨⟨qs, e _ _ (ne_of h1 hx (by intro z; cases z)) h1, Paired.mono h2 fun p row h => e _ _ (ne_of h hx (by intro z; cases z)) h⟩, e _ _ (ne_of h3 hx (by intro z; cases z)) h3⟩
theorem freeB {D b : Addr} {H H' : Hp} (e : SameB D H H') (n : b ≠ D) (h : H' b = none) : H b = none := by
  cases z : H b with
  | none => rfl
  | some o =>
    have := e b o n z
    rw [h] at this
    cases this
theorem SameB.trans {D : Addr} {H1 H2 H3 : Hp} (e : SameB D H1 H2) (e' : SameB D H2 H3) : SameB D H1 H3 := fun a o n h => e' a o n (e a o n h)
theorem empty_iff {cs : List Nat} {rows rw' : List (List Int)} {ends en' ns : List Int} (A' : Alike cs rows ends rw' en') (one : 1 ≤ rw'.length) (h : ∀ q, 0 ≤ q → q < (rw'.length : Int) → (q ∈ ns ↔ Leads cs rw' en' q)) (hr : ∀ q ∈ ns, 0 ≤ q ∧ q < (rw'.length : Int)) : ns = [] ↔ ¬ Leads cs rows ends 0 := by
  constructor
  · rintro rfl ⟨x, hx, hm⟩
    have := (h 0 (Int.le_refl _) (by omega)).mpr ⟨x, hx, (A'.1 x hx).mpr hm⟩
    cases this
  · intro hn
    cases ns with
    | nil => rfl
    | cons q ns =>
      exfalso
      obtain ⟨q0, q1⟩ := hr q List.mem_cons_self
      obtain ⟨x, hx, hm⟩ := (h q q0 q1).mp List.mem_cons_self
      obtain ⟨y, hy, ey⟩ := A'.2 q q0 q1
      have hxy : ∀ c ∈ y ++ x, c ∈ cs := fun c hc => by
        rcases List.mem_append.mp hc with z | z
        · exact hy c z
        · exact hx c z
      refine hn ⟨y ++ x, hxy, (A'.1 _ hxy).mp ?_⟩
      unfold run at hm ey ⊢
      rw [List.foldl_append, ey]
      exact hm
section
variable {P : Program} {w : World} {K : PySem.W.Frag} {mg : Str → Option Value} {base : Heap}
abbrev sInit : Stmt := inClass (top 28) 1
abbrev sSgn : Stmt := inClass (top 28) 4
abbrev sEmp : Stmt := inClass (top 28) 5
abbrev sCon : Stmt := inClass (top 28) 11
abbrev psI : List Str := ["self", "signs", "states", "member_states"]
theorem scInit : FnScope psI psI (defScope sInit) := ⟨rfl, rfl, rfl, by decide +kernel, rfl, by decide +kernel, by decide +kernel⟩
def spInit (C : Addr) : Sp := fun vs H Q _ => ∃ (x dx : Addr) (cs : List Nat) (a e : Addr) (rows : List (List Int)) (ends : List Int) (m : Nat), vs = [.ref x, .str (txt cs), .ref a, .ref e] ∧ m ≤ 6 ∧ H x = some (.ins C dx []) ∧ Abc cs ∧ WfM cs rows ends ∧ (∀ fd, Order cs rows fd → Cover m cs rows ends fd) ∧ Given H cs a e rows ends ∧
  ∀ H', (∀ H'' : Hp, (∀ b o, (H b = none ∨ b = x) → H' b = some o → H'' b = some o) → LangAt m C H'' x cs rows ends) → SameB x H H' → Q .non H'
theorem ok_init {f C : Addr} {fd : FuncData} (F : Fun K "__init__" "Language.__init__" sInit f fd) (T : LTx K mg C) (Ck : Cal P w K mg base "check_machine" 3 ["signs", "states", "member_states"] spChk) (Lm : Cal P w K mg base "least_machine" 3 ["signs", "rows", "member_states"] spLma) (Ls : Cal P w K mg base "live_states" 1 ["table", "member_list"] spLst) :
    FnOk P w K mg base CX0 4 f fd psI (spInit C) := by
  refine F.ok scInit (fun vs H Q E h => ?_) (fun cdv A outer s H vs Q E hr h => ?_)
  · obtain ⟨x, dx, cs, a, e, rows, ends, m, rfl, _⟩ := h
    rfl
  · obtain ⟨x, dx, cs, a, e, rows, ends, m, rfl, hm6, hx, ha, W, cov, G, k⟩ := h
    refine ⟨_, pss_cons (ps_expr (pe_cal Ck hr (pa_cons (pv 1) (pa_cons (pv 2) (pa_cons (pv 3) pa_nil)))))
      (pss_cons (ps_fld (pv 0) (pv 1) rfl)
      (pss_cons (ps_asg (pe_cal Lm hr (pa_cons (pv 1) (pa_cons (pv 2) (pa_cons (pv 3) pa_nil)))) (pg_tup rfl (pgs_cons (pg_fld (pv 0)) (pgs_cons (pg_fld (pv 0)) pgs_nil))))
      (pss_one (ps_fld (pv 0) (pe_cal Ls (hr.mono (by decide)) (pa_cons (pe_fld (pv 0) rfl) (pa_cons (pe_fld (pv 0) rfl) pa_nil))) rfl)))), ?_⟩
    refine ⟨_, rfl, _, rfl, _, rfl, cs, a, e, rows, ends, rfl, ha, W, G, fun H1 e1 => ?_⟩
    have hx1 := e1 _ _ hx
    refine ⟨_, rfl, _, rfl, x, C, dx, _, rfl, hx1, T.cl, T.nS, (by show 0 < 1000; decide), ?_⟩
    have G2 := (G.mono e1).b hx1 (SameB.upd (o := .ins C dx (putF "own_signs" (.str (txt cs)) [])))
    have hx2 : (upd H1 x (.ins C dx (putF "own_signs" (.str (txt cs)) []))) x = some (.ins C dx (putF "own_signs" (.str (txt cs)) [])) := upd_same
    have b2 : SameB x H (upd H1 x (.ins C dx (putF "own_signs" (.str (txt cs)) []))) := (Same.b e1).trans SameB.upd
    generalize (upd H1 x (.ins C dx (putF "own_signs" (.str (txt cs)) []))) = H2 at G2 hx2 b2
    refine ⟨_, rfl, _, rfl, _, rfl, cs, a, e, rows, ends, m, rfl, hm6, ha, W, cov, G2, fun rw' en' t pt pm H3 W' A' Le e3 h3 tab => ?_⟩
    have hx3 := e3 _ _ hx2
    refine ⟨t, _, rfl, SqT.of h3, rfl, _, _, rfl, _, rfl, x, C, dx, _, rfl, hx3, T.cl, T.nG, (by show 1 < 1000; decide), _, _, rfl, _, rfl, x, C, dx, _, rfl, upd_same, T.cl, T.nM, (by show 2 < 1000; decide), rfl, ?_⟩
    have nx2 : ∀ b, H2 b = none → b ≠ x := fun b hb ee => by rw [ee, hx2] at hb; cases hb
    have tabX : ∀ H'' : Hp, (∀ b o, H2 b = none → (upd (upd H3 x (.ins C dx (putF "goals" (.ref pt) (putF "own_signs" (.str (txt cs)) [])))) x (.ins C dx (putF "member_list" (.ref pm) (putF "goals" (.ref pt) (putF "own_signs" (.str (txt cs)) []))))) b = some o → H'' b = some o) → TabAt H'' cs pt pm rw' en' := fun H'' ext => tab H'' fun b o hb ho => ext b o hb (by rw [upd_ne (nx2 b hb), upd_ne (nx2 b hb)]; exact ho)
    have hx4 : (upd (upd H3 x (.ins C dx (putF "goals" (.ref pt) (putF "own_signs" (.str (txt cs)) [])))) x (.ins C dx (putF "member_list" (.ref pm) (putF "goals" (.ref pt) (putF "own_signs" (.str (txt cs)) []))))) x = some (.ins C dx (putF "member_list" (.ref pm) (putF "goals" (.ref pt) (putF "own_signs" (.str (txt cs)) [])))) := upd_same
    have b4 : SameB x H (upd (upd H3 x (.ins C dx (putF "goals" (.ref pt) (putF "own_signs" (.str (txt cs)) [])))) x (.ins C dx (putF "member_list" (.ref pm) (putF "goals" (.ref pt) (putF "own_signs" (.str (txt cs)) []))))) := ((b2.trans (Same.b e3)).trans SameB.upd).trans SameB.upd
    generalize (upd (upd H3 x (.ins C dx (putF "goals" (.ref pt) (putF "own_signs" (.str (txt cs)) [])))) x (.ins C dx (putF "member_list" (.ref pm) (putF "goals" (.ref pt) (putF "own_signs" (.str (txt cs)) []))))) = H4 at tabX hx4 b4 ⊢
    have tab4 : TabAt H4 cs pt pm rw' en' := tabX H4 fun _ _ _ h => h
    have l1 : (putF "member_list" (.ref pm) (putF "goals" (.ref pt) (putF "own_signs" (.str (txt cs)) []))).lookup ("goals" : Str) = some (.ref pt) := by rw [lk_ne (by decide +kernel), lk_eq]
    refine ⟨_, rfl, x, C, dx, _, _, rfl, hx4, T.cl, T.nG, l1, _, rfl, x, C, dx, _, _, rfl, hx4, T.cl, T.nM, lk_eq, pt, pm, cs, rw', en', rfl, ha, W', tab4, fun ns p H5 hns hrg hl5 rs hp e5 h5 => ?_⟩
    have hx5 := e5 _ _ hx4
    have npx : p ≠ x := ne_of h5 hx5 (by intro z; cases z)
    have pfr : H p = none := freeB b4 npx hp
    refine ⟨_, rfl, x, C, dx, _, rfl, hx5, T.cl, T.nL, (by show 3 < 1000; decide), k _ (fun H'' ext => ⟨rw', en', ns, ⟨dx, pt, pm, p, _, ext x _ (.inr rfl) upd_same, ?_, ?_, ?_, lk_eq, fun n n1 n2 n3 n4 => by rw [lk_ne n4, lk_ne n3, lk_ne n2, lk_ne n1]; rfl, tabX H'' fun b o hb ho => ext b o (.inl (freeB b2 (nx2 b hb) hb)) (by rw [upd_ne (nx2 b hb)]; exact e5 _ _ ho), ext p _ (.inl pfr) (by rw [upd_ne npx]; exact h5), hl5⟩, W', A', Le, hns, hrg⟩) ((b4.trans (Same.b e5)).trans SameB.upd)⟩
    · rw [lk_ne (by decide +kernel), lk_ne (by decide +kernel), lk_ne (by decide +kernel), lk_eq]
    · rw [lk_ne (by decide +kernel)]; exact l1
    · rw [lk_ne (by decide +kernel), lk_eq]
end
end SS

set_option maxRecDepth 100000
set_option maxHeartbeats 4000000
namespace SS
open PySem L2 SR TL
/-! ### the same language: the same least machine -/
theorem addNew_inj {φ : Int → Int} (gs : List Int) : ∀ L : List Int, (∀ a ∈ addNew L gs, ∀ b ∈ addNew L gs, φ a = φ b → a = b) → addNew (L.map φ) (gs.map φ) = (addNew L gs).map φ := by
  induction gs with
  | nil => intro L _; rfl
  | cons g gs ih =>
    intro L inj
    show addNew (if φ g ∈ L.map φ then L.map φ else L.map φ ++ [φ g]) (gs.map φ) = (addNew (if g ∈ L then L else L ++ [g]) gs).map φ
    have hg : g ∈ addNew L (g :: gs) := addNew_mem g List.mem_cons_self
    have hi : φ g ∈ L.map φ ↔ g ∈ L := by
      constructor
      · intro h
        obtain ⟨u, hu, e⟩ := List.mem_map.mp h
        have := inj u (addNew_keep hu) g hg e
        rw [← this]; exact hu
      · intro h; exact List.mem_map.mpr ⟨g, h, rfl⟩
    have inj' : ∀ a ∈ addNew (if g ∈ L then L else L ++ [g]) gs, ∀ b ∈ addNew (if g ∈ L then L else L ++ [g]) gs, φ a = φ b → a = b := inj
    by_cases hm : g ∈ L
    · rw [if_pos (hi.mpr hm), if_pos hm]
      rw [if_pos hm] at inj'
      exact ih L inj'
    · rw [if_neg (fun h => hm (hi.mp h)), if_neg hm]
      rw [if_neg hm] at inj'
      rw [← ih (L ++ [g]) inj', List.map_append]
      rfl
theorem BE.map {δ δ' : Int → List Int} {φ : Int → Int} {q0 : Int} : ∀ {n : Nat} {L : List Int}, BE δ q0 n L → (∀ k ∈ L, (δ k).map φ = δ' (φ k)) → (∀ a ∈ L, ∀ b ∈ L, φ a = φ b → a = b) → BE δ' (φ q0) n (L.map φ)
  | 0, _, .start, _, _ => .start
  | n + 1, _, .turn (L := L) (k := k) b h, hδ, inj => by
    have b' := BE.map b (fun u hu => hδ u (addNew_keep hu)) fun u hu v hv => inj u (addNew_keep hu) v (addNew_keep hv)
    have hk : k ∈ L := List.mem_of_getElem? h
    rw [← addNew_inj (δ k) L inj, hδ k (addNew_keep hk)]
    exact .turn b' (by rw [List.getElem?_map, h]; rfl)
theorem idxOf_inj {α β : Type} [DecidableEq α] [DecidableEq β] {f : α → β} {a : α} : ∀ L : List α, (∀ b ∈ L, f b = f a → b = a) → (L.map f).idxOf (f a) = L.idxOf a
  | [], _ => rfl
  | b :: L, h => by
    rw [List.map_cons, List.idxOf_cons, List.idxOf_cons]
    have ih := idxOf_inj L fun u hu => h u (List.mem_cons_of_mem _ hu)
    by_cases e : b = a
    · subst e; simp
    · have : ¬ f b = f a := fun z => e (h b List.mem_cons_self z)
      have h1 : (b == a) = false := beq_eq_false_iff_ne.mpr e
      have h2 : (f b == f a) = false := beq_eq_false_iff_ne.mpr this
      rw [h1, h2, ih]
theorem Order.run_mem {cs : List Nat} {rows : List (List Int)} {fd : List Int} (O : Order cs rows fd) : ∀ (x : List Nat) (s : Int), s ∈ fd → (∀ c ∈ x, c ∈ cs) → run cs rows s x ∈ fd
  | [], s, hs, _ => hs
  | c :: x, s, hs, hx => O.run_mem x _ (O.cl s hs c (hx c List.mem_cons_self)) fun d hd => hx d (List.mem_cons_of_mem _ hd)
theorem Order.zero {cs : List Nat} {rows : List (List Int)} {fd : List Int} (O : Order cs rows fd) : (0 : Int) ∈ fd := by
  obtain ⟨t, ht⟩ := O.hd
  rw [ht]; exact List.mem_cons_self
section
variable {cs : List Nat} {rows : List (List Int)} {ends fd : List Int}
theorem Kn.iff {κ : Int → Int} {r : Nat} (k : Kn cs rows ends fd r κ) (O : Order cs rows fd) (b : Bis cs rows fd κ) {p q : Int} (hp : p ∈ fd) (hq : q ∈ fd) : κ p = κ q ↔ ∀ x : List Nat, (∀ c ∈ x, c ∈ cs) → (run cs rows p x ∈ ends ↔ run cs rows q x ∈ ends) :=
  ⟨fun e x hx => k.all O b p hp q hq e x.length x hx (Nat.le_refl _), fun h => (k p hp q hq).mpr fun x hx _ => h x hx⟩
theorem run_app (cs : List Nat) (rows : List (List Int)) (s : Int) (x y : List Nat) : run cs rows s (x ++ y) = run cs rows (run cs rows s x) y := List.foldl_append
end
theorem least_unique {mA mB : Nat} {cs : List Nat} {rA rwA rB rwB : List (List Int)} {eA enA eB enB : List Int} (A : Least mA cs rA eA rwA enA) (B : Least mB cs rB eB rwB enB)
    (h : ∀ x : List Nat, (∀ c ∈ x, c ∈ cs) → (run cs rA 0 x ∈ eA ↔ run cs rB 0 x ∈ eB)) : rwB = rwA ∧ enB = enA := by
  obtain ⟨fdA, κA, nA, ksA, OA, kA, _, bA, fA, ⟨mA', beA, lA⟩, rfl, rfl⟩ := A
  obtain ⟨fdB, κB, nB, ksB, OB, kB, _, bB, fB, ⟨mB', beB, lB⟩, rfl, rfl⟩ := B
  -- the state of A that stands for one of B
  obtain ⟨ψ, hψ⟩ : ∃ ψ : Int → Int, ∀ s ∈ fdB, ψ s ∈ fdA ∧ ∀ y : List Nat, (∀ c ∈ y, c ∈ cs) → (run cs rA (ψ s) y ∈ eA ↔ run cs rB s y ∈ eB) := by
    refine ⟨fun s => if hs : s ∈ fdB then run cs rA 0 (Classical.choose (OB.rc s hs)) else 0, fun s hs => ?_⟩
    obtain ⟨hx, ex⟩ := Classical.choose_spec (OB.rc s hs)
    show dite (s ∈ fdB) _ _ ∈ fdA ∧ ∀ y : List Nat, (∀ c ∈ y, c ∈ cs) → (run cs rA (dite (s ∈ fdB) _ _) y ∈ eA ↔ _)
    rw [dif_pos hs]
    refine ⟨OA.run_mem _ 0 OA.zero hx, fun y hy => ?_⟩
    have hxy : ∀ c ∈ Classical.choose (OB.rc s hs) ++ y, c ∈ cs := fun c hc => (List.mem_append.mp hc).elim (hx c) (hy c)
    have := h _ hxy
    rw [run_app, run_app, ex] at this
    exact this
  have memA : ∀ k, k ∈ ksA ↔ ∃ s ∈ fdA, κA s = k := fun k => by rw [fA.mem, List.take_length]
  have memB : ∀ k, k ∈ ksB ↔ ∃ s ∈ fdB, κB s = k := fun k => by rw [fB.mem, List.take_length]
  have cls : ∀ s ∈ fdB, ∀ t ∈ fdB, κB s = κB t ↔ κA (ψ s) = κA (ψ t) := fun s hs t ht => by
    rw [kB.iff OB bB hs ht, kA.iff OA bA (hψ s hs).1 (hψ t ht).1]
    exact forall_congr' fun x => forall_congr' fun hx => by rw [(hψ s hs).2 x hx, (hψ t ht).2 x hx]
  -- the kind of A for a kind of B
  have hφ : ∀ s ∈ fdB, κA (ψ (rep fdB κB (κB s))) = κA (ψ s) := fun s hs => by
    obtain ⟨r1, r2⟩ := rep_mem (κ := κB) hs
    exact (cls _ r1 s hs).mp r2
  have hnx : ∀ s ∈ fdB, ∀ c ∈ cs, κA (ψ (nxt cs rB s c)) = κA (nxt cs rA (ψ s) c) := fun s hs c hc => by
    have h1 := OB.cl s hs c hc
    refine (kA.iff OA bA (hψ _ h1).1 (OA.cl _ (hψ s hs).1 c hc)).mpr fun y hy => ?_
    rw [(hψ _ h1).2 y hy]
    have := (hψ s hs).2 (c :: y) (fun d hd => (List.mem_cons.mp hd).elim (fun z => z ▸ hc) (hy d))
    exact this.symm
  have h00 : κA (ψ 0) = κA 0 := (kA.iff OA bA (hψ 0 OB.zero).1 OA.zero).mpr fun y hy => by rw [(hψ 0 OB.zero).2 y hy]; exact (h y hy).symm
  generalize eφ : (fun k => κA (ψ (rep fdB κB k))) = φ
  have φs : ∀ s ∈ fdB, φ (κB s) = κA (ψ s) := fun s hs => by rw [← eφ]; exact hφ s hs
  have inj : ∀ a ∈ ksB, ∀ b ∈ ksB, φ a = φ b → a = b := fun a ha b hb e => by
    obtain ⟨s, hs, rfl⟩ := (memB a).mp ha
    obtain ⟨t, ht, rfl⟩ := (memB b).mp hb
    rw [φs s hs, φs t ht] at e
    exact (cls s hs t ht).mpr e
  -- the representatives
  have repB : ∀ k ∈ ksB, rep fdB κB k ∈ fdB ∧ κB (rep fdB κB k) = k := fun k hk => by
    obtain ⟨s, hs, rfl⟩ := (memB k).mp hk
    exact rep_mem hs
  have φk : ∀ k ∈ ksB, φ k = κA (ψ (rep fdB κB k)) := fun k _ => by rw [← eφ]
  have repA : ∀ k ∈ ksB, rep fdA κA (φ k) ∈ fdA ∧ κA (rep fdA κA (φ k)) = κA (ψ (rep fdB κB k)) := fun k hk => by
    rw [φk k hk]
    exact rep_mem (hψ _ (repB k hk).1).1
  have nx : ∀ k ∈ ksB, ∀ c ∈ cs, κA (nxt cs rA (rep fdA κA (φ k)) c) = φ (κB (nxt cs rB (rep fdB κB k) c)) := fun k hk c hc => by
    obtain ⟨a1, a2⟩ := repA k hk
    obtain ⟨b1, b2⟩ := repB k hk
    rw [φs _ (OB.cl _ b1 c hc), hnx _ b1 c hc]
    exact bA _ a1 _ (hψ _ b1).1 a2 c hc
  have be : BE (dltK cs rA fdA κA) (κA 0) mB' (ksB.map φ) := by
    have := beB.map (δ' := dltK cs rA fdA κA) (φ := φ) (fun k hk => ?_) inj
    · rwa [φs 0 OB.zero, h00] at this
    · unfold dltK
      rw [List.map_map]
      exact List.map_congr_left fun c hc => (nx k hk c hc).symm
  have eks : ksB.map φ = ksA := be.done beA (by rw [List.length_map]; exact lB) lA
  have inB : ∀ k ∈ ksB, ∀ c ∈ cs, κB (nxt cs rB (rep fdB κB k) c) ∈ ksB := fun k hk c hc => (memB _).mpr ⟨_, OB.cl _ (repB k hk).1 c hc, rfl⟩
  have nm : ∀ k ∈ ksB, num ksA (φ k) = num ksB k := fun k hk => by
    unfold num
    rw [← eks, idxOf_inj ksB fun b hb e => inj b hb k hk e]
  constructor
  · unfold rows'
    rw [show (ksA.map fun k => cs.map fun c => num ksA (κA (nxt cs rA (rep fdA κA k) c))) = (ksB.map φ).map fun k => cs.map fun c => num ksA (κA (nxt cs rA (rep fdA κA k) c)) from by rw [eks], List.map_map]
    refine List.map_congr_left fun k hk => List.map_congr_left fun c hc => ?_
    show _ = num ksA (κA (nxt cs rA (rep fdA κA (φ k)) c))
    rw [nx k hk c hc, nm _ (inB k hk c hc)]
  · unfold ends'
    rw [show (ksA.filter fun k => decide (rep fdA κA k ∈ eA)) = (ksB.map φ).filter fun k => decide (rep fdA κA k ∈ eA) from by rw [eks], List.filter_map, List.map_map]
    have e1 : ksB.filter ((fun k => decide (rep fdA κA k ∈ eA)) ∘ φ) = ksB.filter fun k => decide (rep fdB κB k ∈ eB) := List.filter_congr fun k hk => by
      show decide (rep fdA κA (φ k) ∈ eA) = _
      refine decide_eq_decide.mpr ?_
      obtain ⟨a1, a2⟩ := repA k hk
      obtain ⟨b1, b2⟩ := repB k hk
      have h1 := (kA.iff OA bA a1 (hψ _ b1).1).mp a2 [] (fun _ h => nomatch h)
      have h2 := (hψ _ b1).2 [] (fun _ h => nomatch h)
      exact h1.trans h2
    rw [e1]
    refine List.map_congr_left fun k hk => ?_
    show _ = num ksA (φ k)
    exact (nm k (List.mem_filter.mp hk).1).symm
/-! ### the law's own least machine -/
/-- which texts lead to a member state -/
def trc (cs : List Nat) (rows : List (List Int)) (ends : List Int) (xs : List (List Nat)) (s : Int) : List Bool := xs.map fun x => decide (run cs rows s x ∈ ends)
/-- all texts of at most n signs -/
def Full (cs : List Nat) (n : Nat) (xs : List (List Nat)) : Prop := Over cs n xs ∧ ∀ x : List Nat, (∀ c ∈ x, c ∈ cs) → x.length ≤ n → x ∈ xs
theorem trc_iff {cs : List Nat} {rows : List (List Int)} {ends : List Int} {xs : List (List Nat)} {n : Nat} (f : Full cs n xs) {p q : Int} : trc cs rows ends xs p = trc cs rows ends xs q ↔ Eqv cs rows ends n p q := by
  unfold trc Eqv
  rw [List.map_inj_left]
  constructor
  · intro h x hx hl
    exact decide_eq_decide.mp (h x (f.2 x hx hl))
  · intro h x hx
    exact decide_eq_decide.mpr (h x (f.1 x hx).1 (f.1 x hx).2)
/-- the ones of a row with a new trace, laid behind -/
def addT (τ : Int → List Bool) (F : List Int) : List Int → List Int
  | [] => F
  | g :: gs => addT τ (if τ g ∈ F.map τ then F else F ++ [g]) gs
theorem addT_prefix (τ : Int → List Bool) (gs : List Int) : ∀ F : List Int, ∃ t, addT τ F gs = F ++ t := by
  induction gs with
  | nil => intro F; exact ⟨[], (List.append_nil F).symm⟩
  | cons g gs ih =>
    intro F
    obtain ⟨t, h⟩ := ih (if τ g ∈ F.map τ then F else F ++ [g])
    by_cases hm : τ g ∈ F.map τ
    · rw [if_pos hm] at h
      exact ⟨t, by show addT τ (if τ g ∈ F.map τ then F else F ++ [g]) gs = _; rw [if_pos hm]; exact h⟩
    · rw [if_neg hm] at h
      exact ⟨[g] ++ t, by show addT τ (if τ g ∈ F.map τ then F else F ++ [g]) gs = _; rw [if_neg hm, h, List.append_assoc]⟩
theorem addT_snoc (τ : Int → List Bool) (g : Int) (gs : List Int) : ∀ F : List Int, addT τ F (gs ++ [g]) = if τ g ∈ (addT τ F gs).map τ then addT τ F gs else addT τ F gs ++ [g] := by
  induction gs with
  | nil => intro F; rfl
  | cons u gs ih => intro F; exact ih _
theorem addT_only {τ : Int → List Bool} {gs : List Int} : ∀ {F : List Int} {k : Int}, k ∈ addT τ F gs → k ∈ F ∨ k ∈ gs := by
  induction gs with
  | nil => intro F k h; exact .inl h
  | cons g gs ih =>
    intro F k h
    rcases ih (F := if τ g ∈ F.map τ then F else F ++ [g]) h with z | z
    · by_cases hm : τ g ∈ F.map τ
      · rw [if_pos hm] at z; exact .inl z
      · rw [if_neg hm] at z
        rcases List.mem_append.mp z with y | y
        · exact .inl y
        · exact .inr (by rw [List.mem_singleton.mp y]; exact List.mem_cons_self)
    · exact .inr (List.mem_cons_of_mem _ z)
theorem addT_has {τ : Int → List Bool} {gs : List Int} : ∀ {F : List Int}, ∀ g ∈ gs, τ g ∈ (addT τ F gs).map τ := by
  induction gs with
  | nil => intro F g h; cases h
  | cons u gs ih =>
    intro F g hg
    rcases List.mem_cons.mp hg with z | z
    · subst z
      show τ g ∈ (addT τ (if τ g ∈ F.map τ then F else F ++ [g]) gs).map τ
      obtain ⟨t, e⟩ := addT_prefix τ gs (if τ g ∈ F.map τ then F else F ++ [g])
      rw [e, List.map_append]
      refine List.mem_append_left _ ?_
      by_cases hm : τ g ∈ F.map τ
      · rw [if_pos hm]; exact hm
      · rw [if_neg hm, List.map_append]; simp
    · exact ih g z
theorem addT_nodup {τ : Int → List Bool} {gs : List Int} : ∀ {F : List Int}, (F.map τ).Nodup → ((addT τ F gs).map τ).Nodup := by
  induction gs with
  | nil => intro F h; exact h
  | cons g gs ih =>
    intro F h
    show ((addT τ (if τ g ∈ F.map τ then F else F ++ [g]) gs).map τ).Nodup
    by_cases hm : τ g ∈ F.map τ
    · rw [if_pos hm]; exact ih h
    · rw [if_neg hm]
      refine ih ?_
      rw [List.map_append]
      refine List.nodup_append.mpr ⟨h, by simp, fun a ha b hb e => ?_⟩
      have hb' : b = τ g := by simpa using hb
      rw [e, hb'] at ha
      exact hm ha
theorem addT_map {τ : Int → List Bool} {κ : Int → Int} (gs : List Int) : ∀ F : List Int, (∀ a, a ∈ F ∨ a ∈ gs → ∀ b, b ∈ F ∨ b ∈ gs → (κ a = κ b ↔ τ a = τ b)) → (addT τ F gs).map κ = addNew (F.map κ) (gs.map κ) := by
  induction gs with
  | nil => intro F _; rfl
  | cons g gs ih =>
    intro F h
    show (addT τ (if τ g ∈ F.map τ then F else F ++ [g]) gs).map κ = addNew (if κ g ∈ F.map κ then F.map κ else F.map κ ++ [κ g]) (gs.map κ)
    have hg : g ∈ F ∨ g ∈ g :: gs := .inr List.mem_cons_self
    have hi : κ g ∈ F.map κ ↔ τ g ∈ F.map τ := by
      rw [List.mem_map, List.mem_map]
      constructor
      · rintro ⟨u, hu, e⟩
        exact ⟨u, hu, (h u (.inl hu) g hg).mp e⟩
      · rintro ⟨u, hu, e⟩
        exact ⟨u, hu, (h u (.inl hu) g hg).mpr e⟩
    by_cases hm : τ g ∈ F.map τ
    · rw [if_pos (hi.mpr hm), if_pos hm]
      exact ih F fun a ha b hb => h a (ha.imp id (List.mem_cons_of_mem _)) b (hb.imp id (List.mem_cons_of_mem _))
    · rw [if_neg (fun z => hm (hi.mp z)), if_neg hm]
      have sub : ∀ a, a ∈ F ++ [g] ∨ a ∈ gs → a ∈ F ∨ a ∈ g :: gs := fun a ha => by
        rcases ha with ha | ha
        · rcases List.mem_append.mp ha with z | z
          · exact .inl z
          · exact .inr (by rw [List.mem_singleton.mp z]; exact List.mem_cons_self)
        · exact .inr (List.mem_cons_of_mem _ ha)
      rw [ih (F ++ [g]) fun a ha b hb => h a (sub a ha) b (sub b hb), List.map_append]
      rfl
/-- the firsts behind so many turns -/
def lawF (cs : List Nat) (rows : List (List Int)) (τ : Int → List Bool) : Nat → List Int
  | 0 => [0]
  | t + 1 => match (lawF cs rows τ t)[t]? with
    | some s => addT τ (lawF cs rows τ t) (dlt cs rows s)
    | none => lawF cs rows τ t
def lawRow (cs : List Nat) (rows : List (List Int)) (τ : Int → List Bool) (F : List Int) (s : Int) : List Int := cs.map fun c => (((F.map τ).idxOf (τ (nxt cs rows s c)) : Nat) : Int)
def lawRows (cs : List Nat) (rows : List (List Int)) (τ : Int → List Bool) (F : List Int) : List (List Int) := F.map (lawRow cs rows τ F)
def lawEnds (ends F : List Int) : List Int := ((List.range F.length).filter fun j => decide (F.getD j 0 ∈ ends)).map Int.ofNat
theorem lawF_mem {cs : List Nat} {rows : List (List Int)} {τ : Int → List Bool} {fd : List Int} (O : Order cs rows fd) : ∀ (t : Nat), ∀ s ∈ lawF cs rows τ t, s ∈ fd
  | 0, s, h => by rw [List.mem_singleton.mp h]; exact O.zero
  | t + 1, s, h => by
    have ih := lawF_mem (τ := τ) O t
    unfold lawF at h
    split at h
    · rename_i u hu
      rcases addT_only h with z | z
      · exact ih s z
      · obtain ⟨c, hc, rfl⟩ := List.mem_map.mp z
        exact O.cl u (ih u (List.mem_of_getElem? hu)) c hc
    · exact ih s h
theorem lawF_nodup {cs : List Nat} {rows : List (List Int)} {τ : Int → List Bool} : ∀ (t : Nat), ((lawF cs rows τ t).map τ).Nodup
  | 0 => by simp [lawF]
  | t + 1 => by
    have ih := lawF_nodup (cs := cs) (rows := rows) (τ := τ) t
    unfold lawF
    split
    · exact addT_nodup ih
    · exact ih
theorem nodup_of_map {α β : Type} (f : α → β) : ∀ {L : List α}, (L.map f).Nodup → L.Nodup
  | [], _ => List.nodup_nil
  | a :: L, h => by
    obtain ⟨h1, h2⟩ := List.nodup_cons.mp h
    exact List.nodup_cons.mpr ⟨fun z => h1 (List.mem_map.mpr ⟨a, z, rfl⟩), nodup_of_map f h2⟩
theorem lawF_len {cs : List Nat} {rows : List (List Int)} {τ : Int → List Bool} {fd : List Int} (O : Order cs rows fd) (t : Nat) : (lawF cs rows τ t).length ≤ rows.length :=
  nodup_len _ _ (nodup_of_map τ (lawF_nodup t)) fun q hq => O.rg q (lawF_mem O t q hq)
theorem law_least {m : Nat} {cs : List Nat} {rows rw' : List (List Int)} {ends en' : List Int} {xs : List (List Nat)} (hm : m ≤ 5) (hr : rows.length ≤ 5) (f : Full cs 4 xs) (L : Least m cs rows ends rw' en') :
    rw' = lawRows cs rows (trc cs rows ends xs) (lawF cs rows (trc cs rows ends xs) 5) ∧ en' = lawEnds ends (lawF cs rows (trc cs rows ends xs) 5) ∧ (lawF cs rows (trc cs rows ends xs) 5).length ≤ 5 := by
  obtain ⟨fd, κ, r, ks, O, k, hrm, bi, fs, ⟨n, be, hn⟩, rfl, rfl⟩ := L
  generalize eτ : trc cs rows ends xs = τ
  have cl : ∀ p ∈ fd, ∀ q ∈ fd, κ p = κ q ↔ τ p = τ q := fun p hp q hq => by
    rw [← eτ, trc_iff f]
    constructor
    · intro e
      exact k.all O bi p hp q hq e 4
    · intro h
      exact (k p hp q hq).mpr (h.mono (by omega))
  have memK : ∀ k, k ∈ ks ↔ ∃ s ∈ fd, κ s = k := fun k => by rw [fs.mem, List.take_length]
  have dl : ∀ s ∈ fd, (dlt cs rows s).map κ = dltK cs rows fd κ (κ s) := fun s hs => by
    unfold dlt dltK
    rw [List.map_map]
    refine List.map_congr_left fun c hc => ?_
    obtain ⟨r1, r2⟩ := rep_mem (κ := κ) hs
    exact (bi _ r1 s hs r2 c hc).symm
  have key : ∀ t : Nat, ∃ t', t' ≤ t ∧ BE (dltK cs rows fd κ) (κ 0) t' ((lawF cs rows τ t).map κ) ∧ (t' = t ∨ (lawF cs rows τ t).length ≤ t') := by
    intro t
    induction t with
    | zero => exact ⟨0, Nat.le_refl _, .start, .inl rfl⟩
    | succ t ih =>
      obtain ⟨t', h1, h2, h3⟩ := ih
      have hme := lawF_mem (τ := τ) O t
      cases hs : (lawF cs rows τ t)[t]? with
      | none =>
        have e : lawF cs rows τ (t + 1) = lawF cs rows τ t := by show (match (lawF cs rows τ t)[t]? with | some s => _ | none => _) = _; rw [hs]
        rw [e]
        have hlen := List.getElem?_eq_none_iff.mp hs
        rcases h3 with z | z
        · subst z
          exact ⟨t', by omega, h2, .inr hlen⟩
        · exact ⟨t', by omega, h2, .inr z⟩
      | some s =>
        have e : lawF cs rows τ (t + 1) = addT τ (lawF cs rows τ t) (dlt cs rows s) := by show (match (lawF cs rows τ t)[t]? with | some s => _ | none => _) = _; rw [hs]
        rw [e]
        have hlt := (List.getElem?_eq_some_iff.mp hs).1
        have et : t' = t := by
          rcases h3 with z | z
          · exact z
          · omega
        subst et
        have hsf : s ∈ fd := hme s (List.mem_of_getElem? hs)
        have all : ∀ a, a ∈ lawF cs rows τ t' ∨ a ∈ dlt cs rows s → a ∈ fd := fun a ha => by
          rcases ha with z | z
          · exact hme a z
          · obtain ⟨c, hc, rfl⟩ := List.mem_map.mp z
            exact O.cl s hsf c hc
        refine ⟨t' + 1, Nat.le_refl _, ?_, .inl rfl⟩
        rw [addT_map _ _ fun a ha b hb => cl a (all a ha) b (all b hb), dl s hsf]
        exact .turn h2 (by rw [List.getElem?_map, hs]; rfl)
  obtain ⟨t', h1, h2, h3⟩ := key 5
  have h5 : (lawF cs rows τ 5).length ≤ 5 := Nat.le_trans (lawF_len O 5) hr
  have hdone : (lawF cs rows τ 5).length ≤ t' := by
    rcases h3 with z | z
    · omega
    · exact z
  have hme := lawF_mem (τ := τ) O 5
  have hnd := lawF_nodup (cs := cs) (rows := rows) (τ := τ) 5
  generalize lawF cs rows τ 5 = F at h1 h2 h3 h5 hdone hme hnd
  have eks : F.map κ = ks := h2.done be (by rw [List.length_map]; exact hdone) hn
  have numF : ∀ p ∈ fd, num ks (κ p) = (((F.map τ).idxOf (τ p) : Nat) : Int) := fun p hp => by
    unfold num
    have h1 : (F.map κ).idxOf (κ p) = (F.map τ).idxOf (τ p) := by
      have : ∀ G : List Int, (∀ g ∈ G, g ∈ fd) → (G.map κ).idxOf (κ p) = (G.map τ).idxOf (τ p) := by
        intro G
        induction G with
        | nil => intro _; rfl
        | cons g G ih =>
          intro hG
          rw [List.map_cons, List.map_cons, List.idxOf_cons, List.idxOf_cons, ih fun u hu => hG u (List.mem_cons_of_mem _ hu)]
          have hi := cl g (hG g List.mem_cons_self) p hp
          by_cases e : κ g = κ p
          · have e' := hi.mp e
            rw [e, e']; simp
          · have e' : ¬ τ g = τ p := fun z => e (hi.mpr z)
            have b1 : (κ g == κ p) = false := beq_eq_false_iff_ne.mpr e
            have b2 : (τ g == τ p) = false := beq_eq_false_iff_ne.mpr e'
            rw [b1, b2]
      exact this F hme
    rw [← eks, h1]
  have repF : ∀ s ∈ F, rep fd κ (κ s) ∈ fd ∧ κ (rep fd κ (κ s)) = κ s := fun s hs => rep_mem (hme s hs)
  refine ⟨?_, ?_, h5⟩
  · unfold rows' lawRows lawRow
    rw [show (ks.map fun k => cs.map fun c => num ks (κ (nxt cs rows (rep fd κ k) c))) = (F.map κ).map fun k => cs.map fun c => num ks (κ (nxt cs rows (rep fd κ k) c)) from by rw [eks], List.map_map]
    refine List.map_congr_left fun s hs => List.map_congr_left fun c hc => ?_
    obtain ⟨r1, r2⟩ := repF s hs
    show num ks (κ (nxt cs rows (rep fd κ (κ s)) c)) = _
    rw [bi _ r1 s (hme s hs) r2 c hc]
    exact numF _ (O.cl s (hme s hs) c hc)
  · have nd : ks.Nodup := fs.nd
    unfold ends' lawEnds
    have e1 : ks.filter (fun k => decide (rep fd κ k ∈ ends)) = (F.filter fun s => decide (s ∈ ends)).map κ := by
      rw [show ks.filter (fun k => decide (rep fd κ k ∈ ends)) = (F.map κ).filter (fun k => decide (rep fd κ k ∈ ends)) from by rw [eks], List.filter_map]
      congr 1
      refine List.filter_congr fun s hs => ?_
      obtain ⟨r1, r2⟩ := repF s hs
      exact decide_eq_decide.mpr ((k.iff O bi r1 (hme s hs)).mp r2 [] fun _ h => nomatch h)
    rw [e1, List.map_map]
    -- the numbers of a part of the list
    have hF : F = (List.range F.length).map fun j => F.getD j 0 := by
      refine List.ext_getElem? fun i => ?_
      rw [List.getElem?_map]
      by_cases hi : i < F.length
      · rw [List.getElem?_eq_getElem hi, List.getElem?_range hi]
        show _ = some (F.getD i 0)
        rw [List.getD_eq_getElem?_getD, List.getElem?_eq_getElem hi]
        rfl
      · rw [List.getElem?_eq_none_iff.mpr (by omega), List.getElem?_eq_none_iff.mpr (by rw [List.length_range]; omega)]
        rfl
    have e2 : F.filter (fun s => decide (s ∈ ends)) = ((List.range F.length).filter fun j => decide (F.getD j 0 ∈ ends)).map fun j => F.getD j 0 := by
      rw [show F.filter (fun s => decide (s ∈ ends)) = ((List.range F.length).map fun j => F.getD j 0).filter (fun s => decide (s ∈ ends)) from congrArg (List.filter _) hF, List.filter_map]
      rfl
    rw [e2, List.map_map]
    refine List.map_congr_left fun j hj => ?_
    have hj' : j < F.length := by simpa using (List.mem_filter.mp hj).1
    show num ks (κ (F.getD j 0)) = _
    refine num_get nd ?_
    rw [← eks, List.getElem?_map, List.getElem?_eq_getElem hj', List.getD_eq_getElem?_getD, List.getElem?_eq_getElem hj']
    rfl
/-! ### short texts tell what is live -/
theorem leads_short {cs : List Nat} {rows : List (List Int)} {ends : List Int} (W : WfM cs rows ends) {q : Int} (q0 : 0 ≤ q) (q1 : q < (rows.length : Int)) (h : Leads cs rows ends q) : ∃ x : List Nat, (∀ c ∈ x, c ∈ cs) ∧ run cs rows q x ∈ ends ∧ x.length + 1 ≤ rows.length := by
  obtain ⟨x, hx, he⟩ := h
  have key : ∀ (n : Nat) (x : List Nat), x.length ≤ n → (∀ c ∈ x, c ∈ cs) → run cs rows q x ∈ ends → ∃ x : List Nat, (∀ c ∈ x, c ∈ cs) ∧ run cs rows q x ∈ ends ∧ x.length + 1 ≤ rows.length := by
    intro n
    induction n with
    | zero =>
      intro x hl hx he
      exact ⟨x, hx, he, by have := W.one; omega⟩
    | succ n ih =>
      intro x hl hx he
      by_cases hs : x.length + 1 ≤ rows.length
      · exact ⟨x, hx, he, hs⟩
      · have hnd : ¬ ((List.range (x.length + 1)).map fun i => run cs rows q (x.take i)).Nodup := fun nd => by
          have := nodup_len rows.length _ nd fun s hs => by
            obtain ⟨i, _, rfl⟩ := List.mem_map.mp hs
            exact W.run_ok _ q q0 q1 fun c hc => hx c (List.mem_of_mem_take hc)
          rw [List.length_map, List.length_range] at this
          exact hs this
        have : ∃ i j : Nat, i < j ∧ j < x.length + 1 ∧ run cs rows q (x.take i) = run cs rows q (x.take j) := by
          refine Classical.byContradiction fun hno => hnd ?_
          refine List.pairwise_map.mpr (List.Pairwise.imp_of_mem (fun {a b} ha hb hab e => hno ⟨a, b, hab, by simpa using hb, e⟩) (List.pairwise_lt_range))
        obtain ⟨i, j, hij, hj, e⟩ := this
        refine ih (x.take i ++ x.drop j) ?_ (fun c hc => ?_) ?_
        · rw [List.length_append, List.length_take, List.length_drop]; omega
        · rcases List.mem_append.mp hc with z | z
          · exact hx c (List.mem_of_mem_take z)
          · exact hx c (List.mem_of_mem_drop z)
        · rw [run_app, e, ← run_app, List.take_append_drop]
          exact he
  exact key x.length x (Nat.le_refl _) hx he
/-! ### the doubled machine -/
/-- each state stands twice -/
structure Dbl (cs : List Nat) (rows : List (List Int)) (ends : List Int) (rows2 : List (List Int)) (ends2 : List Int) : Prop where
  len : rows2.length = 2 * rows.length
  row : ∀ (s : Nat) row2, rows2[s]? = some row2 → row2.length = cs.length ∧ ∀ (i : Nat) g, row2[i]? = some g → ∃ b : Int, (b = 0 ∨ b = 1) ∧ g = (rows.getD (s % rows.length) []).getD i 0 + (rows.length : Int) * b
  fin : ends2 = ends ++ ends.map fun e => e + (rows.length : Int)
section
variable {cs : List Nat} {rows rows2 : List (List Int)} {ends ends2 : List Int}
theorem Dbl.nxt (D : Dbl cs rows ends rows2 ends2) (W : WfM cs rows ends) {s : Int} {c : Nat} (s0 : 0 ≤ s) (s1 : s < (rows2.length : Int)) (hc : c ∈ cs) : ∃ b : Int, (b = 0 ∨ b = 1) ∧ SS.nxt cs rows2 s c = SS.nxt cs rows (s % (rows.length : Int)) c + (rows.length : Int) * b := by
  have hl : s.toNat < rows2.length := by omega
  obtain ⟨h1, h2⟩ := D.row s.toNat rows2[s.toNat] (List.getElem?_eq_getElem hl)
  have hi : cs.idxOf c < rows2[s.toNat].length := by rw [h1]; exact List.idxOf_lt_length_of_mem hc
  obtain ⟨b, hb, e⟩ := h2 _ _ (List.getElem?_eq_getElem hi)
  refine ⟨b, hb, ?_⟩
  have e1 : SS.nxt cs rows2 s c = rows2[s.toNat][cs.idxOf c] := by
    show (rows2.getD s.toNat []).getD (cs.idxOf c) 0 = _
    rw [List.getD_eq_getElem?_getD, List.getD_eq_getElem?_getD, List.getElem?_eq_getElem hl]
    show (rows2[s.toNat][cs.idxOf c]?).getD 0 = _
    rw [List.getElem?_eq_getElem hi]
    rfl
  have e2 : (s % (rows.length : Int)).toNat = s.toNat % rows.length := by
    obtain ⟨n, rfl⟩ := Int.eq_ofNat_of_zero_le s0
    rw [← Int.natCast_emod, Int.toNat_natCast, Int.toNat_natCast]
  rw [e1, e]
  show _ = (rows.getD (s % (rows.length : Int)).toNat []).getD (cs.idxOf c) 0 + _
  rw [e2]
theorem Dbl.wf (D : Dbl cs rows ends rows2 ends2) (W : WfM cs rows ends) (h5 : rows.length ≤ 5) : WfM cs rows2 ends2 := by
  have h1 := W.one
  have hl := D.len
  refine ⟨by omega, by omega, fun row hrow => ?_, ?_, fun e he => ?_⟩
  · obtain ⟨s, hs, rfl⟩ := List.getElem_of_mem hrow
    obtain ⟨r1, r2⟩ := D.row s _ (List.getElem?_eq_getElem hs)
    refine ⟨r1, fun g hg => ?_⟩
    obtain ⟨i, hi, rfl⟩ := List.getElem_of_mem hg
    obtain ⟨b, hb, e⟩ := r2 i _ (List.getElem?_eq_getElem hi)
    have hm : s % rows.length < rows.length := Nat.mod_lt _ (by omega)
    obtain ⟨w1, w2⟩ := W.row rows[s % rows.length] (List.getElem_mem hm)
    have hi' : i < rows[s % rows.length].length := by omega
    have e3 : (rows.getD (s % rows.length) []).getD i 0 = rows[s % rows.length][i] := by
      rw [List.getD_eq_getElem?_getD, List.getD_eq_getElem?_getD, List.getElem?_eq_getElem hm]
      show (rows[s % rows.length][i]?).getD 0 = _
      rw [List.getElem?_eq_getElem hi']
      rfl
    have := w2 _ (List.getElem_mem hi')
    rw [e, e3]
    rcases hb with rfl | rfl <;> omega
  · rw [D.fin]
    refine List.nodup_append.mpr ⟨W.nd, List.pairwise_map.mpr (W.nd.imp fun {a b} h e => h (by omega)), fun a ha b hb e => ?_⟩
    obtain ⟨u, hu, rfl⟩ := List.mem_map.mp hb
    have w1 := W.fin a ha
    have w2 := W.fin u hu
    omega
  · rw [D.fin] at he
    rcases List.mem_append.mp he with z | z
    · have := W.fin e z; omega
    · obtain ⟨u, hu, rfl⟩ := List.mem_map.mp z
      have := W.fin u hu; omega
theorem Dbl.mem (D : Dbl cs rows ends rows2 ends2) (W : WfM cs rows ends) {s : Int} (s0 : 0 ≤ s) (s1 : s < (rows2.length : Int)) : s ∈ ends2 ↔ s % (rows.length : Int) ∈ ends := by
  have h1 := W.one
  have hl := D.len
  have hcase : s % (rows.length : Int) = s ∧ s < (rows.length : Int) ∨ s % (rows.length : Int) = s - (rows.length : Int) ∧ (rows.length : Int) ≤ s := by
    by_cases h : s < (rows.length : Int)
    · exact .inl ⟨Int.emod_eq_of_lt s0 h, h⟩
    · refine .inr ⟨?_, by omega⟩
      have h2 : s = (s - (rows.length : Int)) + (rows.length : Int) := by omega
      rw [h2, Int.add_emod_right, Int.emod_eq_of_lt (by omega) (by omega)]
      omega
  rw [D.fin, List.mem_append, List.mem_map]
  rcases hcase with ⟨e, h⟩ | ⟨e, h⟩
  · rw [e]
    constructor
    · rintro (z | ⟨u, hu, z⟩)
      · exact z
      · have := W.fin u hu; omega
    · exact .inl
  · rw [e]
    constructor
    · rintro (z | ⟨u, hu, z⟩)
      · have := W.fin s z; omega
      · have : s - (rows.length : Int) = u := by omega
        rw [this]; exact hu
    · intro z
      exact .inr ⟨_, z, by omega⟩
theorem Dbl.run (D : Dbl cs rows ends rows2 ends2) (W : WfM cs rows ends) (h5 : rows.length ≤ 5) : ∀ (x : List Nat) (s : Int), 0 ≤ s → s < (rows2.length : Int) → (∀ c ∈ x, c ∈ cs) → SS.run cs rows2 s x % (rows.length : Int) = SS.run cs rows (s % (rows.length : Int)) x
  | [], s, _, _, _ => rfl
  | c :: x, s, s0, s1, hx => by
    have hc := hx c List.mem_cons_self
    have h1 := W.one
    obtain ⟨_, _, _, _, n0, n1⟩ := (D.wf W h5).nxt_ok s0 s1 hc
    have ih := D.run W h5 x _ n0 n1 fun d hd => hx d (List.mem_cons_of_mem _ hd)
    show SS.run cs rows2 (SS.nxt cs rows2 s c) x % (rows.length : Int) = SS.run cs rows (SS.nxt cs rows (s % (rows.length : Int)) c) x
    rw [ih]
    obtain ⟨b, hb, e⟩ := D.nxt W s0 s1 hc
    have m0 : 0 ≤ s % (rows.length : Int) := Int.emod_nonneg _ (by omega)
    have m1 : s % (rows.length : Int) < (rows.length : Int) := Int.emod_lt_of_pos _ (by omega)
    obtain ⟨_, _, _, _, k0, k1⟩ := W.nxt_ok m0 m1 hc
    have : SS.nxt cs rows2 s c % (rows.length : Int) = SS.nxt cs rows (s % (rows.length : Int)) c := by
      rw [e, Int.add_mul_emod_self_left]
      exact Int.emod_eq_of_lt k0 k1
    rw [this]
theorem Dbl.acc (D : Dbl cs rows ends rows2 ends2) (W : WfM cs rows ends) (h5 : rows.length ≤ 5) {x : List Nat} {s : Int} (s0 : 0 ≤ s) (s1 : s < (rows2.length : Int)) (hx : ∀ c ∈ x, c ∈ cs) : SS.run cs rows2 s x ∈ ends2 ↔ SS.run cs rows (s % (rows.length : Int)) x ∈ ends := by
  obtain ⟨r0, r1⟩ := (D.wf W h5).run_ok x s s0 s1 hx
  rw [D.mem W r0 r1, D.run W h5 x s s0 s1 hx]
theorem cover_small {m : Nat} {fd : List Int} (h : rows.length ≤ m) (O : Order cs rows fd) : Cover m cs rows ends fd :=
  ⟨fd, Nat.le_trans (nodup_len _ _ O.nd O.rg) h, fun s hs => hs, fun p hp => ⟨p, hp, fun n x _ _ => Iff.rfl⟩⟩
theorem Dbl.cover (D : Dbl cs rows ends rows2 ends2) (W : WfM cs rows ends) (h5 : rows.length ≤ 5) {fd : List Int} (O : Order cs rows2 fd) : Cover 5 cs rows2 ends2 fd := by
  have h1 := W.one
  refine ⟨(List.range rows.length).filterMap fun (r : Nat) => fd.find? fun s => decide (s % (rows.length : Int) = (r : Int)), ?_, fun s hs => ?_, fun p hp => ?_⟩
  · refine Nat.le_trans (List.length_filterMap_le _ _) ?_
    rw [List.length_range]; exact h5
  · obtain ⟨r, _, e⟩ := List.mem_filterMap.mp hs
    exact List.mem_of_find?_eq_some e
  · have m0 : 0 ≤ p % (rows.length : Int) := Int.emod_nonneg _ (by omega)
    have m1 : p % (rows.length : Int) < (rows.length : Int) := Int.emod_lt_of_pos _ (by omega)
    have hr : (((p % (rows.length : Int)).toNat : Nat) : Int) = p % (rows.length : Int) := Int.toNat_of_nonneg m0
    cases ef : fd.find? fun s => decide (s % (rows.length : Int) = (((p % (rows.length : Int)).toNat : Nat) : Int)) with
    | none => exact absurd (List.find?_eq_none.mp ef p hp) (by simp [hr])
    | some s =>
      have hs := List.mem_of_find?_eq_some ef
      have es : s % (rows.length : Int) = p % (rows.length : Int) := by
        have := List.find?_some ef
        rw [hr] at this
        exact of_decide_eq_true this
      refine ⟨s, List.mem_filterMap.mpr ⟨(p % (rows.length : Int)).toNat, List.mem_range.mpr (by omega), ef⟩, fun n x hx _ => ?_⟩
      obtain ⟨a0, a1⟩ := O.rg p hp
      obtain ⟨b0, b1⟩ := O.rg s hs
      rw [D.acc W h5 a0 a1 hx, D.acc W h5 b0 b1 hx, es]
end
end SS

set_option maxRecDepth 100000
set_option maxHeartbeats 4000000
namespace SR
open PySem PySem.Spec PyProof.Rows L2
/-! A def's promise where no repr is under way: what repr of lists and dicts asks. -/
structure FnG (P : Program) (w : World) (K : PySem.W.Frag) (mg : Str → Option Value) (base : Heap) (k : Nat) (f : Addr) (fd : FuncData) (ps : List Str) (sp : Sp) : Prop where
  len : ∀ vs H Q E, sp vs H Q E → vs.length = ps.length
  run : ∀ (A : Around) (outer : List Env) (s : Shared) (H : Hp) (args : Args) (us : List Value) (vs : List V) (Q : VK) (E : XK), Room k A → A.guards = some [] → Env0 P w K mg base A outer s H → BindsTo s fd args (ps.zip us) → Vals vs us → sp vs H Q E →
    codeAny (model P w) A (.call (.ref f) args) (CR CX0 outer P w H s Q E) s
theorem FnG.of {P : Program} {w : World} {K : PySem.W.Frag} {mg : Str → Option Value} {base : Heap} {k : Nat} {f : Addr} {fd : FuncData} {ps : List Str} {sp : Sp} (F : FnOk P w K mg base CX0 k f fd ps sp) : FnG P w K mg base k f fd ps sp :=
  ⟨F.len, fun A outer s H args us vs Q E hr _ => F.run A outer s H args us vs Q E hr⟩
theorem FnG.mono {P : Program} {w : World} {K : PySem.W.Frag} {mg : Str → Option Value} {base : Heap} {j k : Nat} {f : Addr} {fd : FuncData} {ps : List Str} {sp : Sp} (F : FnG P w K mg base j f fd ps sp) (h : j ≤ k) : FnG P w K mg base k f fd ps sp :=
  ⟨F.len, fun A outer s H args us vs Q E hr => F.run A outer s H args us vs Q E (hr.mono h)⟩
/-- a def by its body; hgd: no repr is under way -/
theorem okG {P : Program} {w : World} {K : PySem.W.Frag} {mg : Str → Option Value} {base : Heap} {x qual : Str} {st : Stmt} {f : Addr} {fd : FuncData} {N ps : List Str} {k : Nat} {sp : Sp} (F : Fun K x qual st f fd) (S : FnScope N ps (defScope st)) (len : ∀ vs H Q E, sp vs H Q E → vs.length = ps.length)
    (hbody : ∀ (cdv : Value) (A : Around) (outer : List Env) (s : Shared) (H : Hp) (vs : List V) (Q : VK) (E : XK), Room k (A.deeper (envOfC qual (defScope st) s.heap.objs.size f cdv)) → (A.deeper (envOfC qual (defScope st) s.heap.objs.size f cdv)).guards = some [] → sp vs H Q E →
      ∃ t, PSs (cxOf CX0 P w K mg base N qual (defScope st) f cdv A outer s H E).nox (defBody st) t ∧ t { nx := fun _ H' => Q .non H', rt := Q } (L2.start N vs) H) : FnG P w K mg base (k + 1) f fd ps sp := by
  obtain ⟨oc, od, kV, doc, pm, an, cdv, ct, osl, rfl, lk, hcd⟩ := F.ex
  refine ⟨len, fun A outer s H args us vs Q E hr hg e0 hb r hsp => ?_⟩
  have inK : K.In s.heap := e0.mod.kin.keeps fun b o e => (e0.bs b o e).1
  have noL : s.heap.NoLimit := e0.mod.nolimit.keeps fun b o e => (e0.bs b o e).1
  refine codeAny_call_function hr.depth (inK _ _ lk) rfl S.co S.gen rfl (PySem.W.codeRec_of inK hcd) (hb _ _ _ _ (wpAny_newFunctionEnv_cells S.kind ?_ ?_))
  · rintro ⟨n, v⟩ hy
    exact (S.par n (List.of_mem_zip hy).1).elim .inl fun q => .inr ⟨q, PySem.W.cellsFrom_some _ _ _ (.inl q)⟩
  · intro env he s1 new
    subst he
    obtain ⟨t, ht, hq⟩ := hbody cdv A outer s H vs Q E (hr.deeper _) hg hsp
    have I : Inv (cxOf CX0 P w K mg base N qual (defScope st) f cdv A outer s H E) [] (L2.start N vs) H s1 := inv_start S hr.hd e0 (len _ _ _ _ hsp) r new
    refine ⟨noL.keeps new.toInCall.keep, codeAny_func (wpAny_mono (ht.nox.run [] s1 (L2.start N vs) H _ I hq) (fun fl s' hs => ?_) fun e s' hs => hs)⟩
    cases fl with
    | ret u =>
      obtain ⟨v, σ', H', J, rv, q⟩ := hs
      exact ⟨v, H', J.os, J.bare, J.base, J.hok, rv, q⟩
    | next =>
      obtain ⟨σ', H', J, q⟩ := hs
      exact ⟨V.non, H', J.os, J.bare, J.base, J.hok, rfl, q⟩
    | brk => exact hs.elim fun _ z => z.elim fun _ z => z.2.elim
    | cont => exact hs.elim fun _ z => z.elim fun _ z => z.2.elim
section
variable {X : Cx} {k : Nat} {f : Addr} {fd : FuncData} {ps : List Str} {sp : Sp}
theorem run_fnG {pins : List (Addr × Obj)} {σ : L2.St} {H : Hp} {s : Shared} {Q : VK} {us : List Value} {vs : List V} (F : FnG X.prog X.w X.K X.mg X.base k f fd ps sp) (hr : Room k X.A) (hg : X.A.guards = some []) (hb : Binds X.K fd ps [])
    (I : Inv X pins σ H s) (r : Vals vs us) (h : sp vs H Q E0) : wpAny (model X.prog X.w) X.A (call (.ref f) us) (EP X pins σ Q) X.xe s := by
  have hl : us.length = ps.length := by rw [← r.length]; exact F.len _ _ _ _ h
  have b := hb s us I.kIn (by simpa using hl)
  rw [List.append_nil] at b
  refine wpAny_call (codeAny_mono (F.run X.A X.stack s H ⟨us, []⟩ us vs Q E0 hr hg I.env0 b r h) fun r s' hq => ?_)
  cases r with
  | error e => exact pass0 pins σ H s e s' I hq
  | ok fl =>
    cases fl with
    | ret u => exact I.after hq
    | next => exact False.elim hq
    | brk => exact False.elim hq
    | cont => exact False.elim hq
/-- a def of the top that may be called where no repr is under way -/
structure CalG (P : Program) (w : World) (K : PySem.W.Frag) (mg : Str → Option Value) (base : Heap) (x : Str) (k : Nat) (ps : List Str) (sp : Sp) : Prop where
  ex : ∃ f fd, FnG P w K mg base k f fd ps sp ∧ mg x = some (.ref f) ∧ PySem.W.keepIn K (.ref f) = true ∧ Binds K fd ps []
theorem pe_calG {x : Str} {e : Expr} {es : List Expr} {t : TA} {p pos : Pos} (C : CalG X.prog X.w X.K X.mg X.base x k ps sp) (hr : Room k X.A) (hgd : X.A.guards = some []) (ha : PA X (e :: es) t) (hg : Gl X x := by rfl) (hdb : (x == ("__debug__" : Str)) = false := by decide)
    (he : starEach (e :: es) X.env = (false, eval e X.env) :: starEach es X.env := by rfl) (hpl : (backTo pos (starEach es X.env)).any (·.1) = false := by rfl) : PE X (.Call (.Name x p) (e :: es) [] pos) (tCall sp [] E0 t) := by
  obtain ⟨f, fd, F, m, kp, b⟩ := C.ex
  refine ⟨fun pins s σ H Q I h => wpAny_Call_Name_kw (ld_glob I hg m (PySem.W.callWith_K (h₀ := X.base) I.ok.mod.kin kp (thn (ha.run pos pins s σ H _ I h) fun us s1 ⟨vs, H1, I1, r, q⟩ => ⟨I1.kIn, ?_⟩) he hpl) hdb)⟩
  have q' : sp (vs ++ []) H1 Q E0 := q
  rw [List.append_nil] at q'
  exact run_fnG F hr hgd b I1 r q'
/-! ### repr of data: None, flags, ints, texts, lists, tuples -/
def rReprD (K : PySem.W.Frag) : List V → Hp → VK → Prop := fun xs H Q => ∃ a d, xs = [.ref a] ∧ Dp K H (.ref a) d ∧ d.showable = true ∧ d.hasDict = false ∧ d.depth ≤ 64 ∧ d.shown.length ≤ sizeLine ∧ Q (.str d.shown) H
theorem call_reprD (hgd : X.A.guards = some []) (hu : X.A.units + 65 < cLine) : CallR X (.builtin "repr") (rReprD X.K) := by
  intro pins s σ H xs us Q I r h
  obtain ⟨a, d, rfl, hd, hs, hn, hdp, hz, q⟩ := h
  obtain ⟨u, rfl, rx⟩ := vals1 r
  obtain ⟨as, rd⟩ := Dp.reads I d _ u hd rx
  obtain rfl : u = Value.ref a := rx
  refine repr_of_reads' rd hs (fun z => by rw [hn] at z; cases z) hgd (by omega) (fun _ _ e => e) (fun h' t tk k => ?_) hz
  exact ⟨.str d.shown, H, I.kept (t' := tk) k, ⟨t, rfl⟩, q⟩
end
end SR

set_option maxRecDepth 100000
set_option maxHeartbeats 4000000
namespace SR
open PySem PySem.Spec PyProof.Rows L2
/-- the law's call, its promise given where no repr is under way -/
theorem law_callG {P : Program} {w : World} {K : PySem.W.Frag} {mg mb : Str → Option Value} {k : Nat} {fa a : Addr} {fd : FuncData} {x : Str} {sp : Sp} {s1 : Shared} {vs : List Value} {ns : List Int}
    (KX : K.In s1.heap) (gns : s1.heap.Ns mainGlobals mg) (bns : s1.heap.Ns builtinsNs mb) (bis : ∀ x : Str, x ≠ "__name__" → mb x = bootBuiltins x) (lim : s1.heap.NoLimit) (g0 : s1.gens = #[])
    (ha : s1.heap.get? a = some { cls := .type "list", data := .seq vs.toArray }) (hi : IntsAre vs ns) (hl : ns.length ≤ sizeLine) (hr : Room k callerA)
    (F : ∀ base : Heap, K.In base → base.Ns mainGlobals mg → FnG P w K mg base k fa fd [x] sp) (hbind : ∀ (s : Shared) (u : Value), BindsTo s fd ⟨[u], []⟩ [(x, u)])
    (hsp : ∀ H : Hp, SqL K H a (ns.map V.int) → sp [.ref a] H (fun v _ => v = .bl true) E0) :
    codeAny (model P w) callerA (.call (.ref fa) ⟨[.ref a], []⟩) (fun r s' => r = .ok (.ret (.bool true)) ∧ OldK s1.heap s'.heap ∧ s'.os = s1.os ∧ AllBare s'.gens) s1 := by
  have core : ∀ H : Hp, SqL K H a (ns.map V.int) → HOk P w H s1.heap → (∀ b u, H b = some u → b = a ∧ K.lookup a = none ∧ ∃ ob xs, u = .frz ob (.lst xs)) →
      codeAny (model P w) callerA (.call (.ref fa) ⟨[.ref a], []⟩) (fun r s' => r = .ok (.ret (.bool true)) ∧ OldK s1.heap s'.heap ∧ s'.os = s1.os ∧ AllBare s'.gens) s1 := by
    intro H hS ok only
    have free : ∀ {b : Addr} {o : Obj}, s1.heap.get? b = some o → (b = a → False) → (hidT s1.heap H).get? b = some o := fun {b o} e n => hidT_get e (by
      cases z : H b with
      | none => rfl
      | some u => exact (n (only b u z).1).elim)
    have notD : ∀ {b : Addr} {o : Obj} {es : Array DictEntry} {ep : Nat}, s1.heap.get? b = some o → o.data = .dict es ep → b = a → False := fun {b o es ep} e d z => by
      subst z
      rw [ha] at e
      cases e
      cases d
    have ns' : ∀ {b : Addr} {m : Str → Option Value}, s1.heap.Ns b m → (hidT s1.heap H).Ns b m := fun {b m} ⟨o, es, ep, e, d, r⟩ => ⟨o, es, ep, free e (notD e d), d, r⟩
    have kin : K.In (hidT s1.heap H) := fun b o e => hidT_get (KX b o e) (by
      cases z : H b with
      | none => rfl
      | some u =>
        obtain ⟨z1, z2, _⟩ := only b u z
        rw [z1, z2] at e
        cases e)
    have md : Mod K mg (hidT s1.heap H) := ⟨kin, ns' gns, ⟨mb, ns' bns, bis⟩, let ⟨mc, h1, h2⟩ := lim; ⟨mc, ns' h1, h2⟩⟩
    have en : Env0 P w K mg (hidT s1.heap H) callerA [] s1 H := ⟨rfl, md, fun b o e => of_hidT e, Nat.le_of_eq (hidT_size _ _), trivial, fun b hb => absurd (show b ∈ ([] : List Addr) from hb) (by simp), ok, .of_eq g0⟩
    refine codeAny_mono ((F _ kin (ns' gns)).run callerA [] s1 H ⟨[.ref a], []⟩ [.ref a] [.ref a] _ _ hr rfl en (hbind s1 (.ref a)) (.cons rfl .nil) (hsp H hS)) fun r s' h => ?_
    cases r with
    | error e => exact False.elim h
    | ok fl =>
      cases fl with
      | next => exact False.elim h
      | brk => exact False.elim h
      | cont => exact False.elim h
      | ret u =>
        obtain ⟨v, H', os, bare, un, ok', rel, q⟩ := h
        obtain rfl : v = .bl true := q
        obtain rfl : u = Value.bool true := rel
        refine ⟨rfl, OldK.of_keep fun b o e => ?_, os, bare⟩
        cases z : H b with
        | none => exact un.keep b o e z (by intro z; exact absurd (show b ∈ ([] : List Addr) from z) (by simp)) (by simp)
        | some u =>
          obtain ⟨_, _, ob, xs, rfl⟩ := only b u z
          obtain ⟨e1, _⟩ := ok b _ z
          obtain ⟨e2, _⟩ := ok' b _ (un.frzs b ob _ z)
          rw [e] at e1
          cases e1
          exact e2
  have rv := vals_ints hi
  cases hk : K.lookup a with
  | some o =>
    have e := KX a o hk
    rw [ha] at e
    cases e
    exact core (fun _ => none) (.inr ⟨_, vs.toArray, _, hk, rfl, rfl, rfl, by rw [List.size_toArray, hi.length]; exact hl, by simpa using rv⟩) (fun b u z => nomatch z) (fun b u z => nomatch z)
  | none =>
    refine core (fun b => if b = a then some (.frz { cls := .type "list", data := .seq vs.toArray } (.lst (ns.map V.int))) else none) (.inl (.inr ⟨_, if_pos rfl⟩)) (fun b u z => ?_) (fun b u z => ?_)
    · revert z
      show (if b = a then some _ else none) = some u → _
      split
      · rename_i hb
        subst hb
        rintro ⟨⟩
        exact ⟨ha, by rw [List.length_map]; exact hl, vs, _, rv, ha⟩
      · rintro ⟨⟩
    · revert z
      show (if b = a then some _ else none) = some u → _
      split
      · rename_i hb
        rintro ⟨⟩
        exact ⟨hb, hk, _, _, rfl⟩
      · rintro ⟨⟩
theorem walk_ofG {l : PySem.W.OpenLaw} {n k : Nat} {q : Program} {loose : List Str} {XP : (Str → Option Value) → Heap → Prop} {YP : World → Heap → Prop} {d : DefRec} {K : Params → PySem.W.Frag} {sp : World → Sp} {x : Str}
    (hn : l.most = some n) (hn2 : n ≤ sizeLine) (hdf : d.params.defaults = []) (hr : Room k callerA) (hY : ∀ (w : World) (h : Heap), YP w h → (K w.params).In h)
    (F : ∀ (w : World) (mg : Str → Option Value) (fa : Addr) (h : Heap), (K w.params).In h → h.Ns mainGlobals mg → mg d.name = some (.ref fa) → ∃ fd : FuncData, (∀ (s : Shared) (u : Value), BindsTo s fd ⟨[u], []⟩ [(x, u)]) ∧
      ∀ base : Heap, (K w.params).In base → base.Ns mainGlobals mg → FnG l.prog w (K w.params) mg base k fa fd [x] (sp w))
    (hsp : ∀ (w : World) (H : Hp) (a : Addr) (ns : List Int), ns.length ≤ n → SqL (K w.params) H a (ns.map V.int) → sp w [.ref a] H (fun v _ => v = .bl true) E0) :
    PySem.W.WalkO q loose XP YP l.row.toRowW d [] (fun f vs => PySem.call f vs) := by
  refine Att.attach_call hn hdf fun w s0 s1 mg mb fa o pm cd doc a vs ns G Y ho hd hcd hmg hobj hints hlen hg => ?_
  obtain ⟨fd, hb, hF⟩ := F w mg fa _ (hY w _ Y) G.T.g hmg
  exact law_callG (hY w _ Y) G.T.g G.T.b G.T.builtins G.T.nolimit hg hobj hints (Nat.le_trans hlen hn2) hr hF hb fun H hS => hsp w H a ns hlen hS
end SR

set_option maxRecDepth 100000
set_option maxHeartbeats 4000000
namespace SR
open PySem PySem.Spec PyProof.Rows L2
/-! ### repr of a list of dicts from ints or texts to ints -/
def keyD : Key → PyData
  | .inl i => .int i
  | .inr x => .str x
def dD (kvs : List (Key × Int)) : PyData := .dict (kvs.map fun p => (keyD p.1, .int p.2))
def dV (kvs : List (Key × Int)) : List (Key × V) := kvs.map fun p => (p.1, V.int p.2)
def lD (kvss : List (List (Key × Int))) : PyData := .list (kvss.map dD)
section
variable {X : Cx} {pins : List (Addr × Obj)} {σ : L2.St} {H : Hp} {s : Shared}
theorem key_reads {k : Key} {v : Value} {h : Heap} (e : keyIs k v = true) : Reads h v (keyD k) [] := by
  rcases keyIs_shape e with ⟨i, t, rfl, rfl⟩ | ⟨x, t, rfl, rfl⟩
  · exact .int i t
  · exact .str x t
theorem pairs_reads {P : Program} {w : World} {h : Heap} : ∀ {es : List DictEntry} {vs : List (Key × Value)} {kvs : List (Key × Int)}, Pairs (mixKind P w) es vs → KV (dV kvs) vs →
    ReadsAll h (es.map (·.key)) ((kvs.map fun p => (keyD p.1, PyData.int p.2)).map (·.1)) [] ∧ ReadsAll h (es.map (·.val)) ((kvs.map fun p => (keyD p.1, PyData.int p.2)).map (·.2)) []
  | _, _, [], .nil, _ => ⟨.nil, .nil⟩
  | _, _, [], .cons _ _ _, r => by cases r
  | _, _, p :: kvs, .nil, r => by cases r
  | e :: es, kv :: vs, p :: kvs, .cons h1 h2 h3, r => by
    have r' : Paired (fun (p : Key × V) (q : Key × Value) => p.1 = q.1 ∧ RelV p.2 q.2) ((p.1, V.int p.2) :: dV kvs) (kv :: vs) := r
    cases r' with
    | cons a b =>
      obtain ⟨i1, i2⟩ := pairs_reads (h := h) h3 b
      obtain ⟨a1, a2⟩ := a
      have a1' : p.1 = kv.1 := a1
      obtain ⟨t, ht⟩ : ∃ t, kv.2 = Value.int p.2 t := a2
      have k1 : Reads h e.key (keyD p.1) [] := key_reads (by rw [a1']; exact h1)
      have k2 : Reads h e.val (.int p.2) [] := by rw [h2, ht]; exact .int _ _
      exact ⟨.cons (as := []) (bs := []) k1 i1, .cons (as := []) (bs := []) k2 i2⟩
theorem dict_reads (I : Inv X pins σ H s) {q : Addr} {kvs : List (Key × Int)} (h : H q = some (.dK (dV kvs))) : ∃ as, Reads s.heap (.ref q) (dD kvs) as ∧ sysModules ∉ as := by
  obtain ⟨_, hd, vs, rel, o, es, ep, ho, hx, hdat, _, hp, _⟩ := dk_of I.hok h
  obtain ⟨i1, i2⟩ := pairs_reads (h := s.heap) hp rel
  refine ⟨_, .dict ho hx.1 hdat i1 i2, fun hm => ?_⟩
  have : sysModules = q := by simpa using hm
  rw [← this] at hd
  simp at hd
def DictsAt (H : Hp) (qs : List Addr) (kvss : List (List (Key × Int))) : Prop := Paired (fun q kvs => H q = some (.dK (dV kvs))) qs kvss
theorem dicts_reads (I : Inv X pins σ H s) {qs : List Addr} {kvss : List (List (Key × Int))} (h : DictsAt H qs kvss) : ∀ {us : List Value}, Vals (qs.map V.ref) us → ∃ as, ReadsAll s.heap us (kvss.map dD) as ∧ sysModules ∉ as := by
  unfold DictsAt at h
  induction h with
  | nil =>
    intro us r
    cases r
    exact ⟨[], .nil, by simp⟩
  | @cons q kvs qs kvss hq _ ih =>
    intro us r
    cases r with
    | cons r1 r2 =>
      rename_i u us
      obtain rfl : u = Value.ref q := r1
      obtain ⟨as, h1, n1⟩ := dict_reads I hq
      obtain ⟨bs, h2, n2⟩ := ih r2
      exact ⟨_, .cons h1 h2, fun hm => (List.mem_append.mp hm).elim n1 n2⟩
/-- the list repr's own call -/
theorem call_lD (I : Inv X pins σ H s) {A : Around} {a : Addr} {qs : List Addr} {kvss : List (List (Key × Int))} {Q : Value → Shared → Prop} {E : Value → Shared → Prop} (hl : SqL X.K H a (qs.map .ref)) (hp : DictsAt H qs kvss) (hs : (lD kvss).showable = true) (hz : (lD kvss).shown.length ≤ sizeLine)
    (hg : A.guards = some []) (hu : A.units + (lD kvss).depth < cLine) (hQ : ∀ h' u tk, (∀ b o, s.heap.get? b = some o → h'.get? b = some o) → Q (.str (lD kvss).shown u) { s with heap := h', toks := tk }) :
    s.TypeIs (.ref a) "list" ∧ wpAny (model X.prog X.w) A (call (.builtin "list.__repr__") [.ref a]) Q E s := by
  obtain ⟨its, rv, ⟨o, n, ho, hc, _, hdat⟩, _⟩ := I.list hl
  obtain ⟨as, hr, hno⟩ := dicts_reads I hp rv
  refine ⟨⟨o, ho, hc⟩, ?_⟩
  have hz' : (listText (PyData.shownAll (kvss.map dD))).length ≤ sizeLine := by simpa only [lD, PyData.shown] using hz
  have hQ' : ∀ h' u tk, (∀ b o, s.heap.get? b = some o → h'.get? b = some o) → Q (.str (listText (PyData.shownAll (kvss.map dD))) u) { s with heap := h', toks := tk } := by simpa only [lD, PyData.shown] using hQ
  have hsa : PyData.showableAll (kvss.map dD) = true := by simpa only [lD, PyData.showable] using hs
  have hu' : A.units + (PyData.depthAll (kvss.map dD) + 1) < cLine := by simpa only [lD, PyData.depth] using hu
  cases its with
  | nil =>
    have hn : kvss.map dD = [] := by
      generalize kvss.map dD = ds at hr
      cases hr
      rfl
    rw [hn] at hQ'
    exact call_list_repr_empty ⟨o, ho, hc⟩ ho hdat (hQ' s.heap _ _ fun _ _ e => e)
  | cons x its =>
    have whole : Reads s.heap (.ref a) (.list (kvss.map dD)) (a :: as) := .list ho hc hdat (by simpa using hr)
    obtain ⟨bs, hb, hk⟩ := ReprAllK.of_readsAll (prog := X.prog) (w := X.w) hr hsa (fun _ => hno) fun t ht => Nat.le_trans (listText_mem_le ht) hz'
    have hna : a ∉ bs := not_mem_of_deeper whole (by simp only [PyData.depth]; omega) hb
    exact call_list_reprK ho hc hdat hna (by simpa using hk.length_eq) (fun i y e => hk.item i y (by simpa using e)) hg (fun b _ => Clear.nil b) hu' (fun _ _ e => e) hQ' hz'
end
section
variable {X : Cx}
def rReprL (K : PySem.W.Frag) : List V → Hp → VK → Prop := fun xs H Q => ∃ a qs kvss, xs = [.ref a] ∧ SqL K H a (qs.map .ref) ∧ DictsAt H qs kvss ∧ (lD kvss).showable = true ∧ (lD kvss).depth ≤ 64 ∧ (lD kvss).shown.length ≤ sizeLine ∧ Q (.str (lD kvss).shown) H
theorem call_reprL (hgd : X.A.guards = some []) (hu : X.A.units + 66 < cLine) : CallR X (.builtin "repr") (rReprL X.K) := by
  intro pins s σ H xs us Q I r h
  obtain ⟨a, qs, kvss, rfl, hl, hp, hs, hdp, hz, q⟩ := h
  obtain ⟨u, rfl, rx⟩ := vals1 r
  obtain rfl : u = Value.ref a := rx
  obtain ⟨ty, hc⟩ := call_lD (A := X.A.in1) (E := X.xe) (Q := fun r s₁ => ∃ x t, r = .str x t ∧ EP X pins σ Q r s₁) I hl hp hs hz hgd (by show X.A.units + 1 + _ < cLine; omega) fun h' t tk k => ⟨_, _, rfl, .str (lD kvss).shown, H, I.kept (t' := tk) k, ⟨t, rfl⟩, q⟩
  exact call_repr_slot (by omega) ty PySem.F.slot_list_repr.toG hc
/-- {x!r} of a list of dicts -/
def tFmtL (K : PySem.W.Frag) (te : TE) : TE := fun σ H Q => te σ H fun x H1 => rReprL K [x] H1 Q
theorem pe_fmtL {e : Expr} {te : TE} {pos : Pos} (hgd : X.A.guards = some []) (hu : X.A.units + 66 < cLine) (he : PE X e te) : PE X (.FormattedValue e 114 none pos) (tFmtL X.K te) := by
  refine ⟨fun pins s σ H Q I h => ?_⟩
  refine wpAny_FormattedValue_repr (thn (he.run pins s σ H _ I h) fun v s1 hv => ?_)
  obtain ⟨x, H1, I1, r1, a, qs, kvss, ex, hl, hp, hs, hdp, hz, q⟩ := hv
  obtain rfl : x = .ref a := by cases ex; rfl
  obtain rfl : v = Value.ref a := r1
  obtain ⟨ty, hc⟩ := call_lD (A := X.A) (E := X.xe) (Q := fun r s₁ => ∃ x t, r = .str x t ∧ wpAny (model X.prog X.w) X.A (formatField r Str.empty) (EP X pins σ Q) X.xe s₁) I1 hl hp hs hz hgd (by omega) fun h' t tk k => ⟨_, _, rfl, wpAny_formatField_str ⟨.str (lD kvss).shown, H1, I1.kept (t' := tk) k, ⟨t, rfl⟩, q⟩ ⟨.str (lD kvss).shown, H1, (I1.kept (t' := tk) k).tok _, ⟨_, rfl⟩, q⟩ hz⟩
  exact wpAny_pyReprObj_slot (by omega) ty PySem.F.slot_list_repr.toG hc
/-- {x!r} of data without dicts -/
def tFmtD (K : PySem.W.Frag) (te : TE) : TE := fun σ H Q => te σ H fun x H1 => rReprD K [x] H1 Q
theorem pe_fmtD {e : Expr} {te : TE} {pos : Pos} (hgd : X.A.guards = some []) (hu : X.A.units + 66 < cLine) (he : PE X e te) : PE X (.FormattedValue e 114 none pos) (tFmtD X.K te) := by
  refine ⟨fun pins s σ H Q I h => ?_⟩
  refine wpAny_FormattedValue_repr (thn (he.run pins s σ H _ I h) fun v s1 hv => ?_)
  obtain ⟨x, H1, I1, r1, a, d, ex, hd, hs, hn, hdp, hz, q⟩ := hv
  obtain rfl : x = .ref a := by cases ex; rfl
  obtain ⟨as, rd⟩ := Dp.reads I1 d _ v hd r1
  obtain rfl : v = Value.ref a := r1
  refine pyReprObj_of_reads rd hs (fun z => by rw [hn] at z; cases z) hgd (by omega) (fun _ _ e => e) (fun h' t tk k => ?_) hz
  exact wpAny_formatField_str ⟨.str d.shown, H1, I1.kept (t' := tk) k, ⟨t, rfl⟩, q⟩ ⟨.str d.shown, H1, (I1.kept (t' := tk) k).tok _, ⟨_, rfl⟩, q⟩ hz
end
/-! ### an own method called by a built-in -/
section
variable {X : Cx}
/-- somewhere below the running body, no repr under way -/
theorem own_run {n : Nat} {f : Addr} {fd : FuncData} {ps : List Str} {sp : Sp} (F : FnG X.prog X.w X.K X.mg X.base n f fd ps sp) {A : Around} (sb : Sub X n A) (hgd : A.guards = some []) (hb : Binds X.K fd ps [])
    {pins : List (Addr × Obj)} {s : Shared} {σ : L2.St} {H : Hp} {vs : List V} {us : List Value} {q : V → Hp → Prop} (I : Inv X pins σ H s) (r : Vals vs us) (hq : sp vs H q E0) : wpAny (model X.prog X.w) A (call (.ref f) us) (EP X pins σ q) X.xe s := by
  have hl : us.length = ps.length := by rw [← r.length]; exact F.len _ _ _ _ hq
  have e0 : Env0 X.prog X.w X.K X.mg X.base A X.stack s H := by
    have e := I.env0
    exact ⟨by rw [sb.fr]; exact e.frames, e.mod, e.bs, e.bsz, e.funs, e.frf, e.hok, e.bare⟩
  have b := hb s us I.kIn (by simpa using hl)
  rw [List.append_nil] at b
  refine wpAny_call (codeAny_mono (F.run A X.stack s H ⟨us, []⟩ us vs _ E0 sb.room hgd e0 b r hq) fun r s' hz => ?_)
  cases r with
  | error e => exact pass0 pins σ H s e s' I hz
  | ok fl =>
    cases fl with
    | ret v => exact I.after hz
    | next => exact False.elim hz
    | brk => exact False.elim hz
    | cont => exact False.elim hz
/-- repr(o), by its own __repr__ -/
def rOwnRepr (C : Addr) (sp : Sp) : List V → Hp → VK → Prop := fun xs H Q => ∃ a dx fs, xs = [.ref a] ∧ H a = some (.ins C dx fs) ∧ sp [.ref a] H (fun v H' => ∃ y, v = .str y ∧ Q (.str y) H') E0
theorem call_ownRepr {n : Nat} {C f : Addr} {fd : FuncData} {ps : List Str} {sp : Sp} (F : FnG X.prog X.w X.K X.mg X.base n f fd ps sp) (hr : Room (n + 1) X.A) (hgd : X.A.guards = some [])
    (hs : PySem.W.findIn X.K (.ref C) "__repr__" = some (some (.ref f))) (hf : PySem.W.isFn X.K (.ref f) = true) (hb : Binds X.K fd ps []) : CallR X (.builtin "repr") (rOwnRepr C sp) := by
  intro pins s σ H xs us Q I r h
  obtain ⟨a, dx, fs, rfl, ha, hq⟩ := h
  obtain ⟨u, rfl, rx⟩ := vals1 r
  obtain rfl : u = Value.ref a := rx
  obtain ⟨mA, J, _⟩ := ins_get I.hok ha
  obtain ⟨od, J, _⟩ := J.look
  obtain ⟨m, hF⟩ := I.fr
  have sb : Sub X n X.A.in1 := Sub.in1 ⟨hr, rfl⟩
  refine PySem.W.repr_K sb.room.units0 hF I.ok.mod.kin J hs hf (wpAny_mono (own_run (vs := [.ref a]) F sb hgd hb I (.cons rfl .nil) hq) (fun z s' hz => ?_) fun _ _ e => e)
  obtain ⟨b', H', I', rb, y, rfl, hQ⟩ := hz
  obtain ⟨t, rfl⟩ := rb
  exact ⟨.str y, H', I', ⟨t, rfl⟩, hQ⟩
/-- len(o), by its own __len__ -/
def rOwnLen (C : Addr) (sp : Sp) : List V → Hp → VK → Prop := fun xs H Q => ∃ a dx fs, xs = [.ref a] ∧ H a = some (.ins C dx fs) ∧ sp [.ref a] H (fun v H' => ∃ i : Int, v = .int i ∧ 0 ≤ i ∧ i < 1000000 ∧ Q (.int i) H') E0
theorem call_ownLen {n : Nat} {C f : Addr} {fd : FuncData} {ps : List Str} {sp : Sp} (F : FnG X.prog X.w X.K X.mg X.base n f fd ps sp) (hr : Room (n + 1) X.A) (hgd : X.A.guards = some [])
    (hs : PySem.W.findIn X.K (.ref C) "__len__" = some (some (.ref f))) (hf : PySem.W.isFn X.K (.ref f) = true) (hb : Binds X.K fd ps []) : CallR X (.builtin "len") (rOwnLen C sp) := by
  intro pins s σ H xs us Q I r h
  obtain ⟨a, dx, fs, rfl, ha, hq⟩ := h
  obtain ⟨u, rfl, rx⟩ := vals1 r
  obtain rfl : u = Value.ref a := rx
  obtain ⟨mA, J, _⟩ := ins_get I.hok ha
  obtain ⟨od, J, _⟩ := J.look
  obtain ⟨m, hF⟩ := I.fr
  have sb : Sub X n X.A.in1 := Sub.in1 ⟨hr, rfl⟩
  refine PySem.W.len_K hF I.ok.mod.kin J hs hf (wpAny_mono (own_run (vs := [.ref a]) F sb hgd hb I (.cons rfl .nil) hq) (fun z s' hz => ?_) fun _ _ e => e)
  obtain ⟨b', H', I', rb, i, rfl, h0, h1, hQ⟩ := hz
  obtain ⟨t, rfl⟩ := rb
  exact ⟨⟨h0, Int.lt_trans h1 (by decide)⟩, .int i, H', I'.tok _, ⟨_, rfl⟩, hQ⟩
/-- o.m(k = v, ..) -/
def tMethK (C : Addr) (m : Str) (n : Nat) (sp : Sp) (gV : List V → List V → List V) (E : XK) (ta : TE) (tk : TA) : TE := fun σ H Q => ta σ H fun x H1 => ∃ a dx fs, x = .ref a ∧ H1 a = some (.ins C dx fs) ∧ fs.lookup m = none ∧ tk σ H1 fun zs H2 => zs.length = n ∧ sp (gV [.ref a] zs) H2 Q E
theorem pe_methK0 {CX : CXT} {k : Nat} {C f : Addr} {fd : FuncData} {ps ks : List Str} {sp : Sp} {E : XK} {m : Str} {o : Expr} {kws : List Keyword} {ta : TE} {tk : TA} {g : List Value → List Value → List Value} {gV : List V → List V → List V} {pos apos : Pos} {pl : Sem Bool}
    (he : PE X o ta) (c : Cls X.K C) (hm : Meth X.K C m f) (F : FnOk X.prog X.w X.K X.mg X.base CX k f fd ps sp) (hr : Room k X.A) (hb : KBn X.K fd ps 1 ks g gV) (hx : Passes CX X E) (hkw : PK X kws tk)
    (hall : (backToKw pos (keywordEach kws X.env)).all (·.1.isSome) = true := by rfl) (hks : (backToKw pos (keywordEach kws X.env)).filterMap (·.1) = ks := by rfl)
    (hpl : ((backTo pos (starEach [] X.env)).any (·.1) || (backToKw pos (keywordEach kws X.env)).any (·.1.isNone)) = false := by rfl)
    (ht : eval (.Call (.Attribute o m apos) [] kws pos) X.env = (do
      let ov ← eval o X.env
      standAt apos.atName
      let (f, first) ← holding [ov] (getMethod ov m pl)
      callWith pos f first (backTo pos (starEach [] X.env)) (backToKw pos (keywordEach kws X.env))) := by rfl) :
    PE X (.Call (.Attribute o m apos) [] kws pos) (tMethK C m ks.length sp gV E ta tk) := by
  refine ⟨fun pins s σ H Q I h => ?_⟩
  refine PySem.W.methodCall_KW (pl := pl) (thn (he.run pins s σ H _ I h) fun u s1 ⟨x, H1, I1, rx, a, dx, fs, ex, ea, l, q⟩ => ?_) ht
  subst ex
  obtain rfl : u = Value.ref a := rx
  refine getmeth_ok I1 ea c hm l ?_
  refine PySem.W.callWith_KW0 (first := [.ref a]) (h₀ := X.base) I.ok.mod.kin hm.kp hall ?_ hpl
  refine thn (hkw.run pos pins s1 σ H1 _ I1 q) fun ws s2 ⟨zs, H2, I2, rz, l2, q2⟩ => ⟨I2.kIn, ?_⟩
  rw [hks]
  have r1 : Vals [V.ref a] [Value.ref a] := .cons rfl .nil
  refine wpAny_call (codeAny_mono (F.run X.A X.stack s2 H2 ⟨[.ref a] ++ [], ks.zip ws⟩ (g [.ref a] ws) (gV [.ref a] zs) Q E hr I2.env0 (hb.to _ [.ref a] ws I2.kIn rfl (rz.length.symm.trans l2)) (hb.rel r1 rz) q2) fun r s' hq => ?_)
  cases r with
  | error e => exact hx pins σ _ _ e s' I2 hq
  | ok fl =>
    cases fl with
    | ret u => exact I2.after hq
    | next => exact False.elim hq
    | brk => exact False.elim hq
    | cont => exact False.elim hq
end
/-! ### x != y by the own __eq__ -/
section
variable {prog : Program} {w : World} {A : Around} {E : Value → Shared → Prop} {s : Shared} {K : PySem.W.Frag} {x C L f : Addr} {h₀ : Heap} {m : Str → Option Value} {ox : Obj} {od : Option Obj}
theorem slot_ne_object : Slot "object" "__ne__" "object.__ne__" := PySem.F.cmp_object.ne
/-- object's own !=, bound for an instance -/
theorem ifBound_ne {args : List Value} {Q : Option Value → Shared → Prop} (X : K.In s.heap) (I : PySem.W.InstAt s.heap x ox C od) (hs : PySem.W.findIn K (.ref C) "__ne__" = some (some (.builtin "object.__ne__")))
    (h : wpAny (model prog w) A (call (.builtin "object.__ne__") (.ref x :: args)) (fun v => Q (some v)) E s) : wpAny (model prog w) A (callSpecialIfBound? (.ref x) "__ne__" args) Q E s := by
  simp only [callSpecialIfBound?, bindSpecialIfBound?]
  refine wpAny_holding (wpAny_bind (wpAny_bind (wpAny_bind (I.type.here ((PySem.W.looks_findIn X hs).here ?_)))))
  simp only [slot_ne_object.bind]
  refine wpAny_bind (wpAny_askSetting (wpAny_ite ?_))
  have fin : wpAny (model prog w) A (call (.builtin "object.__ne__") ([.ref x] ++ args) >>= fun v => pure (some v)) Q E s := wpAny_bind (wpAny_mono h (fun v s' h' => wpAny_pure h') fun _ _ h' => h')
  split
  · exact wpAny_bind (wpAny_pure (wpAny_pure fin))
  · exact wpAny_tryCatch (wpAny_bind (wpAny_pure (wpAny_pure fin)))
theorem check_ne {rest : List Value} {Q : Unit → Shared → Prop} {M : Model} (X : K.In s.heap) (I : PySem.W.InstAt s.heap x ox C od) (hsub : PySem.W.subIn K (.ref C) (.type "object") = some true) (ha : argsOk "object.__ne__" ⟨.ref x :: rest, []⟩) (hq : Q () s) :
    wpAny M A (checkBuiltinCall "object.__ne__" ⟨.ref x :: rest, []⟩) Q E s := by
  simp only [checkBuiltinCall, PySem.F.cmpKind_ne, PySem.F.cmpSplit_ne]
  refine wpAny_bind ?_
  unfold isInstance
  refine wpAny_bind (I.type.here ((PySem.W.looks_subIn X hsub).here ?_))
  simp only [Bool.not_true, Bool.false_eq_true, if_false]
  cases hsig : Manifest.signature? "object.__ne__" with
  | none => exact wpAny_pure hq
  | some sig =>
    simp only [argsOk, hsig] at ha
    have h2 : Bind.checkArgs "object.__ne__" sig ⟨.ref x :: rest, []⟩ = pure () := ha
    show wpAny M A (Bind.checkArgs "object.__ne__" sig ⟨.ref x :: rest, []⟩) Q E _
    rw [h2]; exact wpAny_pure hq
theorem body_ne {b : Value} (X : K.In s.heap) (I : PySem.W.InstAt s.heap x ox C od) (hs : PySem.W.findIn K (.ref C) "__eq__" = some (some (.ref f))) (hf : PySem.W.isFn K (.ref f) = true) (hu : A.units < cLine) {Q : Fin → Shared → Prop}
    (h : wpAny (model prog w) A (call (.ref f) [.ref x, b]) (fun v s' => ∃ r, v = .bool r ∧ Q (.done (.ret (.bool (!r)))) s') E s) : wpAny (model prog w) A (Builtin.«object.__ne__» ⟨[.ref x, b], []⟩) Q E s := by
  unfold Builtin.«object.__ne__»
  refine wpAny_bind (m := slotArgs "__ne__" 1 _) (wpAny_pure ?_)
  refine wpAny_bind (wpAny_cRoomFor hu ?_)
  refine wpAny_bind (m := callSpecialIfBound? (.ref x) (Str.ofString "__eq__") [b]) (PySem.W.ifBound_K X I hs hf (wpAny_mono h (fun v s' hv => ?_) fun _ _ e => e))
  obtain ⟨r, rfl, hq⟩ := hv
  exact wpAny_bind (m := truthy (.bool r)) (wpAny_truthy_bool (wpAny_pure hq))
theorem ne_K {b : Value} {Q : Value → Shared → Prop} (hu : A.units + 1 < cLine) (F : Fr h₀ L s.heap m) (X₀ : K.In h₀) (I : PySem.W.InstAt s.heap x ox C od) (hb : PySem.W.Looks (model prog w) s.heap (typeOf b) (.ref C))
    (hn : PySem.W.findIn K (.ref C) "__ne__" = some (some (.builtin "object.__ne__"))) (hsub : PySem.W.subIn K (.ref C) (.type "object") = some true)
    (hs : PySem.W.findIn K (.ref C) "__eq__" = some (some (.ref f))) (hf : PySem.W.isFn K (.ref f) = true)
    (h : wpAny (model prog w) A.in1 (call (.ref f) [.ref x, b]) (fun v s' => ∃ r, v = .bool r ∧ Q (.bool (!r)) s') E s) : wpAny (model prog w) A (richCompare .NotEq (.ref x) b) Q E s := by
  have X := X₀.keeps F.keep
  have one : wpAny (model prog w) A (tryCompare (.ref x) "__ne__" b) (fun r s' => ∃ v, r = some v ∧ Q v s') E s := by
    unfold tryCompare
    refine wpAny_bind (ifBound_ne X I hn (wpAny_call (codeAny_call_builtin slot_ne_object.plain PySem.F.cmpEntry_ne (check_ne X I hsub (PySem.F.cmpArgs_ne _ _) (body_ne (A := A.in1) X I hs hf hu (wpAny_mono h (fun v s' hv => ?_) fun _ _ e => e))))))
    obtain ⟨r, rfl, hq⟩ := hv
    exact ⟨r, rfl, wpAny_pure ⟨_, rfl, hq⟩⟩
  unfold richCompare
  simp only [oneThing_ref]
  refine wpAny_holding (wpAny_bind (wpAny_cRoomFor (Nat.lt_of_succ_lt hu) ?_))
  refine wpAny_bind (I.type.here (wpAny_bind (hb.here ?_)))
  rw [if_neg (by simp)]
  refine wpAny_bind (wpAny_pure ?_)
  simp only [Bool.false_eq_true, if_false]
  refine wpAny_bind (wpAny_mono one (fun r s' z => ?_) fun _ _ e => e)
  obtain ⟨v, rfl, hq⟩ := z
  exact wpAny_pure hq
end
section
variable {X : Cx}
/-- x == y, by the own __eq__ -/
def rOwnEq (C : Addr) (sp : Sp) (neg : Bool) : R2 := fun x y H Q => ∃ a b dx dy fs gs, x = .ref a ∧ y = .ref b ∧ H a = some (.ins C dx fs) ∧ H b = some (.ins C dy gs) ∧ sp [.ref a, .ref b] H (fun v H' => ∃ r, v = .bl r ∧ Q (.bl (if neg then !r else r)) H') E0
theorem op_eqOwn {n : Nat} {C f : Addr} {fd : FuncData} {ps : List Str} {sp : Sp} (F : FnG X.prog X.w X.K X.mg X.base n f fd ps sp) (hr : Room n X.A) (hgd : X.A.guards = some [])
    (hs : PySem.W.findIn X.K (.ref C) "__eq__" = some (some (.ref f))) (hf : PySem.W.isFn X.K (.ref f) = true) (hb : Binds X.K fd ps []) : OpR X (compareOp .Eq) (rOwnEq C sp false) := by
  intro pins s σ H x y v u Q I rx ry h
  obtain ⟨a, b, dx, dy, fs, gs, rfl, rfl, ha, hb', hq⟩ := h
  cases rx
  cases ry
  obtain ⟨mA, J, _⟩ := ins_get I.hok ha
  obtain ⟨mB, J', _⟩ := ins_get I.hok hb'
  obtain ⟨od, J, _⟩ := J.look
  obtain ⟨od', J', _⟩ := J'.look
  obtain ⟨m, hF⟩ := I.fr
  show wpAny (model X.prog X.w) X.A (richCompare .Eq (.ref a) (.ref b)) (EP X pins σ Q) X.xe s
  refine PySem.W.cmp_K (op := .Eq) (tb := .ref C) hr.units0 hF I.ok.mod.kin J J'.type (by simp [PySem.W.notFirst]) hs hf (wpAny_mono (own_run (vs := [.ref a, .ref b]) F ⟨hr, rfl⟩ hgd hb I (.cons rfl (.cons rfl .nil)) hq) (fun z s' hz => ?_) fun _ _ e => e)
  obtain ⟨b', H', I', rb, r, rfl, hQ⟩ := hz
  cases rb
  exact ⟨.bl r, H', I', rfl, hQ⟩
theorem op_neOwn {n : Nat} {C f : Addr} {fd : FuncData} {ps : List Str} {sp : Sp} (F : FnG X.prog X.w X.K X.mg X.base n f fd ps sp) (hr : Room (n + 1) X.A) (hgd : X.A.guards = some [])
    (hn : PySem.W.findIn X.K (.ref C) "__ne__" = some (some (.builtin "object.__ne__"))) (hsub : PySem.W.subIn X.K (.ref C) (.type "object") = some true)
    (hs : PySem.W.findIn X.K (.ref C) "__eq__" = some (some (.ref f))) (hf : PySem.W.isFn X.K (.ref f) = true) (hb : Binds X.K fd ps []) : OpR X (compareOp .NotEq) (rOwnEq C sp true) := by
  intro pins s σ H x y v u Q I rx ry h
  obtain ⟨a, b, dx, dy, fs, gs, rfl, rfl, ha, hb', hq⟩ := h
  cases rx
  cases ry
  obtain ⟨mA, J, _⟩ := ins_get I.hok ha
  obtain ⟨mB, J', _⟩ := ins_get I.hok hb'
  obtain ⟨od, J, _⟩ := J.look
  obtain ⟨od', J', _⟩ := J'.look
  obtain ⟨m, hF⟩ := I.fr
  have sb : Sub X n X.A.in1 := Sub.in1 ⟨hr, rfl⟩
  show wpAny (model X.prog X.w) X.A (richCompare .NotEq (.ref a) (.ref b)) (EP X pins σ Q) X.xe s
  refine ne_K sb.room.units0 hF I.ok.mod.kin J J'.type hn hsub hs hf (wpAny_mono (own_run (vs := [.ref a, .ref b]) F sb hgd hb I (.cons rfl (.cons rfl .nil)) hq) (fun z s' hz => ?_) fun _ _ e => e)
  obtain ⟨b', H', I', rb, r, rfl, hQ⟩ := hz
  cases rb
  exact ⟨r, rfl, .bl (!r), H', I', rfl, hQ⟩
end
end SR

set_option maxRecDepth 100000
set_option maxHeartbeats 4000000
namespace SS
open PySem L2 SR TL
/-! ### the methods of Language -/
/-- more of the class -/
structure LTy (K : PySem.W.Frag) (C : Addr) : Prop where
  cls : PySem.W.findIn K (.ref C) "__class__" = some (some (.builtin "object.__class__"))
  getc : PySem.W.specialIn K (.builtin "object.__class__") "__get__" = some (some (.builtin "getset_descriptor.__get__"))
  tak : PySem.W.takesIn K (.builtin "object.__class__") = some true
  mro : PySem.W.mroIn K C (.type "object") = some true
  kit : PySem.W.kitOne K (.ref C) (.ref C) = some true
  ne : PySem.W.findIn K (.ref C) "__ne__" = some (some (.builtin "object.__ne__"))
  sub : PySem.W.subIn K (.ref C) (.type "object") = some true
def rowI (cs : List Nat) (row : List Int) : List (Key × Int) := (cs.zip row).map fun p => (Sum.inr (lt p.1), p.2)
theorem dV_rowI (cs : List Nat) (row : List Int) : dV (rowI cs row) = rowK cs row := by
  unfold dV rowI rowK
  rw [List.map_map]
  rfl
theorem dictsAt_of {H : Hp} {cs : List Nat} : ∀ {qs : List Addr} {rows : List (List Int)}, Paired (RowAt H cs) qs rows → DictsAt H qs (rows.map (rowI cs))
  | _, _, .nil => .nil
  | _, _, .cons h t => .cons (by rw [dV_rowI]; exact h) (dictsAt_of t)
/-! the sizes of what is shown -/
def rowsD (cs : List Nat) (rows : List (List Int)) : PyData := lD (rows.map (rowI cs))
theorem int_short {i : Int} (h0 : 0 ≤ i) (h1 : i < 40) : (PyData.shown (.int i)).length ≤ 8 := by
  obtain ⟨n, rfl⟩ := Int.eq_ofNat_of_zero_le h0
  have hn : n < 40 := by omega
  have : ∀ m : Nat, m < 40 → (PyData.shown (.int (m : Int))).length ≤ 8 := by decide +kernel
  exact this n hn
theorem rowI_leaves : ∀ {cs' : List Nat} {row : List Int}, (∀ c ∈ cs', 97 ≤ c ∧ c < 123) → (∀ g ∈ row, 0 ≤ g ∧ g < 40) → PyData.leavesShortKv 8 ((rowI cs' row).map fun p => (keyD p.1, .int p.2)) = true ∧ PyData.showableKv ((rowI cs' row).map fun p => (keyD p.1, .int p.2)) = true ∧ PyData.bulkKv ((rowI cs' row).map fun p => (keyD p.1, .int p.2)) ≤ 3 * cs'.length ∧ PyData.depthKv ((rowI cs' row).map fun p => (keyD p.1, .int p.2)) ≤ 1
  | [], _, _, _ => ⟨rfl, rfl, Nat.zero_le _, Nat.zero_le _⟩
  | _ :: _, [], _, _ => ⟨rfl, rfl, Nat.zero_le _, Nat.zero_le _⟩
  | c :: cs', g :: row, hc, hg => by
    obtain ⟨i1, i2, i3, i4⟩ := rowI_leaves (cs' := cs') (row := row) (fun d hd => hc d (List.mem_cons_of_mem _ hd)) (fun d hd => hg d (List.mem_cons_of_mem _ hd))
    have hcc := hc c List.mem_cons_self
    have hgg := hg g List.mem_cons_self
    have e : (rowI (c :: cs') (g :: row)).map (fun p => (keyD p.1, PyData.int p.2)) = (PyData.str (lt c), PyData.int g) :: (rowI cs' row).map (fun p => (keyD p.1, PyData.int p.2)) := rfl
    rw [e]
    have k1 : PyData.leavesShort 8 (.str (lt c)) = true := by
      simp only [PyData.leavesShort]
      rw [List.all_eq_true]
      intro d hd
      have : d = c := by simpa [lt] using hd
      rw [this]
      exact decide_eq_true (by omega)
    have k2 : PyData.leavesShort 8 (.int g) = true := by
      simp only [PyData.leavesShort]
      exact decide_eq_true (int_short hgg.1 hgg.2)
    refine ⟨?_, ?_, ?_, ?_⟩
    · simp only [PyData.leavesShortKv, k1, k2, i1, Bool.and_self]
    · have k3 : PyData.showable (.int g) = true := by
        simp only [PyData.showable]
        obtain ⟨n, rfl⟩ := Int.eq_ofNat_of_zero_le hgg.1
        have hn : n < 40 := by omega
        have : ∀ m : Nat, m < 40 → decide ((m : Int).natAbs.log2 < 1920) = true := by decide +kernel
        exact this n hn
      have k4 : PyData.showable (.str (lt c)) = true := by simp only [PyData.showable]
      simp only [PyData.showableKv, k3, k4, i2, Bool.and_self]
    · simp only [PyData.bulkKv, PyData.bulk, List.length_cons]
      have : (lt c).cps.size = 1 := rfl
      omega
    · simp only [PyData.depthKv, PyData.depth]
      omega
theorem rowsD_leaves {cs : List Nat} (hc : ∀ c ∈ cs, 97 ≤ c ∧ c < 123) : ∀ {rows : List (List Int)}, (∀ row ∈ rows, ∀ g ∈ row, 0 ≤ g ∧ g < 40) → PyData.leavesShortAll 8 ((rows.map (rowI cs)).map dD) = true ∧ PyData.showableAll ((rows.map (rowI cs)).map dD) = true ∧ PyData.bulkAll ((rows.map (rowI cs)).map dD) ≤ (3 * cs.length + 1) * rows.length ∧ PyData.depthAll ((rows.map (rowI cs)).map dD) ≤ 2
  | [], _ => ⟨rfl, rfl, Nat.zero_le _, Nat.zero_le _⟩
  | row :: rows, h => by
    obtain ⟨i1, i2, i3, i4⟩ := rowsD_leaves hc (rows := rows) fun r hr => h r (List.mem_cons_of_mem _ hr)
    obtain ⟨j1, j2, j3, j4⟩ := rowI_leaves hc (h row List.mem_cons_self)
    have e : (((row :: rows).map (rowI cs)).map dD) = .dict ((rowI cs row).map fun p => (keyD p.1, .int p.2)) :: ((rows.map (rowI cs)).map dD) := rfl
    rw [e]
    refine ⟨?_, ?_, ?_, ?_⟩
    · simp only [PyData.leavesShortAll, PyData.leavesShort, j1, i1, Bool.and_self]
    · simp only [PyData.showableAll, PyData.showable, j2, i2, Bool.and_self]
    · simp only [PyData.bulkAll, PyData.bulk, List.length_cons, Nat.mul_add, Nat.mul_one]
      omega
    · simp only [PyData.depthAll, PyData.depth]
      omega
theorem rowsD_ok {cs : List Nat} {rows : List (List Int)} {ends : List Int} (ha : Abc cs) (W : WfM cs rows ends) : (rowsD cs rows).showable = true ∧ (rowsD cs rows).depth ≤ 64 ∧ (rowsD cs rows).shown.length ≤ 6000 := by
  have h5 := W.five
  have h4 := ha.four
  obtain ⟨i1, i2, i3, i4⟩ := rowsD_leaves (rows := rows) ha.abc fun row hr g hg => by
    have := (W.row row hr).2 g hg
    omega
  have b := PyData.shown_le_bulk 8 (Nat.le_refl _) (rowsD cs rows) (by unfold rowsD lD; simp only [PyData.leavesShort]; exact i1)
  refine ⟨by unfold rowsD lD; simp only [PyData.showable]; exact i2, by unfold rowsD lD; simp only [PyData.depth]; omega, Nat.le_trans b ?_⟩
  have e : (rowsD cs rows).bulk = PyData.bulkAll ((rows.map (rowI cs)).map dD) := by unfold rowsD lD; simp only [PyData.bulk]
  rw [e]
  have h6 : (3 * cs.length + 1) * rows.length ≤ 13 * 40 := Nat.mul_le_mul (by omega) h5
  omega
def endsD (ends : List Int) : PyData := .tuple (ends.map .int)
theorem ints_leaves : ∀ {es : List Int}, (∀ e ∈ es, 0 ≤ e ∧ e < 40) → PyData.leavesShortAll 8 (es.map .int) = true ∧ PyData.showableAll (es.map .int) = true ∧ PyData.bulkAll (es.map .int) ≤ es.length ∧ PyData.depthAll (es.map .int) ≤ 0 ∧ PyData.hasDictAll (es.map .int) = false
  | [], _ => ⟨rfl, rfl, Nat.zero_le _, Nat.zero_le _, rfl⟩
  | e :: es, h => by
    obtain ⟨i1, i2, i3, i4, i5⟩ := ints_leaves (es := es) fun r hr => h r (List.mem_cons_of_mem _ hr)
    have hgg := h e List.mem_cons_self
    have k2 : PyData.leavesShort 8 (.int e) = true := by
      simp only [PyData.leavesShort]
      exact decide_eq_true (int_short hgg.1 hgg.2)
    have k3 : PyData.showable (.int e) = true := by
      simp only [PyData.showable]
      obtain ⟨n, rfl⟩ := Int.eq_ofNat_of_zero_le hgg.1
      have hn : n < 40 := by omega
      have : ∀ m : Nat, m < 40 → decide ((m : Int).natAbs.log2 < 1920) = true := by decide +kernel
      exact this n hn
    refine ⟨?_, ?_, ?_, ?_, ?_⟩
    · simp only [List.map_cons, PyData.leavesShortAll, k2, i1, Bool.and_self]
    · simp only [List.map_cons, PyData.showableAll, k3, i2, Bool.and_self]
    · simp only [List.map_cons, PyData.bulkAll, PyData.bulk, List.length_cons]
      omega
    · simp only [List.map_cons, PyData.depthAll, PyData.depth]
      omega
    · simp only [List.map_cons, PyData.hasDictAll, PyData.hasDict, i5, Bool.or_self]
theorem endsD_ok {cs : List Nat} {rows : List (List Int)} {ends : List Int} (W : WfM cs rows ends) : (endsD ends).showable = true ∧ (endsD ends).hasDict = false ∧ (endsD ends).depth ≤ 64 ∧ (endsD ends).shown.length ≤ 6000 := by
  have h5 := W.five
  have hl : ends.length ≤ 40 := Nat.le_trans (nodup_len _ _ W.nd W.fin) h5
  obtain ⟨i1, i2, i3, i4, i5⟩ := ints_leaves (es := ends) fun e he => by
    have := W.fin e he
    omega
  have b := PyData.shown_le_bulk 8 (Nat.le_refl _) (endsD ends) (by unfold endsD; simp only [PyData.leavesShort]; exact i1)
  refine ⟨by unfold endsD; simp only [PyData.showable]; exact i2, by unfold endsD; simp only [PyData.hasDict]; exact i5, by unfold endsD; simp only [PyData.depth]; omega, Nat.le_trans b ?_⟩
  have e : (endsD ends).bulk = PyData.bulkAll (ends.map .int) := by unfold endsD; simp only [PyData.bulk]
  rw [e]
  omega
theorem abc_repr {cs : List Nat} (ha : Abc cs) : (reprText (txt cs)).length ≤ 42 := by
  have h := StrLaws.reprText_len (txt cs) fun c hc => by
    have hc' : c ∈ cs := by simpa [txt] using hc
    have := ha.abc c hc'
    omega
  have e : (txt cs).length = cs.length := txt_len cs
  have := ha.four
  omega
/-- what a language shows -/
def langT (cs : List Nat) (rows : List (List Int)) (ends : List Int) : Str := ((((("Language(" : Str) ++ reprText (txt cs)) ++ (", " : Str)) ++ (rowsD cs rows).shown ++ (", " : Str)) ++ (endsD ends).shown) ++ (")" : Str)
end SS

set_option maxRecDepth 100000
set_option maxHeartbeats 4000000
namespace SS
open PySem L2 SR TL
theorem val_row_none {cs : List Nat} {row : List Int} {c : Nat} (hc : c ∉ cs) : valV (rowK cs row) (Sum.inr (lt c)) = none := by
  unfold valV
  rw [Option.map_eq_none_iff, List.find?_eq_none]
  intro p hp hk
  obtain ⟨x, hx, rfl⟩ := List.mem_map.mp hp
  have e : lt x.1 = lt c := by simpa using hk
  exact hc ((lt_inj e) ▸ (List.of_mem_zip hx).1)
theorem u66 {k : Nat} {A : Around} (r : Room k A) : A.units + 66 < cLine := by have := r.un; omega
section
variable {P : Program} {w : World} {K : PySem.W.Frag} {mg : Str → Option Value} {base : Heap}
/-! ### signs -/
theorem scSgn : FnScope ["self"] ["self"] (defScope sSgn) := ⟨rfl, rfl, rfl, by decide +kernel, rfl, by decide +kernel, by decide +kernel⟩
def spSgn (C : Addr) : Sp := fun vs H Q _ => ∃ (x : Addr) (cs : List Nat) (rw' : List (List Int)) (en' ns : List Int), vs = [.ref x] ∧ LangR C H x cs rw' en' ns ∧ Q (.str (txt cs)) H
theorem ok_sgn {f C : Addr} {fd : FuncData} (F : Fun K "signs" "Language.signs" sSgn f fd) (T : LTx K mg C) : FnOk P w K mg base CX0 1 f fd ["self"] (spSgn C) := by
  refine F.ok scSgn (fun vs H Q E h => ?_) (fun cdv A outer s H vs Q E hr h => ?_)
  · obtain ⟨x, cs, rw', en', ns, rfl, _⟩ := h
    rfl
  · obtain ⟨x, cs, rw', en', ns, rfl, L, k⟩ := h
    obtain ⟨dx, pt, pm, pl, fs, h1, h2, _⟩ := L.ex
    refine ⟨_, pss_one (ps_ret (pe_fld (pv 0) rfl)), ?_⟩
    exact ⟨_, rfl, x, C, dx, _, _, rfl, h1, T.cl, T.nS, h2, k⟩
/-! ### __contains__ -/
abbrev nCon : List Str := ["self", "value", "state", "sign"]
theorem scCon : FnScope nCon ["self", "value"] (defScope sCon) := ⟨rfl, rfl, rfl, by decide +kernel, rfl, by decide +kernel, by decide +kernel⟩
def spCon (C : Addr) : Sp := fun vs H Q _ => ∃ (o : Addr) (x cs : List Nat) (rw' : List (List Int)) (en' ns : List Int), vs = [.ref o, .str (txt x)] ∧ Abc cs ∧ LangR C H o cs rw' en' ns ∧ WfM cs rw' en' ∧ (∀ c ∈ x, c ∈ cs) ∧ x.length ≤ 1000 ∧ ∀ H', Same H H' → Q (.bl (decide (run cs rw' 0 x ∈ en'))) H'
theorem ok_con {f C : Addr} {fd : FuncData} (F : Fun K "__contains__" "Language.__contains__" sCon f fd) (T : LTx K mg C) (Wd : Cal P w K mg base "is_word" 1 ["value"] spWord) : FnOk P w K mg base CX0 2 f fd ["self", "value"] (spCon C) := by
  refine F.ok scCon (fun vs H Q E h => ?_) (fun cdv A outer s H vs Q E hr h => ?_)
  · obtain ⟨o, x, cs, rw', en', ns, rfl, _⟩ := h
    rfl
  · obtain ⟨o, x, cs, rw', en', ns, rfl, ha, L, W', hx, hl, k⟩ := h
    have hu := hu_of hr
    refine ⟨_, pss_cons (ps_if (pt_not (pt_val (pe_cal Wd hr (pa_cons (pv 1) pa_nil)))) (pss_one (ps_ret pe_bl)) pss_nil)
      (pss_cons (ps_set (i := 2) scCon.nd rfl (.inl rfl) pe_int)
      (pss_cons (ps_for PassesOwn.never rfl (pi_str (pv 1)) (pg_name (i := 3) scCon.nd rfl (.inl rfl))
        (pss_one (ps_set (i := 2) scCon.nd rfl (.inl rfl) (pe_ifExp (pt_cmp (pc_isN (pv 2))) pe_non (pe_dget1 hu (pe_ix ix_tup (pe_fld (pv 0) rfl) (pv 2) (fun _ _ => rfl)) (pv 3) ⟨rfl, rfl, rfl, rfl⟩)))))
      (pss_one (ps_ret (pe_cmpR op_in_seq (pv 2) (pe_fld (pv 0) rfl) (by rfl)))))), ?_⟩
    obtain ⟨dx, pt, pm, pl, fs, h1, h2, h3, h4, h5, h6, ⟨⟨qs, t1, t2⟩, t3⟩, h8, h9⟩ := L.ex
    refine ⟨_, rfl, _, rfl, .inr ⟨x, rfl, hl, fun b H1 hb e1 => ⟨_, rfl, ?_⟩⟩⟩
    have hb' : b = true := hb.mpr fun c hc => ha.abc c (hx c hc)
    subst hb'
    refine iteF ⟨_, rfl, _, rfl, for_it walk_str (fun i σ H' => H' = H1 ∧ ∃ a3, σ = [some (.ref o), some (.str (txt x)), some (.int (run cs rw' 0 (x.take i))), a3]) ⟨rfl, _, rfl⟩ (fun _ _ _ _ _ => trivial) ?_ ?_⟩
    · rintro i v σ H2 H2' hi ⟨rfl, a3, rfl⟩ ⟨rfl, c, hc, rfl⟩
      have hc' : x[i]? = some c := by simpa [txt] using hc
      have hcm := hx c (List.mem_of_getElem? hc')
      have et : x.take (i + 1) = x.take i ++ [c] := by rw [List.take_add_one, hc']; rfl
      refine ⟨_, rfl, _, rfl, ?_⟩
      refine ite2 (fun z => absurd z (by simp)) (fun _ => ?_)
      obtain ⟨q0, q1⟩ := W'.run_ok (x.take i) 0 (Int.le_refl _) (by have := W'.one; omega) fun d hd => hx d (List.mem_of_mem_take hd)
      have hql : (run cs rw' 0 (x.take i)).toNat < rw'.length := by omega
      obtain ⟨q, hq, hrow⟩ := paired_get _ t2 (List.getElem?_eq_getElem hql)
      refine ⟨_, rfl, o, C, dx, _, _, rfl, e1 _ _ h1, T.cl, T.nG, h3, _, rfl, pt, _, _, .ref q, rfl, rfl, SqT.of (e1 _ _ t1), atI_of q0 (by rw [List.getElem?_map, hq]; rfl), q, rfl, .inl ⟨_, .inl (e1 _ _ hrow)⟩, _, rfl, _, DGet.k (k := Sum.inr (lt c)) (e1 _ _ hrow), rfl, some (ltV c), ?_⟩
      have goal : (valV (rowK cs rw'[(run cs rw' 0 (x.take i)).toNat]) (Sum.inr (lt c))).getD .non = .int (run cs rw' 0 (x.take (i + 1))) := by
        obtain ⟨row, e1', e2', e3', _⟩ := W'.nxt_ok q0 q1 hcm
        rw [List.getElem?_eq_getElem hql] at e1'
        cases e1'
        rw [val_row e2' hcm, et]
        unfold run at e3' ⊢
        rw [List.foldl_append]
        show V.int _ = V.int (nxt cs rw' (List.foldl (nxt cs rw') 0 (x.take i)) c)
        rw [e3']
      rw [← goal]
      rfl
    · rintro σ H2 ⟨rfl, a3, rfl⟩
      have hz : (txt x).cps.size = x.length := by simp [txt]
      rw [hz, List.take_length]
      refine ⟨_, rfl, _, rfl, o, C, dx, _, _, rfl, e1 _ _ h1, T.cl, T.nM, h4, pm, _, rfl, .inr (SqT.of (e1 _ _ t3)), rfl, flat_ints _, ?_⟩
      show Q (.bl (inV (.int (run cs rw' 0 x)) (en'.map .int))) H2
      rw [inV_ints]
      exact k _ e1
/-! ### __repr__ -/
abbrev sRep : Stmt := inClass (top 28) 13
theorem scRep : FnScope ["self"] ["self"] (defScope sRep) := ⟨rfl, rfl, rfl, by decide +kernel, rfl, by decide +kernel, by decide +kernel⟩
def spRep (C : Addr) : Sp := fun vs H Q _ => ∃ (x : Addr) (cs : List Nat) (rw' : List (List Int)) (en' ns : List Int), vs = [.ref x] ∧ Abc cs ∧ LangR C H x cs rw' en' ns ∧ WfM cs rw' en' ∧ ∀ H', Same H H' → Q (.str (langT cs rw' en')) H'
theorem ok_rep {f C : Addr} {fd : FuncData} (F : Fun K "__repr__" "Language.__repr__" sRep f fd) (B : Bl mg) (T : LTx K mg C) : FnG P w K mg base 1 f fd ["self"] (spRep C) := by
  refine okG F scRep (fun vs H Q E h => ?_) (fun cdv A outer s H vs Q E hr hgd h => ?_)
  · obtain ⟨x, cs, rw', en', ns, rfl, _⟩ := h
    rfl
  · obtain ⟨x, cs, rw', en', ns, rfl, ha, L, W, k⟩ := h
    have hu := hr.units
    obtain ⟨dx, pt, pm, pl, fs, h1, h2, h3, h4, h5, h6, ⟨⟨qs, t1, t2⟩, t3⟩, h8, h9⟩ := L.ex
    obtain ⟨r1, r2, r3⟩ := rowsD_ok ha W
    obtain ⟨e1, e2, e3, e4⟩ := endsD_ok W
    have a1 := abc_repr ha
    refine ⟨_, pss_one (ps_ret (pe_joined (.cons pe_str (.cons (pe_fmtR (pe_fld (pv 0) rfl)) (.cons pe_str (.cons (pe_fmtL hgd (u66 hr) (pe_callTy call_list_of (by rfl) B.list (by decide +kernel) (pa_cons (pe_fld (pv 0) rfl) pa_nil))) (.cons pe_str (.cons (pe_fmtD hgd (u66 hr) (pe_fld (pv 0) rfl)) (.cons pe_str .nil))))))))), ?_⟩
    have sz := sizeLine_eq
    have l1 : (Str.ofString "Language(").length = 9 := rfl
    have l2 : (Str.ofString ", ").length = 2 := rfl
    have l3 : (Str.ofString ")").length = 1 := rfl
    have l0 : Str.empty.length = 0 := rfl
    refine ⟨_, rfl, by rw [strLen_append]; omega, _, rfl, x, C, dx, _, _, rfl, h1, T.cl, T.nS, h2, .inl ⟨_, rfl, by omega, _, rfl, by rw [strLen_append, strLen_append]; omega, ?_⟩⟩
    refine ⟨_, rfl, by rw [strLen_append, strLen_append, strLen_append]; omega, _, rfl, x, C, dx, _, _, rfl, h1, T.cl, T.nG, h3, pt, _, rfl, .inr (SqT.of t1), fun l hl => ?_⟩
    have e1' : Same H (upd H l (.lst (qs.map .ref))) := same_new hl
    refine ⟨l, qs, rw'.map (rowI cs), rfl, SqL.of upd_same, dictsAt_of (Paired.mono t2 fun _ _ h => e1' _ _ h), r1, r2, (by show (rowsD cs rw').shown.length ≤ _; omega), _, rfl, ?_, ?_⟩
    · show _ ≤ _
      rw [strLen_append, strLen_append, strLen_append, strLen_append]
      show _ + (rowsD cs rw').shown.length ≤ _
      omega
    refine ⟨_, rfl, ?_, _, rfl, x, C, dx, _, _, rfl, e1' _ _ h1, T.cl, T.nM, h4, pm, endsD en', rfl, .tup (SqT.of (e1' _ _ t3)) (dp_map (fun i => .int i) en'), e1, e2, e3, by omega, _, rfl, ?_, ?_⟩
    · rw [strLen_append, strLen_append, strLen_append, strLen_append, strLen_append]
      show _ + (rowsD cs rw').shown.length + _ ≤ _
      omega
    · rw [strLen_append, strLen_append, strLen_append, strLen_append, strLen_append, strLen_append]
      show _ + (rowsD cs rw').shown.length + _ + _ ≤ _
      omega
    refine ⟨_, rfl, ?_, ?_⟩
    · rw [strLen_append, strLen_append, strLen_append, strLen_append, strLen_append, strLen_append, strLen_append]
      show _ + (rowsD cs rw').shown.length + _ + _ + _ ≤ _
      omega
    · have := k _ e1'
      rw [Str.empty_append]
      exact this
end
end SS

set_option maxRecDepth 100000
set_option maxHeartbeats 4000000
namespace SS
open PySem L2 SR TL
/-! ### the unseen ones laid behind, of any kind -/
section
variable {α : Type} [DecidableEq α]
def addA (L : List α) : List α → List α
  | [] => L
  | g :: gs => addA (if g ∈ L then L else L ++ [g]) gs
theorem addA_prefix (gs : List α) : ∀ L : List α, ∃ t, addA L gs = L ++ t := by
  induction gs with
  | nil => intro L; exact ⟨[], (List.append_nil L).symm⟩
  | cons g gs ih =>
    intro L
    obtain ⟨t, h⟩ := ih (if g ∈ L then L else L ++ [g])
    by_cases hm : g ∈ L
    · rw [if_pos hm] at h
      exact ⟨t, by show addA (if g ∈ L then L else L ++ [g]) gs = _; rw [if_pos hm]; exact h⟩
    · rw [if_neg hm] at h
      exact ⟨[g] ++ t, by show addA (if g ∈ L then L else L ++ [g]) gs = _; rw [if_neg hm, h, List.append_assoc]⟩
theorem addA_snoc (g : α) (gs : List α) : ∀ L : List α, addA L (gs ++ [g]) = if g ∈ addA L gs then addA L gs else addA L gs ++ [g] := by
  induction gs with
  | nil => intro L; rfl
  | cons u gs ih => intro L; exact ih _
theorem addA_mem {gs : List α} : ∀ {L : List α}, ∀ g ∈ gs, g ∈ addA L gs := by
  induction gs with
  | nil => intro L g h; cases h
  | cons u gs ih =>
    intro L g hg
    rcases List.mem_cons.mp hg with z | z
    · subst z
      show g ∈ addA (if g ∈ L then L else L ++ [g]) gs
      obtain ⟨t, e⟩ := addA_prefix gs (if g ∈ L then L else L ++ [g])
      rw [e]
      refine List.mem_append_left _ ?_
      by_cases hm : g ∈ L
      · rw [if_pos hm]; exact hm
      · rw [if_neg hm]; simp
    · exact ih g z
theorem addA_only {gs : List α} : ∀ {L : List α} {k : α}, k ∈ addA L gs → k ∈ L ∨ k ∈ gs := by
  induction gs with
  | nil => intro L k h; exact .inl h
  | cons g gs ih =>
    intro L k h
    rcases ih (L := if g ∈ L then L else L ++ [g]) h with z | z
    · by_cases hm : g ∈ L
      · rw [if_pos hm] at z; exact .inl z
      · rw [if_neg hm] at z
        rcases List.mem_append.mp z with y | y
        · exact .inl y
        · exact .inr (by rw [List.mem_singleton.mp y]; exact List.mem_cons_self)
    · exact .inr (List.mem_cons_of_mem _ z)
theorem addA_nodup {gs : List α} : ∀ {L : List α}, L.Nodup → (addA L gs).Nodup := by
  induction gs with
  | nil => intro L h; exact h
  | cons g gs ih =>
    intro L h
    show (addA (if g ∈ L then L else L ++ [g]) gs).Nodup
    by_cases hm : g ∈ L
    · rw [if_pos hm]; exact ih h
    · rw [if_neg hm]
      refine ih (List.nodup_append.mpr ⟨h, by simp, fun a ha b hb e => ?_⟩)
      rw [List.mem_singleton] at hb
      rw [e, hb] at ha
      exact hm ha
end
theorem idxOf_app {α : Type} [BEq α] [LawfulBEq α] {a : α} : ∀ {L t : List α}, a ∈ L → (L ++ t).idxOf a = L.idxOf a
  | [], _, h => nomatch h
  | b :: L, t, h => by
    rw [List.cons_append, List.idxOf_cons, List.idxOf_cons]
    by_cases e : b = a
    · subst e; simp
    · have h' : a ∈ L := by
        rcases List.mem_cons.mp h with z | z
        · exact absurd z.symm e
        · exact z
      rw [idxOf_app h']
theorem idxOf_new {α : Type} [BEq α] [LawfulBEq α] {a : α} : ∀ {L : List α}, a ∉ L → (L ++ [a]).idxOf a = L.length
  | [], _ => by simp
  | b :: L, h => by
    rw [List.cons_append, List.idxOf_cons]
    have e : ¬ b = a := fun z => h (z ▸ List.mem_cons_self)
    have : (b == a) = false := beq_eq_false_iff_ne.mpr e
    rw [this, idxOf_new fun z => h (List.mem_cons_of_mem _ z)]
    rfl
/-! ### two machines side by side -/
abbrev Pr : Type := Int × Int
def dP (cs : List Nat) (r1 r2 : List (List Int)) (s : Pr) (c : Nat) : Pr := (nxt cs r1 s.1 c, nxt cs r2 s.2 c)
/-- a set of pairs that the moves do not leave -/
structure Clz (cs : List Nat) (r1 r2 : List (List Int)) (D : List Pr) : Prop where
  six : D.length ≤ 6
  zero : (0, 0) ∈ D
  cl : ∀ s ∈ D, ∀ c ∈ cs, dP cs r1 r2 s c ∈ D
  rg : ∀ s ∈ D, (0 ≤ s.1 ∧ s.1 < (r1.length : Int)) ∧ 0 ≤ s.2 ∧ s.2 < (r2.length : Int)
structure PrI (cs : List Nat) (r1 r2 : List (List Int)) (D : List Pr) (n : Nat) (L : List Pr) : Prop where
  nd : L.Nodup
  hd : ∃ t, L = (0, 0) :: t
  sub : ∀ s ∈ L, s ∈ D
  clo : ∀ s ∈ L.take n, ∀ c ∈ cs, dP cs r1 r2 s c ∈ L
  le : n ≤ L.length
def rowP (cs : List Nat) (r1 r2 : List (List Int)) (L : List Pr) (s : Pr) : List Int := cs.map fun c => ((L.idxOf (dP cs r1 r2 s c) : Nat) : Int)
def rowsP (cs : List Nat) (r1 r2 : List (List Int)) (n : Nat) (L : List Pr) : List (List Int) := (L.take n).map (rowP cs r1 r2 L)
def endsP (f : Pr → Bool) (L : List Pr) : List Int := ((List.range L.length).filter fun j => f (L.getD j (0, 0))).map Int.ofNat
section
variable {cs : List Nat} {r1 r2 : List (List Int)} {D L : List Pr} {n : Nat}
theorem PrI.start (C : Clz cs r1 r2 D) : PrI cs r1 r2 D 0 [(0, 0)] := ⟨by simp, ⟨[], rfl⟩, fun s hs => by rw [List.mem_singleton.mp hs]; exact C.zero, fun s hs => by simp at hs, Nat.zero_le _⟩
theorem PrI.len (I : PrI cs r1 r2 D n L) (C : Clz cs r1 r2 D) : L.length ≤ 6 := Nat.le_trans (len_subG L D I.nd I.sub) C.six
theorem PrI.next (I : PrI cs r1 r2 D n L) (C : Clz cs r1 r2 D) {s : Pr} (hs : L[n]? = some s) : PrI cs r1 r2 D (n + 1) (addA L (cs.map (dP cs r1 r2 s))) ∧ rowsP cs r1 r2 (n + 1) (addA L (cs.map (dP cs r1 r2 s))) = rowsP cs r1 r2 n L ++ [rowP cs r1 r2 (addA L (cs.map (dP cs r1 r2 s))) s] := by
  obtain ⟨u, eu⟩ := addA_prefix (cs.map (dP cs r1 r2 s)) L
  have hlt := (List.getElem?_eq_some_iff.mp hs).1
  have hsm := List.mem_of_getElem? hs
  have et : (addA L (cs.map (dP cs r1 r2 s))).take (n + 1) = L.take n ++ [s] := by
    rw [eu, List.take_append_of_le_length (by omega), List.take_add_one, hs]
    rfl
  refine ⟨⟨addA_nodup I.nd, ?_, fun p hp => ?_, fun p hp c hc => ?_, ?_⟩, ?_⟩
  · obtain ⟨t, ht⟩ := I.hd
    exact ⟨t ++ u, by rw [eu, ht]; rfl⟩
  · rcases addA_only hp with z | z
    · exact I.sub p z
    · obtain ⟨c, hc, rfl⟩ := List.mem_map.mp z
      exact C.cl s (I.sub s hsm) c hc
  · rw [et] at hp
    rcases List.mem_append.mp hp with z | z
    · rw [eu]
      exact List.mem_append_left _ (I.clo p z c hc)
    · rw [List.mem_singleton.mp z]
      exact addA_mem _ (List.mem_map.mpr ⟨c, hc, rfl⟩)
  · rw [eu, List.length_append]; omega
  · unfold rowsP
    rw [et, List.map_append]
    refine congrArg (· ++ _) (List.map_congr_left fun p hp => ?_)
    unfold rowP
    refine List.map_congr_left fun c hc => ?_
    rw [eu, idxOf_app (I.clo p hp c hc)]
/-- all looked at -/
theorem PrI.all (I : PrI cs r1 r2 D L.length L) : ∀ s ∈ L, ∀ c ∈ cs, dP cs r1 r2 s c ∈ L := by
  have := I.clo
  rwa [List.take_length] at this
theorem rowsP_all : rowsP cs r1 r2 L.length L = L.map (rowP cs r1 r2 L) := by
  unfold rowsP
  rw [List.take_length]
theorem prod_nxt (nd : cs.Nodup) (I : PrI cs r1 r2 D L.length L) {s : Pr} {c : Nat} (hs : s ∈ L) (hc : c ∈ cs) : nxt cs (rowsP cs r1 r2 L.length L) ((L.idxOf s : Nat) : Int) c = ((L.idxOf (dP cs r1 r2 s c) : Nat) : Int) := by
  have hi := List.idxOf_lt_length_of_mem hs
  have e1 : (rowsP cs r1 r2 L.length L).getD (((L.idxOf s : Nat) : Int)).toNat [] = rowP cs r1 r2 L s := by
    rw [rowsP_all, Int.toNat_natCast, List.getD_eq_getElem?_getD, List.getElem?_map, List.getElem?_eq_getElem hi, List.getElem_idxOf]
    rfl
  show ((rowsP cs r1 r2 L.length L).getD (((L.idxOf s : Nat) : Int)).toNat []).getD (cs.idxOf c) 0 = _
  rw [e1]
  have hj := List.idxOf_lt_length_of_mem hc
  unfold rowP
  rw [List.getD_eq_getElem?_getD, List.getElem?_map, List.getElem?_eq_getElem hj, List.getElem_idxOf]
  rfl
theorem prod_run (nd : cs.Nodup) (I : PrI cs r1 r2 D L.length L) : ∀ (x : List Nat) (s : Pr), s ∈ L → (∀ c ∈ x, c ∈ cs) → run cs (rowsP cs r1 r2 L.length L) ((L.idxOf s : Nat) : Int) x = ((L.idxOf (run cs r1 s.1 x, run cs r2 s.2 x) : Nat) : Int) ∧ (run cs r1 s.1 x, run cs r2 s.2 x) ∈ L
  | [], s, hs, _ => ⟨rfl, hs⟩
  | c :: x, s, hs, hx => by
    have hc := hx c List.mem_cons_self
    have h := prod_run nd I x (dP cs r1 r2 s c) (I.all s hs c hc) fun d hd => hx d (List.mem_cons_of_mem _ hd)
    refine ⟨?_, h.2⟩
    show run cs (rowsP cs r1 r2 L.length L) (nxt cs (rowsP cs r1 r2 L.length L) ((L.idxOf s : Nat) : Int) c) x = _
    rw [prod_nxt nd I hs hc]
    exact h.1
theorem ends_iff {f : Pr → Bool} {s : Pr} (nd : L.Nodup) (hs : s ∈ L) : ((L.idxOf s : Nat) : Int) ∈ endsP f L ↔ f s = true := by
  have hi := List.idxOf_lt_length_of_mem hs
  have eg : L.getD (L.idxOf s) (0, 0) = s := by rw [List.getD_eq_getElem?_getD, List.getElem?_eq_getElem hi, List.getElem_idxOf]; rfl
  unfold endsP
  rw [List.mem_map]
  constructor
  · rintro ⟨j, hj, e⟩
    obtain ⟨_, h2⟩ := List.mem_filter.mp hj
    have : j = L.idxOf s := by
      have e' : ((j : Nat) : Int) = ((L.idxOf s : Nat) : Int) := e
      omega
    rw [this, eg] at h2
    exact h2
  · intro h
    exact ⟨L.idxOf s, List.mem_filter.mpr ⟨List.mem_range.mpr hi, by rw [eg]; exact h⟩, rfl⟩
/-- the machine of the pairs: which texts lead to a member state -/
theorem prod_acc (nd : cs.Nodup) (I : PrI cs r1 r2 D L.length L) (f : Pr → Bool) {x : List Nat} (hx : ∀ c ∈ x, c ∈ cs) : run cs (rowsP cs r1 r2 L.length L) 0 x ∈ endsP f L ↔ f (run cs r1 0 x, run cs r2 0 x) = true := by
  obtain ⟨t, ht⟩ := I.hd
  have h0 : ((0 : Int), (0 : Int)) ∈ L := by rw [ht]; exact List.mem_cons_self
  have e0 : L.idxOf (0, 0) = 0 := by rw [ht]; simp
  obtain ⟨h1, h2⟩ := prod_run nd I x (0, 0) h0 hx
  rw [e0] at h1
  have h1' : run cs (rowsP cs r1 r2 L.length L) 0 x = _ := h1
  rw [h1']
  exact ends_iff I.nd h2
theorem prod_wf (I : PrI cs r1 r2 D L.length L) (C : Clz cs r1 r2 D) (f : Pr → Bool) : WfM cs (rowsP cs r1 r2 L.length L) (endsP f L) := by
  have hl := I.len C
  obtain ⟨t, ht⟩ := I.hd
  have hp : 0 < L.length := by rw [ht]; exact Nat.succ_pos _
  have er : (rowsP cs r1 r2 L.length L).length = L.length := by rw [rowsP_all, List.length_map]
  refine ⟨by omega, by omega, fun row hrow => ?_, ?_, fun e he => ?_⟩
  · rw [rowsP_all] at hrow
    obtain ⟨s, hs, rfl⟩ := List.mem_map.mp hrow
    refine ⟨by unfold rowP; rw [List.length_map], fun g hg => ?_⟩
    obtain ⟨c, hc, rfl⟩ := List.mem_map.mp hg
    have := List.idxOf_lt_length_of_mem (I.all s hs c hc)
    rw [er]
    omega
  · unfold endsP
    exact List.pairwise_map.mpr ((List.nodup_range.filter _).imp fun {a b} h e => h (by
      have e' : ((a : Nat) : Int) = ((b : Nat) : Int) := e
      omega))
  · obtain ⟨j, hj, rfl⟩ := List.mem_map.mp he
    have := List.mem_range.mp (List.mem_filter.mp hj).1
    rw [er]
    show (0 : Int) ≤ ((j : Nat) : Int) ∧ ((j : Nat) : Int) < _
    omega
end
/-! ### closed sets -/
theorem clz_all {cs : List Nat} {r1 r2 : List (List Int)} {e1 e2 : List Int} (W1 : WfM cs r1 e1) (W2 : WfM cs r2 e2) (h : r1.length * r2.length ≤ 6) : Clz cs r1 r2 (((List.range r1.length).map Int.ofNat).flatMap fun p => ((List.range r2.length).map Int.ofNat).map fun q => (p, q)) := by
  have mem : ∀ s : Pr, s ∈ (((List.range r1.length).map Int.ofNat).flatMap fun p => ((List.range r2.length).map Int.ofNat).map fun q => (p, q)) ↔ (0 ≤ s.1 ∧ s.1 < (r1.length : Int)) ∧ 0 ≤ s.2 ∧ s.2 < (r2.length : Int) := by
    intro s
    rw [List.mem_flatMap]
    constructor
    · rintro ⟨p, hp, hq⟩
      obtain ⟨i, hi, rfl⟩ := List.mem_map.mp hp
      obtain ⟨q, hq', rfl⟩ := List.mem_map.mp hq
      obtain ⟨j, hj, rfl⟩ := List.mem_map.mp hq'
      have := List.mem_range.mp hi
      have := List.mem_range.mp hj
      show ((0 : Int) ≤ ((i : Nat) : Int) ∧ ((i : Nat) : Int) < _) ∧ (0 : Int) ≤ ((j : Nat) : Int) ∧ ((j : Nat) : Int) < _
      omega
    · rintro ⟨⟨h1, h2⟩, h3, h4⟩
      refine ⟨s.1, List.mem_map.mpr ⟨s.1.toNat, List.mem_range.mpr (by omega), ?_⟩, List.mem_map.mpr ⟨s.2, List.mem_map.mpr ⟨s.2.toNat, List.mem_range.mpr (by omega), ?_⟩, rfl⟩⟩
      · show ((s.1.toNat : Nat) : Int) = s.1
        omega
      · show ((s.2.toNat : Nat) : Int) = s.2
        omega
  have o1 := W1.one
  have o2 := W2.one
  refine ⟨?_, (mem _).mpr ⟨⟨Int.le_refl _, by show (0 : Int) < _; omega⟩, Int.le_refl _, by show (0 : Int) < _; omega⟩, fun s hs c hc => ?_, fun s hs => (mem s).mp hs⟩
  · have : ∀ (l : List Int) (m : Nat), (l.flatMap fun p => ((List.range m).map Int.ofNat).map fun q => ((p, q) : Pr)).length = l.length * m := by
      intro l m
      induction l with
      | nil => simp
      | cons a l ih => rw [List.flatMap_cons, List.length_append, ih, List.length_map, List.length_map, List.length_range, List.length_cons, Nat.succ_mul, Nat.add_comm]
    rw [this, List.length_map, List.length_range]
    exact h
  · obtain ⟨⟨h1, h2⟩, h3, h4⟩ := (mem s).mp hs
    obtain ⟨_, _, _, _, n0, n1⟩ := W1.nxt_ok h1 h2 hc
    obtain ⟨_, _, _, _, k0, k1⟩ := W2.nxt_ok h3 h4 hc
    exact (mem _).mpr ⟨⟨n0, n1⟩, k0, k1⟩
theorem clz_diag {cs : List Nat} {r : List (List Int)} {e : List Int} (W : WfM cs r e) (h : r.length ≤ 6) : Clz cs r r ((List.range r.length).map fun (j : Nat) => (((j : Nat) : Int), ((j : Nat) : Int))) := by
  have mem : ∀ s : Pr, s ∈ ((List.range r.length).map fun j => (((j : Nat) : Int), ((j : Nat) : Int))) ↔ s.1 = s.2 ∧ 0 ≤ s.1 ∧ s.1 < (r.length : Int) := by
    intro s
    rw [List.mem_map]
    constructor
    · rintro ⟨j, hj, rfl⟩
      have := List.mem_range.mp hj
      exact ⟨rfl, by show (0 : Int) ≤ ((j : Nat) : Int); omega, by show ((j : Nat) : Int) < _; omega⟩
    · rintro ⟨h1, h2, h3⟩
      refine ⟨s.1.toNat, List.mem_range.mpr (by omega), Prod.ext ?_ ?_⟩
      · show ((s.1.toNat : Nat) : Int) = s.1
        omega
      · show ((s.1.toNat : Nat) : Int) = s.2
        omega
  have o1 := W.one
  refine ⟨by rw [List.length_map, List.length_range]; exact h, (mem (0, 0)).mpr ⟨rfl, Int.le_refl _, by show (0 : Int) < (r.length : Int); omega⟩, fun s hs c hc => ?_, fun s hs => ?_⟩
  · obtain ⟨h1, h2, h3⟩ := (mem s).mp hs
    obtain ⟨_, _, _, _, n0, n1⟩ := W.nxt_ok h2 h3 hc
    refine (mem _).mpr ⟨?_, n0, n1⟩
    show nxt cs r s.1 c = nxt cs r s.2 c
    rw [h1]
  · obtain ⟨h1, h2, h3⟩ := (mem s).mp hs
    exact ⟨⟨h2, h3⟩, by omega, by omega⟩
/-- the least machine has no more states than the given one -/
theorem least_len {m : Nat} {cs : List Nat} {rows rw' : List (List Int)} {ends en' : List Int} (L : Least m cs rows ends rw' en') : rw'.length ≤ rows.length := by
  obtain ⟨fd, κ, r, ks, O, k, hrm, bi, fs, _, rfl, rfl⟩ := L
  have hfl : fd.length ≤ rows.length := nodup_len _ _ O.nd O.rg
  have hkl : ks.length ≤ fd.length := by
    have := len_subG ks (fd.map κ) fs.nd fun k hk => by
      obtain ⟨s, hs, e⟩ := (fs.mem k).mp hk
      rw [List.take_length] at hs
      exact List.mem_map.mpr ⟨s, hs, e⟩
    rwa [List.length_map] at this
  unfold rows'
  rw [List.length_map]
  omega
end SS

set_option maxRecDepth 100000
set_option maxHeartbeats 4000000
namespace SR
open PySem PySem.Spec PyProof.Rows L2
/-- {t: e}, t a tuple of ints and texts -/
def tDispT (tk tv : TE) : TE := fun σ H Q => ∀ p, H p = none → tk σ (upd H p (.dT [])) fun x H1 => tv σ H1 fun y H2 => H2 p = some (.dT []) ∧ ∃ b k, x = .ref b ∧ H2 b = some (.tup (k.map kV)) ∧ Q (.ref p) (upd H2 p (.dT [(k, y)]))
theorem pe_dispT {X : Cx} {ke ve : Expr} {tk tv : TE} {pos : Pos} (hu : X.A.units + 1 < cLine) (hk : PE X ke tk) (hv : PE X ve tv) : PE X (.Dict [some ke] [ve] pos) (tDispT tk tv) := by
  refine ⟨fun pins s σ H Q I q => ?_⟩
  have hn := I.hok.fresh (Nat.le_refl s.heap.objs.size)
  have I1 := I.laid (a := s.heap.objs.size) (o := .dT []) (h' := s.heap.push { cls := .type "dict", data := .dict #[] }) (t' := s.toks) (fun _ _ q => Heap.get?_push_of_some _ q) (Nat.le_refl _) (dt_empty s.heap I.big)
  have h1 := (pps_cons (pos := pos) hk hv pps_nil).run pins _ σ _ (fun ps H2 => match ps with
    | [(x, y)] => H2 s.heap.objs.size = some (.dT []) ∧ ∃ b k, x = .ref b ∧ H2 b = some (.tup (k.map kV)) ∧ Q (.ref s.heap.objs.size) (upd H2 s.heap.objs.size (.dT [(k, y)]))
    | _ => False) I1 (q _ hn)
  have hsh : (evalEachOpt [some ke] X.env).zip ((evalEach [ve] X.env).map fun v => do let x ← v; standAt pos; pure x) = (pairTrees [some ke] [ve] X.env pos).map fun p => (some p.1, p.2) := by rfl
  rw [arm_eval_Dict, hsh, dictDisplay_pairs _ (by simp [pairTrees]) (by simp [pairTrees])]
  refine wpAny_bind (wpAny_standAt (wpAny_bind (wpAny_subDictH (knd := tupleKind (mixKind X.prog X.w)) (Nat.lt_of_succ_lt hu) (by simp [pairTrees]) (thn h1 fun ws s2 ⟨ps, H2, I2, rel, q2⟩ => ?_))))
  match ps, rel, q2 with
  | [(x, y)], .cons (b := wv) ⟨rx, ry⟩ .nil, ⟨e, b, k, ex, eb, q3⟩ =>
    obtain ⟨w1, w2⟩ := wv
    subst ex
    obtain rfl : w1 = Value.ref b := rx
    obtain ⟨z, hd, xs, r0, dd⟩ := dt_of I2.hok e
    cases r0
    refine ⟨[(k, b, w2)], ⟨rfl, rfl, key_of I2.hok eb, trivial⟩, dd, fun h' tk dd' hs => wpAny_pure ⟨.ref s.heap.objs.size, _, ?_, rfl, q3⟩⟩
    obtain ⟨o, es, ep, g1, g2, g3, g4, g5, g6⟩ := dd'
    have nb : b ≠ s.heap.objs.size := fun z => by
      rw [z, e] at eb
      cases eb
    exact d_write I2 (by rw [e]; exact True.intro) hs ⟨o, g1⟩ ⟨by show 1 ≤ sizeLine; decide, hd, [(k, b, w2)], .cons ⟨rfl, by rw [upd_ne nb]; exact eb, ry⟩ .nil, o, es, ep, g1, g2, g3, g4, g6⟩
end SR

set_option maxRecDepth 100000
set_option maxHeartbeats 4000000
namespace SS
open PySem L2 SR TL
/-! ### states as they are first reached, with their texts -/
section
variable {α : Type} [DecidableEq α]
def addP (L : List (α × List Nat)) : List (α × List Nat) → List (α × List Nat)
  | [] => L
  | g :: gs => addP (if g.1 ∈ L.map (·.1) then L else L ++ [g]) gs
theorem addP_prefix (gs : List (α × List Nat)) : ∀ L : List (α × List Nat), ∃ t, addP L gs = L ++ t := by
  induction gs with
  | nil => intro L; exact ⟨[], (List.append_nil L).symm⟩
  | cons g gs ih =>
    intro L
    obtain ⟨t, h⟩ := ih (if g.1 ∈ L.map (·.1) then L else L ++ [g])
    by_cases hm : g.1 ∈ L.map (·.1)
    · rw [if_pos hm] at h
      exact ⟨t, by show addP (if g.1 ∈ L.map (·.1) then L else L ++ [g]) gs = _; rw [if_pos hm]; exact h⟩
    · rw [if_neg hm] at h
      exact ⟨[g] ++ t, by show addP (if g.1 ∈ L.map (·.1) then L else L ++ [g]) gs = _; rw [if_neg hm, h, List.append_assoc]⟩
theorem addP_app (a b : List (α × List Nat)) : ∀ L : List (α × List Nat), addP L (a ++ b) = addP (addP L a) b := by
  induction a with
  | nil => intro L; rfl
  | cons g a ih => intro L; exact ih _
theorem addP_none {gs : List (α × List Nat)} : ∀ {L : List (α × List Nat)}, (∀ g ∈ gs, g.1 ∈ L.map (·.1)) → addP L gs = L := by
  induction gs with
  | nil => intro L _; rfl
  | cons g gs ih =>
    intro L h
    show addP (if g.1 ∈ L.map (·.1) then L else L ++ [g]) gs = L
    rw [if_pos (h g List.mem_cons_self)]
    exact ih fun u hu => h u (List.mem_cons_of_mem _ hu)
theorem addP_fst (gs : List (α × List Nat)) : ∀ L : List (α × List Nat), (addP L gs).map (·.1) = addA (L.map (·.1)) (gs.map (·.1)) := by
  induction gs with
  | nil => intro L; rfl
  | cons g gs ih =>
    intro L
    show (addP (if g.1 ∈ L.map (·.1) then L else L ++ [g]) gs).map (·.1) = addA (if g.1 ∈ L.map (·.1) then L.map (·.1) else L.map (·.1) ++ [g.1]) (gs.map (·.1))
    rw [ih]
    by_cases hm : g.1 ∈ L.map (·.1)
    · rw [if_pos hm, if_pos hm]
    · rw [if_neg hm, if_neg hm, List.map_append]
      rfl
theorem addP_only {gs : List (α × List Nat)} : ∀ {L : List (α × List Nat)} {k : α × List Nat}, k ∈ addP L gs → k ∈ L ∨ k ∈ gs := by
  induction gs with
  | nil => intro L k h; exact .inl h
  | cons g gs ih =>
    intro L k h
    rcases ih (L := if g.1 ∈ L.map (·.1) then L else L ++ [g]) h with z | z
    · by_cases hm : g.1 ∈ L.map (·.1)
      · rw [if_pos hm] at z; exact .inl z
      · rw [if_neg hm] at z
        rcases List.mem_append.mp z with y | y
        · exact .inl y
        · exact .inr (by rw [List.mem_singleton.mp y]; exact List.mem_cons_self)
    · exact .inr (List.mem_cons_of_mem _ z)
theorem find_skip {β : Type} {P : β → Bool} {g : β} {M : List β} (h : P g = false) : ∀ L : List β, (L ++ g :: M).find? P = (L ++ M).find? P
  | [] => by simp [List.find?_cons, h]
  | a :: L => by
    cases ha : P a with
    | true => simp [List.find?_cons, ha]
    | false =>
      have := find_skip (M := M) h L
      simpa [List.find?_cons, ha] using this
theorem find_same {p : α → Bool} {g : α × List Nat} : ∀ {L M : List (α × List Nat)}, g.1 ∈ L.map (·.1) → (L ++ g :: M).find? (fun e => p e.1) = (L ++ M).find? (fun e => p e.1)
  | [], M, h => by simp at h
  | e :: L, M, h => by
    cases hp : p e.1 with
    | true => simp [List.find?_cons, hp]
    | false =>
      have h2 : (L ++ g :: M).find? (fun e => p e.1) = (L ++ M).find? (fun e => p e.1) := by
        rcases List.mem_cons.mp (by simpa using h : g.1 ∈ e.1 :: L.map (·.1)) with z | z
        · exact find_skip (P := fun e : α × List Nat => p e.1) (by show p g.1 = false; rw [z]; exact hp) L
        · exact find_same z
      simpa [List.find?_cons, hp] using h2
theorem addP_find {p : α → Bool} (gs : List (α × List Nat)) : ∀ L : List (α × List Nat), (addP L gs).find? (fun e => p e.1) = (L ++ gs).find? (fun e => p e.1) := by
  induction gs with
  | nil => intro L; rw [List.append_nil]; rfl
  | cons g gs ih =>
    intro L
    show (addP (if g.1 ∈ L.map (·.1) then L else L ++ [g]) gs).find? _ = _
    rw [ih]
    by_cases hm : g.1 ∈ L.map (·.1)
    · rw [if_pos hm, find_same hm]
    · rw [if_neg hm, List.append_assoc]
      rfl
inductive BEP (cs : List Nat) (δ : α → Nat → α) (q0 : α) : Nat → List (α × List Nat) → Prop
  | start : BEP cs δ q0 0 [(q0, [])]
  | turn {n : Nat} {L : List (α × List Nat)} {e : α × List Nat} : BEP cs δ q0 n L → L[n]? = some e → BEP cs δ q0 (n + 1) (addP L (cs.map fun c => (δ e.1 c, e.2 ++ [c])))
theorem BEP.fn {cs : List Nat} {δ : α → Nat → α} {q0 : α} : ∀ {n : Nat} {L L' : List (α × List Nat)}, BEP cs δ q0 n L → BEP cs δ q0 n L' → L = L'
  | 0, _, _, .start, .start => rfl
  | n + 1, _, _, .turn b h, .turn b' h' => by
    have e := BEP.fn b b'
    subst e
    rw [h] at h'
    cases h'
    rfl
theorem BEP.down {cs : List Nat} {δ : α → Nat → α} {q0 : α} {n : Nat} : ∀ {m : Nat} {M : List (α × List Nat)}, BEP cs δ q0 m M → n < m → ∃ e M', BEP cs δ q0 n M' ∧ M'[n]? = some e ∧ ∃ t, M = M' ++ t := by
  intro m
  induction m with
  | zero => intro M _ lt; omega
  | succ m ih =>
    intro M b lt
    cases b with
    | @turn _ L0 e0 b0 h0 =>
      obtain ⟨t, et⟩ := addP_prefix (cs.map fun c => (δ e0.1 c, e0.2 ++ [c])) L0
      by_cases e : n = m
      · subst e
        exact ⟨_, _, b0, h0, t, et⟩
      · obtain ⟨e', M', b1, h1, t', et'⟩ := ih b0 (by omega)
        exact ⟨e', M', b1, h1, t' ++ t, by rw [et, et', List.append_assoc]⟩
/-- what has come so far is the beginning of what comes at last -/
theorem BEP.pre {cs : List Nat} {δ : α → Nat → α} {q0 : α} {n m : Nat} {L M : List (α × List Nat)} (b : BEP cs δ q0 n L) (b' : BEP cs δ q0 m M) (h : M.length ≤ m) : ∃ t, M = L ++ t := by
  rcases Nat.lt_trichotomy n m with lt | e | gt
  · obtain ⟨e, M', b1, _, t, et⟩ := b'.down lt
    rw [b.fn b1]
    exact ⟨t, et⟩
  · subst e
    rw [b.fn b']
    exact ⟨[], (List.append_nil _).symm⟩
  · obtain ⟨e, M', b1, h1, _⟩ := b.down gt
    have := b1.fn b'
    subst this
    have := (List.getElem?_eq_some_iff.mp h1).1
    omega
def pr (δ : α → Nat → α) (q0 : α) (x : List Nat) : α × List Nat := (x.foldl δ q0, x)
theorem BEP.sound {cs : List Nat} {δ : α → Nat → α} {q0 : α} : ∀ {n : Nat} {L : List (α × List Nat)}, BEP cs δ q0 n L → ∀ (i : Nat) (e : α × List Nat), L[i]? = some e → e = pr δ q0 e.2 ∧ (∀ c ∈ e.2, c ∈ cs) ∧ e.2.length ≤ i := by
  intro n
  induction n with
  | zero =>
    intro L b i e h
    cases b
    have : e ∈ [(q0, ([] : List Nat))] := List.mem_of_getElem? h
    have := List.mem_singleton.mp this
    subst this
    exact ⟨rfl, fun c hc => (nomatch hc), Nat.zero_le _⟩
  | succ n ih =>
    intro L b i e h
    cases b with
    | @turn _ L0 e0 b0 h0 =>
      obtain ⟨t, et⟩ := addP_prefix (cs.map fun c => (δ e0.1 c, e0.2 ++ [c])) L0
      by_cases hi : i < L0.length
      · rw [et, List.getElem?_append_left hi] at h
        exact ih b0 i e h
      · obtain ⟨s1, s2, s3⟩ := ih b0 n e0 h0
        have hn := (List.getElem?_eq_some_iff.mp h0).1
        rcases addP_only (List.mem_of_getElem? h) with z | z
        · obtain ⟨j, hj⟩ := List.mem_iff_getElem?.mp z
          obtain ⟨u1, u2, u3⟩ := ih b0 j e hj
          have := (List.getElem?_eq_some_iff.mp hj).1
          exact ⟨u1, u2, by omega⟩
        · obtain ⟨c, hc, rfl⟩ := List.mem_map.mp z
          refine ⟨?_, fun d hd => ?_, by simp; omega⟩
          · unfold pr
            show (δ e0.1 c, e0.2 ++ [c]) = ((e0.2 ++ [c]).foldl δ q0, e0.2 ++ [c])
            rw [List.foldl_append]
            have : e0.1 = e0.2.foldl δ q0 := congrArg Prod.fst s1
            rw [this]
            rfl
          · rcases List.mem_append.mp hd with y | y
            · exact s2 d y
            · rw [List.mem_singleton.mp y]; exact hc
theorem take_pre {β : Type} {a b c t u : List β} (h1 : c = a ++ t) (h2 : c = b ++ u) (h : a.length ≤ b.length) : ∃ v, b = a ++ v := by
  refine ⟨b.drop a.length, ?_⟩
  have e1 : c.take a.length = a := by rw [h1]; simp
  have e2 : b.take a.length = c.take a.length := by rw [h2, List.take_append_of_le_length h]
  have e3 := List.take_append_drop a.length b
  rw [e2, e1] at e3
  exact e3.symm
/-- along the texts, each of which is looked at in its turn -/
theorem bep_texts {cs : List Nat} {δ : α → Nat → α} {q0 : α} (h1 : 1 ≤ cs.length) (k : Nat) : ∃ n, BEP cs δ q0 n (addP [] ((txs cs (k + 1)).map (pr δ q0))) := by
  have key : ∀ j, j ≤ (txs cs k).length → BEP cs δ q0 (addP [] (((txs cs k).take j).map (pr δ q0))).length (addP [] (([] :: ((txs cs k).take j).flatMap (kids cs)).map (pr δ q0))) := by
    intro j
    induction j with
    | zero => intro _; exact .start
    | succ j ih =>
      intro hj
      have b := ih (by omega)
      obtain ⟨x, hx⟩ : ∃ x, (txs cs k)[j]? = some x := ⟨_, List.getElem?_eq_getElem (by omega)⟩
      have et : (txs cs k).take (j + 1) = (txs cs k).take j ++ [x] := by rw [List.take_add_one, hx]; rfl
      -- the first j + 1 texts lie among the children of the first j
      obtain ⟨v, hv⟩ : ∃ v, [] :: ((txs cs k).take j).flatMap (kids cs) = (txs cs k).take (j + 1) ++ v := by
        have c1 : txs cs (k + 1) = (txs cs k).take (j + 1) ++ ((txs cs k).drop (j + 1) ++ lay cs (k + 1)) := by
          rw [← List.append_assoc, List.take_append_drop]; rfl
        have c2 : txs cs (k + 1) = ([] :: ((txs cs k).take j).flatMap (kids cs)) ++ ((txs cs k).drop j).flatMap (kids cs) := by
          rw [txs_succ, List.cons_append, ← List.flatMap_append, List.take_append_drop]
        refine take_pre c1 c2 ?_
        rw [List.length_take, List.length_cons, len_kids, List.length_take]
        have hm : min j (txs cs k).length = j := by omega
        rw [hm]
        have : j ≤ j * cs.length := Nat.le_mul_of_pos_right j h1
        omega
      have hL : addP [] (([] :: ((txs cs k).take j).flatMap (kids cs)).map (pr δ q0)) = addP (addP [] (((txs cs k).take (j + 1)).map (pr δ q0))) (v.map (pr δ q0)) := by
        rw [hv, List.map_append, addP_app]
      obtain ⟨t, ht⟩ := addP_prefix (v.map (pr δ q0)) (addP [] (((txs cs k).take (j + 1)).map (pr δ q0)))
      rw [ht] at hL
      have eL : addP [] (([] :: ((txs cs k).take (j + 1)).flatMap (kids cs)).map (pr δ q0)) = addP (addP [] (([] :: ((txs cs k).take j).flatMap (kids cs)).map (pr δ q0))) ((kids cs x).map (pr δ q0)) := by
        rw [et, List.flatMap_append, ← List.cons_append, List.map_append, addP_app]
        simp
      have eF : addP [] (((txs cs k).take (j + 1)).map (pr δ q0)) = if (pr δ q0 x).1 ∈ (addP [] (((txs cs k).take j).map (pr δ q0))).map (·.1) then addP [] (((txs cs k).take j).map (pr δ q0)) else addP [] (((txs cs k).take j).map (pr δ q0)) ++ [pr δ q0 x] := by
        rw [et, List.map_append, addP_app]
        rfl
      have ek : (kids cs x).map (pr δ q0) = cs.map fun c => (δ (pr δ q0 x).1 c, (pr δ q0 x).2 ++ [c]) := by
        unfold kids
        rw [List.map_map]
        refine List.map_congr_left fun c _ => ?_
        show ((x ++ [c]).foldl δ q0, x ++ [c]) = _
        rw [List.foldl_append]
        rfl
      rw [eL]
      by_cases hm : (pr δ q0 x).1 ∈ (addP [] (((txs cs k).take j).map (pr δ q0))).map (·.1)
      · rw [eF, if_pos hm]
        have same : addP (addP [] (([] :: ((txs cs k).take j).flatMap (kids cs)).map (pr δ q0))) ((kids cs x).map (pr δ q0)) = addP [] (([] :: ((txs cs k).take j).flatMap (kids cs)).map (pr δ q0)) := by
          refine addP_none ?_
          intro g hg
          rw [ek] at hg
          obtain ⟨c, hc, rfl⟩ := List.mem_map.mp hg
          obtain ⟨e, he, ee⟩ := List.mem_map.mp hm
          rcases addP_only he with z | z
          · cases z
          · obtain ⟨y, hy, rfl⟩ := List.mem_map.mp z
            rw [addP_fst]
            refine addA_mem _ (List.mem_map.mpr ⟨pr δ q0 (y ++ [c]), List.mem_map.mpr ⟨y ++ [c], List.mem_cons_of_mem _ (List.mem_flatMap.mpr ⟨y, hy, List.mem_map.mpr ⟨c, hc, rfl⟩⟩), rfl⟩, ?_⟩)
            show (y ++ [c]).foldl δ q0 = δ (pr δ q0 x).1 c
            rw [List.foldl_append, ← ee]
            rfl
        rw [same]
        exact b
      · rw [if_neg hm] at eF
        rw [eF, List.length_append, List.length_singleton, ek]
        refine .turn b ?_
        rw [hL, eF, List.append_assoc, List.getElem?_append_right (Nat.le_refl _), Nat.sub_self]
        rfl
  have := key (txs cs k).length (Nat.le_refl _)
  rw [List.take_length, ← txs_succ] at this
  exact ⟨_, this⟩
/-- what is found at last is what the texts find -/
theorem bep_all {cs : List Nat} {δ : α → Nat → α} {q0 : α} (h1 : 1 ≤ cs.length) {m : Nat} {M : List (α × List Nat)} (b : BEP cs δ q0 m M) (hm : M.length ≤ m) (K : Nat) (hK : M.length ≤ K + 1) (nd : (M.map (·.1)).Nodup) : addP [] ((txs cs K).map (pr δ q0)) = M := by
  have pre : ∃ t, M = addP [] ((txs cs K).map (pr δ q0)) ++ t := by
    cases K with
    | zero => exact BEP.start.pre b hm
    | succ k =>
      obtain ⟨n, b'⟩ := bep_texts (δ := δ) (q0 := q0) h1 k
      exact b'.pre b hm
  obtain ⟨t, ht⟩ := pre
  cases t with
  | nil => rw [List.append_nil] at ht; exact ht.symm
  | cons e t =>
    exfalso
    have he : M[(addP [] ((txs cs K).map (pr δ q0))).length]? = some e := by
      rw [ht, List.getElem?_append_right (Nat.le_refl _), Nat.sub_self]
      rfl
    obtain ⟨s1, s2, s3⟩ := b.sound _ _ he
    have hl := (List.getElem?_eq_some_iff.mp he).1
    have hx : e.2 ∈ txs cs K := mem_txs.mpr ⟨s2, by omega⟩
    have hin : e.1 ∈ (addP [] ((txs cs K).map (pr δ q0))).map (·.1) := by
      rw [addP_fst]
      refine addA_mem _ (List.mem_map.mpr ⟨pr δ q0 e.2, List.mem_map.mpr ⟨_, hx, rfl⟩, ?_⟩)
      rw [← s1]
    rw [ht, List.map_append, List.nodup_append] at nd
    exact nd.2.2 e.1 hin e.1 (by simp) rfl
theorem BEP.nd {cs : List Nat} {δ : α → Nat → α} {q0 : α} : ∀ {n : Nat} {L : List (α × List Nat)}, BEP cs δ q0 n L → (L.map (·.1)).Nodup
  | 0, _, .start => by simp
  | n + 1, _, .turn b h => by rw [addP_fst]; exact addA_nodup b.nd
end
end SS

set_option maxRecDepth 100000
set_option maxHeartbeats 4000000
namespace SS
open PySem L2 SR TL
/-! ### what the walk of product keeps -/
def PtAt (H : Hp) (a : Addr) (s : Pr) : Prop := H a = some (.tup [.int s.1, .int s.2])
def kyP (s : Pr) : List Key := [Sum.inl s.1, Sum.inl s.2]
def numT (L : List Pr) : List (List Key × V) := L.map fun s => (kyP s, V.int ((L.idxOf s : Nat) : Int))
theorem kyP_inj {s t : Pr} (h : kyP s = kyP t) : s = t := by
  unfold kyP at h
  injection h with h1 h2
  injection h2 with h3 _
  exact Prod.ext (Sum.inl.inj h1) (Sum.inl.inj h3)
theorem val_numT (L : List Pr) (s : Pr) : valV (numT L) (kyP s) = if s ∈ L then some (V.int ((L.idxOf s : Nat) : Int)) else none := by
  have key : ∀ (f : Pr → V) (M : List Pr), valV (M.map fun u => (kyP u, f u)) (kyP s) = if s ∈ M then some (f s) else none := by
    intro f M
    induction M with
    | nil => rfl
    | cons u M ih =>
      unfold valV at ih ⊢
      rw [List.map_cons]
      by_cases e : u = s
      · subst e
        rw [List.find?_cons_of_pos (by simp), if_pos List.mem_cons_self]
        rfl
      · have ne : ¬ kyP u = kyP s := fun z => e (kyP_inj z)
        rw [List.find?_cons_of_neg (by simpa using ne), ih]
        have : (s ∈ u :: M) ↔ s ∈ M := by
          rw [List.mem_cons]
          exact ⟨fun z => z.elim (fun y => absurd y.symm e) id, .inr⟩
        by_cases hm : s ∈ M
        · rw [if_pos hm, if_pos (this.mpr hm)]
        · rw [if_neg hm, if_neg (fun z => hm (this.mp z))]
  exact key _ L
theorem put_numT {L : List Pr} {g : Pr} (h : g ∉ L) : putK (numT L) (kyP g) (.int ((L.length : Nat) : Int)) = numT (L ++ [g]) := by
  rw [putK_new _ (by rw [val_numT, if_neg h])]
  unfold numT
  rw [List.map_append]
  have e1 : (L.map fun s => (kyP s, V.int (((L ++ [g]).idxOf s : Nat) : Int))) = L.map fun s => (kyP s, V.int ((L.idxOf s : Nat) : Int)) := List.map_congr_left fun s hs => by rw [idxOf_app hs]
  rw [e1]
  show _ ++ _ = _ ++ [(kyP g, V.int (((L ++ [g]).idxOf g : Nat) : Int))]
  rw [idxOf_new h]
structure PInv (H0 H' : Hp) (pp tx pw nb : Addr) (cs : List Nat) (L : List Pr) (us : List (List Nat)) (qs : List Addr) (R : List (List Int)) : Prop where
  same : Same H0 H'
  hp : ∃ ts, H' pp = some (.lst (ts.map .ref)) ∧ Paired (PtAt H') ts L
  hx : H' tx = some (.lst (us.map txtV)) ∧ us.length = L.length ∧ ∀ u ∈ us, u.length ≤ L.length
  hw : H' pw = some (.lst (qs.map .ref))
  hr : Paired (RowAt H' cs) qs R
  hn : H' nb = some (.dT (numT L))
section
variable {H0 H' H'' : Hp} {pp tx pw nb : Addr} {cs : List Nat} {L : List Pr} {us : List (List Nat)} {qs : List Addr} {R : List (List Int)}
theorem PInv.mono (I : PInv H0 H' pp tx pw nb cs L us qs R) (e : Same H' H'') : PInv H0 H'' pp tx pw nb cs L us qs R := by
  obtain ⟨ts, h1, h2⟩ := I.hp
  obtain ⟨h3, h4⟩ := I.hx
  exact ⟨I.same.trans e, ⟨ts, e _ _ h1, Paired.mono h2 fun _ _ h => e _ _ h⟩, ⟨e _ _ h3, h4⟩, e _ _ I.hw, Paired.mono I.hr fun _ _ h => e _ _ h, e _ _ I.hn⟩
/-- the dict of the row -/
theorem PInv.line (I : PInv H0 H' pp tx pw nb cs L us qs R) {d : Addr} {kv kv' : List (Key × V)} (n0 : H0 d = none) (hd : H' d = some (.dK kv)) (nq : ∀ q ∈ qs, q ≠ d) : PInv H0 (upd H' d (.dK kv')) pp tx pw nb cs L us qs R := by
  obtain ⟨ts, h1, h2⟩ := I.hp
  obtain ⟨h3, h4⟩ := I.hx
  refine ⟨same_upd I.same n0, ⟨ts, by rw [upd_ne (ne_of h1 hd (by intro z; cases z))]; exact h1, Paired.mono h2 fun a s h => ?_⟩, ⟨by rw [upd_ne (ne_of h3 hd (by intro z; cases z))]; exact h3, h4⟩, by rw [upd_ne (ne_of I.hw hd (by intro z; cases z))]; exact I.hw, ?_, by rw [upd_ne (ne_of I.hn hd (by intro z; cases z))]; exact I.hn⟩
  · show _ = _
    rw [upd_ne (ne_of h hd (by intro z; cases z))]
    exact h
  · have hr := I.hr
    clear I h2
    induction hr with
    | nil => exact .nil
    | @cons q row qs' R' h t ih =>
      refine .cons ?_ (ih fun u hu => nq u (List.mem_cons_of_mem _ hu))
      show _ = _
      rw [upd_ne (nq q List.mem_cons_self)]
      exact h
/-- a row is laid behind -/
theorem PInv.row (I : PInv H0 H' pp tx pw nb cs L us qs R) (n0 : H0 pw = none) (npw : pp ≠ pw) (nxw : tx ≠ pw) {d : Addr} {row : List Int} (hd : RowAt H' cs d row) : PInv H0 (upd H' pw (.lst (qs.map .ref ++ [.ref d]))) pp tx pw nb cs L us (qs ++ [d]) (R ++ [row]) := by
  obtain ⟨ts, h1, h2⟩ := I.hp
  obtain ⟨h3, h4⟩ := I.hx
  have key : ∀ {q : Addr} {r : List Int}, RowAt H' cs q r → RowAt (upd H' pw (.lst (qs.map .ref ++ [.ref d]))) cs q r := fun {q r} h => by
    show _ = _
    rw [upd_ne (ne_of h I.hw (by intro z; cases z))]
    exact h
  refine ⟨same_upd I.same n0, ⟨ts, by rw [upd_ne npw]; exact h1, Paired.mono h2 fun a s h => ?_⟩, ⟨by rw [upd_ne nxw]; exact h3, h4⟩, by rw [upd_same, List.map_append]; rfl, paired_snoc (Paired.mono I.hr fun _ _ h => key h) (key hd), by rw [upd_ne (ne_of I.hn I.hw (by intro z; cases z))]; exact I.hn⟩
  show _ = _
  rw [upd_ne (ne_of h I.hw (by intro z; cases z))]
  exact h
/-- a new pair -/
theorem PInv.add (I : PInv H0 H' pp tx pw nb cs L us qs R) (n0 : H0 pp = none) (n1 : H0 tx = none) (n3 : H0 nb = none) (npx : pp ≠ tx) (npw : pp ≠ pw) (nxw : tx ≠ pw) {g : Pr} {a : Addr} {u : List Nat} (ha : PtAt H' a g) (hu : u.length ≤ L.length + 1) {ts : List Addr} (hts : H' pp = some (.lst (ts.map .ref))) :
    PInv H0 (upd (upd (upd H' nb (.dT (numT (L ++ [g])))) tx (.lst (us.map txtV ++ [txtV u]))) pp (.lst (ts.map .ref ++ [.ref a]))) pp tx pw nb cs (L ++ [g]) (us ++ [u]) qs R := by
  obtain ⟨ts', h1, h2⟩ := I.hp
  obtain ⟨h3, h4, h5⟩ := I.hx
  have ets : ts' = ts := by
    rw [h1] at hts
    have := Option.some.inj hts
    injection this with this
    have inj : ∀ {l m : List Addr}, l.map V.ref = m.map V.ref → l = m := by
      intro l
      induction l with
      | nil =>
        intro m h
        cases m with
        | nil => rfl
        | cons _ _ => cases h
      | cons x l ih =>
        intro m h
        cases m with
        | nil => cases h
        | cons y m =>
          rw [List.map_cons, List.map_cons] at h
          injection h with e1 e2
          injection e1 with e1
          rw [e1, ih e2]
    exact inj this
  subst ets
  have nbt : ∀ {b : Addr} {o : HO}, H' b = some o → (∀ m, o ≠ .lst m) → (∀ m, o ≠ .dT m) → (upd (upd (upd H' nb (.dT (numT (L ++ [g])))) tx (.lst (us.map txtV ++ [txtV u]))) pp (.lst (ts'.map .ref ++ [.ref a]))) b = some o := fun {b o} hb hl hd => by
    rw [upd_ne (ne_of hb h1 (fun z => hl _ z)), upd_ne (ne_of hb h3 (fun z => hl _ z)), upd_ne (ne_of hb I.hn (fun z => hd _ z))]
    exact hb
  have npn : pp ≠ nb := ne_of h1 I.hn (by intro z; cases z)
  have nxn : tx ≠ nb := ne_of h3 I.hn (by intro z; cases z)
  have nwn : pw ≠ nb := ne_of I.hw I.hn (by intro z; cases z)
  refine ⟨same_upd (same_upd (same_upd I.same n3) n1) n0, ⟨ts' ++ [a], by rw [upd_same, List.map_append]; rfl, paired_snoc (Paired.mono h2 fun _ _ h => nbt h (fun _ => nofun) (fun _ => nofun)) (nbt ha (fun _ => nofun) (fun _ => nofun))⟩, ⟨?_, by simp [h4], fun v hv => ?_⟩, ?_, Paired.mono I.hr fun _ _ h => nbt h (fun _ => nofun) (fun _ => nofun), ?_⟩
  · rw [upd_ne (Ne.symm npx), upd_same, List.map_append]; rfl
  · rw [List.length_append]
    rcases List.mem_append.mp hv with z | z
    · have := h5 v z
      show _ ≤ L.length + 1
      omega
    · rw [List.mem_singleton.mp z]
      exact hu
  · rw [upd_ne (Ne.symm npw), upd_ne (Ne.symm nxw), upd_ne nwn]; exact I.hw
  · rw [upd_ne (Ne.symm npn), upd_ne (Ne.symm nxn), upd_same]
end
theorem rowK_snoc {cs : List Nat} {i : Nat} {c : Nat} {row : List Int} {j : Int} (nd : cs.Nodup) (hc : cs[i]? = some c) (hl : row.length = i) : putK (rowK (cs.take i) row) (Sum.inr (lt c)) (.int j) = rowK (cs.take (i + 1)) (row ++ [j]) := by
  have hi := (List.getElem?_eq_some_iff.mp hc).1
  have hn : c ∉ cs.take i := fun h => by
    obtain ⟨k, hk, e⟩ := List.mem_iff_getElem.mp h
    rw [List.length_take] at hk
    rw [List.getElem_take] at e
    have e2 := (List.getElem?_eq_some_iff.mp hc).2
    have := (List.getElem_inj (h₀ := by omega) (h₁ := hi) nd).mp (e.trans e2.symm)
    omega
  rw [putK_new _ (val_row_none hn), List.take_add_one, hc]
  unfold rowK
  rw [show (cs.take i ++ (some c).toList).zip (row ++ [j]) = (cs.take i).zip row ++ [(c, j)] from by
    rw [List.zip_append (by rw [List.length_take]; omega)]
    rfl, List.map_append]
  rfl
end SS

set_option maxRecDepth 100000
set_option maxHeartbeats 4000000
namespace SR
open PySem PySem.Spec PyProof.Rows L2
/-- sorted(text) -/
theorem cr_sortedTx {X : Cx} (hc : X.calm = true) : CallR X (.builtin "sorted") (fun vs H Q => ∃ z : Str, vs = [.str z] ∧ z.cps.toList.length < 64 ∧ ∀ (ys : List Str) (p : Addr), ys.Perm (z.cps.toList.map lt) → sortedS ys = true → H p = none → Q (.ref p) (upd H p (.lst (ys.map V.str)))) := by
  intro pins s σ H vs us Q I r h
  obtain ⟨z, rfl, hf, q⟩ := h
  obtain ⟨u, rfl, rx⟩ := vals1 r
  obtain ⟨t, rfl⟩ := rx
  have hsz : z.cps.size < 64 := by simpa using hf
  refine Calls.call_function_entry kind_sorted plain_sorted entry_sorted (args_sorted1 _) ?_
  unfold Builtin.«sorted»
  refine wpAny_bind (m := checkCount "sorted" 1 1 _) (wpAny_pure ?_)
  refine wpAny_bind (wpAny_collect_str (A := X.A.in1) (I.ok.hd hc) z t (hn := by rw [sizeLine_eq]; omega) fun s1 acc k1 g1 d1 o1 hacc => ?_)
  have hS : StrsAre acc.toList (z.cps.toList.map lt) := by
    have h1 : acc.size = z.cps.size := hacc.1
    have key : ∀ (l : List Nat) (ys : List Value), ys.length = l.length → (∀ (j : Nat) v, ys[j]? = some v → ∃ c, l[j]? = some c ∧ ∃ u, v = Value.str (lt c) u) → Vals ((l.map lt).map V.str) ys := by
      intro l
      induction l with
      | nil =>
        intro ys hl _
        have : ys = [] := List.length_eq_zero_iff.mp hl
        subst this
        exact .nil
      | cons c l ih =>
        intro ys hl hy
        cases ys with
        | nil => simp at hl
        | cons y ys =>
          obtain ⟨c', e, u, hu⟩ := hy 0 y rfl
          have e' : c = c' := by simpa using e
          subst e'
          refine .cons ⟨u, hu⟩ (ih ys (by simpa using hl) fun j v hv => hy (j + 1) v (by simpa using hv))
    refine Vals.strs (key _ _ (by simp [h1]) fun j v hv => ?_)
    obtain ⟨c, u, hc', e⟩ := hacc.2 j v (by simpa using hv)
    exact ⟨c, by simpa using hc', u, e⟩
  have hvl : acc.toList.length < 64 := by rw [Array.length_toList, hacc.1]; exact hsz
  refine wpAny_bind (wpAny_newList ?_ (by rw [sizeLine_eq]; omega))
  have hoL : (s1.heap.push (seqObj "list" acc.toList.toArray 0)).get? s1.heap.objs.size = some (seqObj "list" acc.toList.toArray 0) := Heap.get?_push_size _ rfl
  refine wpAny_bind (wpAny_holding (wpAny_call_entry slot_list_sort ⟨_, hoL, rfl⟩ entry_list_sort ?_ (args_list_sort _)))
  refine list_sort_treeK strKind_oneLt hoL hS.keysOf (fun v₁ v₂ rest e => keyKind_strs (by rw [← e]; exact hS)) hvl fun st' hp hs => ⟨_, rfl, ?_⟩
  obtain ⟨ys, h1, h2, h3⟩ := sorted_out_str hS hp hs
  obtain ⟨c, hc'⟩ := sortedHeap_at (vs := acc.toList) (out := (arrOf st').map (·.2)) hoL
  refine wpAny_pure ⟨_, rfl, ?_⟩
  have hnew : s.heap.get? s1.heap.objs.size = none := by
    cases e : s.heap.get? s1.heap.objs.size with
    | none => rfl
    | some o => exact absurd (Heap.lt_size (k1 _ _ e)) (Nat.lt_irrefl _)
  have hn : H s1.heap.objs.size = none := (I.hok.kept k1).fresh (Nat.le_refl _)
  have hl : (ys.map V.str).length ≤ sizeLine := by rw [List.length_map, h2.length_eq, List.length_map, sizeLine_eq]; omega
  have kk : ∀ b u, s.heap.get? b = some u → (sortedHeap (s1.heap.push (seqObj "list" acc.toList.toArray 0)) s1.heap.objs.size acc.toList ((arrOf st').map (·.2))).get? b = some u := fun b u e => by
    have q := k1 b u e
    have hlt := Heap.lt_size q
    rw [sortedHeap_old (Nat.ne_of_lt hlt) (by rw [size_push']; exact Nat.lt_succ_of_lt hlt)]
    exact Heap.get?_push_of_some _ q
  have J := I.laidN (a := s1.heap.objs.size) (o := .lst (ys.map V.str)) (t' := s1.toks) kk hnew hn ⟨hl, _, c, vals_of_strs h1, hc'⟩
  obtain ⟨hp1, gn1, dr1, tk1, os1⟩ := s1
  obtain ⟨hp0, gn0, dr0, tk0, os0⟩ := s
  have g1' : gn1 = gn0 := g1
  have d1' : dr1 = dr0 := d1
  have o1' : os1 = os0 := o1
  subst g1'
  subst d1'
  subst o1'
  exact ⟨.ref _, _, J, rfl, q ys _ h2 h3 hn⟩
end SR

set_option maxRecDepth 100000
set_option maxHeartbeats 4000000
namespace SR
open PySem PySem.Spec PyProof.Rows L2
open PySem.SeqAt
open AutoSeq1 (wpAny_loadPart')
open MeetsSeq
theorem int_eq_declines_inst (b : Int) (u : Tok) (l : Addr) (c : Value) (dd : Option Addr) (sl : Array (Option Value)) :
    Meets (Builtin.«int.__eq__» ⟨[.int b u, .ref l], []⟩) (fun _ R s => s.heap.get? l = some { cls := c, dict := dd, data := .plain, slots := sl } ∧ R (.ok (.ret .notImplemented)) s) :=
  .of_wp fun prog w A R s h => by obtain ⟨hp, g, d, tk, os⟩ := s; obtain ⟨hl, h⟩ := h; wp_walk using wpAny_loadPart' hl, wpAny_load hl; exact ⟨_, rfl, h⟩
theorem str_eq_declines_inst (b : Str) (u : Tok) (l : Addr) (c : Value) (dd : Option Addr) (sl : Array (Option Value)) :
    Meets (Builtin.«str.__eq__» ⟨[.str b u, .ref l], []⟩) (fun _ R s => s.heap.get? l = some { cls := c, dict := dd, data := .plain, slots := sl } ∧ R (.ok (.ret .notImplemented)) s) :=
  .of_wp fun prog w A R s h => by obtain ⟨hp, g, d, tk, os⟩ := s; obtain ⟨hl, h⟩ := h; wp_walk using wpAny_loadPart' hl, wpAny_load hl; exact ⟨_, rfl, h⟩
section
variable {prog : Program} {w : World} {A : Around} {E : Value → Shared → Prop} {s : Shared} {R : Result → Shared → Prop}
theorem list_eq_declines_inst {l x : Addr} (hx : ∀ (A : Around) (E : Value → Shared → Prop) (Q : Bool → Shared → Prop), Q false s → wpAny (model prog w) A (isInstance (.ref x) (.type "list")) Q E s) (h : R (.ok (.ret .notImplemented)) s) :
    wpAny (model prog w) A.in1 (Builtin.«list.__eq__» ⟨[.ref l, .ref x], []⟩) (fun fin s' => match fin with | .done f => R (.ok f) s' | .again c' => c'.quiet = true ∧ codeAny (model prog w) A c' R s') E s := by
  show wpAny _ _ (slotArgs "__eq__" 1 ⟨[.ref l, .ref x], []⟩ >>= _) _ _ _
  refine wpAny_bind (m := slotArgs "__eq__" 1 ⟨[.ref l, .ref x], []⟩) (wpAny_pure ?_)
  refine wpAny_bind (m := isInstance (.ref x) (.type "list")) (hx _ _ _ ?_)
  exact wpAny_pure h
theorem tuple_eq_declines_inst {l x : Addr} (hx : ∀ (A : Around) (E : Value → Shared → Prop) (Q : Bool → Shared → Prop), Q false s → wpAny (model prog w) A (isInstance (.ref x) (.type "tuple")) Q E s) (h : R (.ok (.ret .notImplemented)) s) :
    wpAny (model prog w) A.in1 (Builtin.«tuple.__eq__» ⟨[.ref l, .ref x], []⟩) (fun fin s' => match fin with | .done f => R (.ok f) s' | .again c' => c'.quiet = true ∧ codeAny (model prog w) A c' R s') E s := by
  show wpAny _ _ (slotArgs "__eq__" 1 ⟨[.ref l, .ref x], []⟩ >>= _) _ _ _
  refine wpAny_bind (m := slotArgs "__eq__" 1 ⟨[.ref l, .ref x], []⟩) (wpAny_pure ?_)
  refine wpAny_bind (m := isInstance (.ref x) (.type "tuple")) (hx _ _ _ ?_)
  exact wpAny_pure h
end
end SR

set_option maxRecDepth 100000
set_option maxHeartbeats 4000000
namespace SR
open PySem PySem.Spec PyProof.Rows L2
open PySem.SeqAt
section
variable {prog : Program} {w : World} {A : Around} {E : Value → Shared → Prop} {s : Shared} {K : PySem.W.Frag} {x C L f : Addr} {h₀ : Heap} {m : Str → Option Value} {ox : Obj} {od : Option Obj}
theorem dict_eq_declines_inst {R : Result → Shared → Prop} {l x : Addr} (hT : s.TypeIs (.ref l) "dict") (hx : ∀ (A : Around) (E : Value → Shared → Prop) (Q : Bool → Shared → Prop), Q false s → wpAny (model prog w) A (isInstance (.ref x) (.type "dict")) Q E s) (h : R (.ok (.ret .notImplemented)) s) :
    wpAny (model prog w) A.in1 (Builtin.«dict.__eq__» ⟨[.ref l, .ref x], []⟩) (fun fin s' => match fin with | .done f => R (.ok f) s' | .again c' => c'.quiet = true ∧ codeAny (model prog w) A c' R s') E s := by
  show wpAny _ _ (Builtin.Dict.dictSlotArgs "__eq__" ⟨[.ref l, .ref x], []⟩ >>= _) _ _ s
  refine wpAny_bind ?_
  unfold Builtin.Dict.dictSlotArgs
  refine wpAny_bind (wpAny_notOrdered_dict hT ?_)
  show wpAny _ _ (pure (Value.ref l, Value.ref x)) _ _ s
  refine wpAny_pure ?_
  refine wpAny_bind (hx _ _ _ ?_)
  simp only [Bool.not_false, if_true]
  exact wpAny_bind (wpAny_rule (wpAny_pure h))
/-- x == o, o of an own class with its own ==, x of a built-in type that declines -/
theorem rc_back {u : Value} {T id : String} {Q : Value → Shared → Prop} (hu : A.units < cLine) (F : Fr h₀ L s.heap m) (X₀ : K.In h₀) (hT : s.TypeIs u T) (I : PySem.W.InstAt s.heap x ox C od) (hsub : PySem.W.subIn K (.ref C) (.type T) = some false)
    (sl : Slot T "__eq__" id) (hc : ∀ Q' : Value → Shared → Prop, Q' .notImplemented s → wpAny (model prog w) A (call (.builtin id) [u, .ref x]) Q' E s)
    (hs : PySem.W.findIn K (.ref C) "__eq__" = some (some (.ref f))) (hf : PySem.W.isFn K (.ref f) = true)
    (h : wpAny (model prog w) A (call (.ref f) [.ref x, u]) (PySem.W.CmpBack Q) E s) : wpAny (model prog w) A (richCompare .Eq u (.ref x)) Q E s := by
  have X := X₀.keeps F.keep
  have one : wpAny (model prog w) A (tryCompare (.ref x) "__eq__" u) (fun r s' => ∃ v, r = some v ∧ Q v s') E s := by
    unfold tryCompare
    refine wpAny_bind (PySem.W.ifBound_K X I hs hf (wpAny_mono h (fun v s' hv => ?_) fun _ _ e => e))
    cases v <;> first | exact hv.elim | exact wpAny_pure ⟨_, rfl, hv⟩
  simp only [richCompare, cmpInfo, hT.oneThing_none]
  refine wpAny_holding (wpAny_bind (wpAny_cRoomFor hu ?_))
  refine wpAny_bind (wpAny_typeOf hT (wpAny_bind (I.type.here ?_)))
  have hne : (Value.type T != Value.ref C) = true := rfl
  rw [if_pos hne]
  refine wpAny_bind ((PySem.W.looks_subIn X hsub).here ?_)
  simp only [Bool.false_eq_true, if_false]
  refine wpAny_bind (wpAny_tryCompare_declines hT sl (hc _ ⟨rfl, ?_⟩))
  simp only [Bool.not_false, if_true]
  refine wpAny_bind (wpAny_mono one (fun r s' z => ?_) fun _ _ e => e)
  obtain ⟨v, rfl, hq⟩ := z
  exact wpAny_pure hq
end
/-- the built-in types of which a thing may be -/
structure OddC (K : PySem.W.Frag) (C : Addr) : Prop where
  to : ∀ T ∈ (["NoneType", "int", "str", "list", "tuple", "dict"] : List String), PySem.W.subIn K (.type T) (.ref C) = some false
  fro : ∀ T ∈ (["NoneType", "int", "str", "list", "tuple", "dict"] : List String), PySem.W.subIn K (.ref C) (.type T) = some false
  ic : PySem.W.isClsIn K C = true
  ty : PySem.W.typeIn K (.ref C) = some (.type "type")
theorem OddC.kit {K : PySem.W.Frag} {C : Addr} (o : OddC K C) {T : String} (h : T ∈ (["NoneType", "int", "str", "list", "tuple", "dict"] : List String)) : PySem.W.kitOne K (.type T) (.ref C) = some false := by
  unfold PySem.W.kitOne
  have nq : ¬ (Value.type T == Value.ref C) = true := fun q => by
    have z : Value.type T = Value.ref C := beq_iff_eq.mp q
    cases z
  rw [if_neg nq]
  unfold PySem.W.kitCls
  have h2' : (PySem.W.clsIn K C).isSome = true := o.ic
  show (if ((PySem.W.clsIn K C).isSome && PySem.W.typeIn K (.ref C) == some (.type "type")) = true then PySem.W.subIn K (.type T) (.ref C) else none) = some false
  rw [if_pos (by rw [h2', o.ty] <;> rfl)]
  exact o.to T h
/-- a thing of such a type -/
inductive Odd (H : Hp) : V → String → Prop
  | non : Odd H .non "NoneType"
  | int (i : Int) : Odd H (.int i) "int"
  | str (z : Str) : Odd H (.str z) "str"
  | lst {a : Addr} {xs : List V} : H a = some (.lst xs) → Odd H (.ref a) "list"
  | tup {a : Addr} {xs : List V} : H a = some (.tup xs) → Odd H (.ref a) "tuple"
  | dict {a : Addr} {kvs : List (Key × V)} : H a = some (.dK kvs) → Odd H (.ref a) "dict"
theorem Odd.mem {H : Hp} {v : V} {T : String} (o : Odd H v T) : T ∈ (["NoneType", "int", "str", "list", "tuple", "dict"] : List String) := by
  cases o <;> decide
theorem Odd.mono {H H' : Hp} {v : V} {T : String} (e : ∀ b o, H b = some o → H' b = some o) (o : Odd H v T) : Odd H' v T := by
  cases o with
  | non => exact .non
  | int i => exact .int i
  | str z => exact .str z
  | lst h => exact .lst (e _ _ h)
  | tup h => exact .tup (e _ _ h)
  | dict h => exact .dict (e _ _ h)
theorem Odd.tyx {K : PySem.W.Frag} {H : Hp} {v : V} {T : String} (o : Odd H v T) : TyX K H v (.type T) := by
  cases o with
  | non => exact .base .non
  | int i => exact .base (.int i)
  | str z => exact .base (.str z)
  | lst h => exact .base (.lst h)
  | tup h => exact .base (.tup h)
  | dict h => exact .base (.dK h)
section
variable {X : Cx}
theorem Odd.typeIs {pins : List (Addr × Obj)} {σ : L2.St} {H : Hp} {s : Shared} {v : V} {u : Value} {T : String} (I : Inv X pins σ H s) (o : Odd H v T) (r : RelV v u) : s.TypeIs u T := by
  cases o with
  | non => cases (show u = Value.none from r); rfl
  | int i => obtain ⟨t, rfl⟩ := r; exact typeIs_int s i t
  | str z => obtain ⟨t, rfl⟩ := r; exact typeIs_str s z t
  | @lst a xs h =>
    cases (show u = Value.ref a from r)
    obtain ⟨_, _, n, _, h1⟩ := (show ObjOk X.prog X.w H s.heap a (.lst xs) from I.hok a _ h)
    exact ⟨_, h1, rfl⟩
  | @tup a xs h =>
    cases (show u = Value.ref a from r)
    obtain ⟨_, _, _, o, h1, h2, _⟩ := (show ObjOk X.prog X.w H s.heap a (.tup xs) from I.hok a _ h)
    exact ⟨o, h1, h2⟩
  | @dict a kvs h =>
    cases (show u = Value.ref a from r)
    obtain ⟨_, _, vs, _, o, es, ep, h1, h2, _⟩ := (show ObjOk X.prog X.w H s.heap a (.dK kvs) from I.hok a _ h)
    exact ⟨o, h1, h2.1⟩
/-- o == x, x a thing of a built-in type -/
def rEqFwd (C : Addr) (sp : Sp) : R2 := fun x y H Q => ∃ a dx fs T, x = .ref a ∧ H a = some (.ins C dx fs) ∧ Odd H y T ∧ sp [.ref a, y] H (fun v H' => ∃ r, v = .bl r ∧ Q (.bl r) H') E0
theorem op_eqFwd {n : Nat} {C f : Addr} {fd : FuncData} {ps : List Str} {sp : Sp} (O : OddC X.K C) (F : FnG X.prog X.w X.K X.mg X.base n f fd ps sp) (hr : Room n X.A) (hgd : X.A.guards = some [])
    (hs : PySem.W.findIn X.K (.ref C) "__eq__" = some (some (.ref f))) (hf : PySem.W.isFn X.K (.ref f) = true) (hb : Binds X.K fd ps []) : OpR X (compareOp .Eq) (rEqFwd C sp) := by
  intro pins s σ H x y v u Q I rx ry h
  obtain ⟨a, dx, fs, T, rfl, ha, od', hq⟩ := h
  cases rx
  obtain ⟨mA, J, _⟩ := ins_get I.hok ha
  obtain ⟨od, J, _⟩ := J.look
  obtain ⟨m, hF⟩ := I.fr
  show wpAny (model X.prog X.w) X.A (richCompare .Eq (.ref a) u) (EP X pins σ Q) X.xe s
  refine PySem.W.cmp_K (op := .Eq) (tb := .type T) hr.units0 hF I.ok.mod.kin J ?_ ?_ hs hf (wpAny_mono (own_run (vs := [.ref a, y]) F ⟨hr, rfl⟩ hgd hb I (.cons rfl (.cons ry .nil)) hq) (fun z s' hz => ?_) fun _ _ e => e)
  · obtain ⟨P, Z, p, _⟩ := kit_of I ry (od'.tyx (K := X.K))
    exact Z.ty _ _ I.kIn p
  · unfold PySem.W.notFirst
    rw [O.to T od'.mem]
    simp
  · obtain ⟨b', H', I', rb, r, rfl, hQ⟩ := hz
    cases rb
    exact ⟨.bl r, H', I', rfl, hQ⟩
/-- x == o, x a thing of a built-in type -/
def rEqBack (C : Addr) (sp : Sp) : R2 := fun x y H Q => ∃ a dx fs T, y = .ref a ∧ H a = some (.ins C dx fs) ∧ Odd H x T ∧ sp [.ref a, x] H (fun v H' => ∃ r, v = .bl r ∧ Q (.bl r) H') E0
theorem op_eqBack {n : Nat} {C f : Addr} {fd : FuncData} {ps : List Str} {sp : Sp} (O : OddC X.K C) (F : FnG X.prog X.w X.K X.mg X.base n f fd ps sp) (hr : Room n X.A) (hgd : X.A.guards = some [])
    (hs : PySem.W.findIn X.K (.ref C) "__eq__" = some (some (.ref f))) (hf : PySem.W.isFn X.K (.ref f) = true) (hb : Binds X.K fd ps []) : OpR X (compareOp .Eq) (rEqBack C sp) := by
  intro pins s σ H x y v u Q I rx ry h
  obtain ⟨a, dx, fs, T, rfl, ha, o, hq⟩ := h
  cases ry
  obtain ⟨mA, J, hdat⟩ := ins_get I.hok ha
  obtain ⟨od, J', _⟩ := J.look
  obtain ⟨m, hF⟩ := I.fr
  have hT := o.typeIs I rx
  have own : wpAny (model X.prog X.w) X.A (call (.ref f) [.ref a, v]) (PySem.W.CmpBack (EP X pins σ Q)) X.xe s := by
    refine wpAny_mono (own_run (vs := [.ref a, x]) F ⟨hr, rfl⟩ hgd hb I (.cons rfl (.cons rx .nil)) hq) (fun z s' hz => ?_) fun _ _ e => e
    obtain ⟨b', H', I', rb, r, rfl, hQ⟩ := hz
    cases rb
    exact ⟨.bl r, H', I', rfl, hQ⟩
  have isn : ∀ (T' : String), T' ∈ (["NoneType", "int", "str", "list", "tuple", "dict"] : List String) → ∀ (A : Around) (E : Value → Shared → Prop) (Q : Bool → Shared → Prop), Q false s → wpAny (model X.prog X.w) A (isInstance (.ref a) (.type T')) Q E s := fun T' hT' A E Q q => by
    unfold isInstance
    exact wpAny_bind (J'.type.here ((PySem.W.looks_subIn I.kIn (O.fro T' hT')).here q))
  show wpAny (model X.prog X.w) X.A (richCompare .Eq v (.ref a)) (EP X pins σ Q) X.xe s
  have go : ∀ {id : String}, Slot T "__eq__" id → (∀ Q' : Value → Shared → Prop, Q' .notImplemented s → wpAny (model X.prog X.w) X.A (call (.builtin id) [v, .ref a]) Q' X.xe s) → wpAny (model X.prog X.w) X.A (richCompare .Eq v (.ref a)) (EP X pins σ Q) X.xe s :=
    fun sl hc => rc_back hr.units0 hF I.ok.mod.kin hT J' (O.fro T o.mem) sl hc hs hf own
  cases o with
  | non =>
    cases (show v = Value.none from rx)
    exact go PySem.F.slot_NoneType_eq fun Q' q => call_gives PySem.F.slot_NoneType_eq rfl PySem.F.entry_NoneType_eq (PySem.F.args_NoneType_eq_2 _ _) (NoneType___eq___none_ref_0 a) q
  | int i =>
    obtain ⟨t, rfl⟩ := rx
    exact go PySem.F.slot_int_eq fun Q' q => GQ.call_here PySem.F.slot_int_eq hT PySem.F.entry_int_eq (PySem.F.args_int_eq_2 _ _) (int_eq_declines_inst i t a (.ref C) (some dx) #[] X.prog X.w X.A _ s ⟨J.1, q⟩)
  | str z =>
    obtain ⟨t, rfl⟩ := rx
    exact go PySem.F.slot_str_eq fun Q' q => GQ.call_here PySem.F.slot_str_eq hT PySem.F.entry_str_eq (PySem.F.args_str_eq_2 _ _) (str_eq_declines_inst z t a (.ref C) (some dx) #[] X.prog X.w X.A _ s ⟨J.1, q⟩)
  | @lst b xs h =>
    cases (show v = Value.ref b from rx)
    exact go PySem.F.slot_list_eq fun Q' q => GQ.call_here PySem.F.slot_list_eq hT PySem.F.entry_list_eq (PySem.F.args_list_eq_2 _ _) (list_eq_declines_inst (isn "list" (by decide)) q)
  | @tup b xs h =>
    cases (show v = Value.ref b from rx)
    exact go PySem.F.slot_tuple_eq fun Q' q => GQ.call_here PySem.F.slot_tuple_eq hT PySem.F.entry_tuple_eq (PySem.F.args_tuple_eq_2 _ _) (tuple_eq_declines_inst (isn "tuple" (by decide)) q)
  | @dict b kvs h =>
    cases (show v = Value.ref b from rx)
    exact go PySem.F.slot_dict_eq fun Q' q => GQ.call_here PySem.F.slot_dict_eq hT PySem.F.entry_dict_eq (PySem.F.args_dict_eq_2 _ _) (dict_eq_declines_inst hT (isn "dict" (by decide)) q)
end
end SR

set_option maxRecDepth 100000
set_option maxHeartbeats 4000000
namespace SR
open PySem PySem.Spec PyProof.Rows L2
/-- the i-th slot holds the class at C: x(..) makes one -/
def tMakeL (i : Nat) (C : Addr) (sp : Sp) (dvs : List V) (E : XK) (t : TA) : TE := fun σ H Q => σ[i]? = some (some (.ref C)) ∧ tMake C sp dvs E t σ H Q
theorem pe_makeL {X : Cx} {CX : CXT} {k i : Nat} {C f : Addr} {fd : FuncData} {ps : List Str} {sp : Sp} {dvs : List V} {ds : List Value} {E : XK} {x : Str} {p pos : Pos} {e : Expr} {es : List Expr} {t : TA} (M : Mk X.K C f) (F : FnOk X.prog X.w X.K X.mg X.base CX k f fd ps sp) (hr : Room (k + 1) X.A) (hN : X.N[i]? = some x) (hv : Vis X.env.scope x) (hb : Binds X.K fd ps ds) (hd : Vals dvs ds) (hx : Passes CX X E) (ha : PA X (e :: es) t)
    (hdb : (x == ("__debug__" : Str)) = false := by decide) (hcd : (x == ("__classdict__" : Str)) = false := by decide)
    (he : starEach (e :: es) X.env = (false, eval e X.env) :: starEach es X.env := by rfl) (hpl : (backTo pos (starEach es X.env)).any (·.1) = false := by rfl) : PE X (.Call (.Name x p) (e :: es) [] pos) (tMakeL i C sp dvs E t) := by
  refine ⟨fun pins s σ H Q I h => ?_⟩
  obtain ⟨hs, ht⟩ := h
  refine wpAny_Call_Name_kw (thn ((pe_var (pos := p) hN hv hdb hcd).run pins s σ H (fun v H1 => v = .ref C ∧ H1 = H) I ⟨.ref C, hs, rfl, rfl⟩) fun u s1 ⟨v, H1, I1, r1, q1⟩ => ?_)
  obtain ⟨rfl, rfl⟩ := q1
  cases r1
  refine PySem.W.callWith_K (h₀ := X.base) I.ok.mod.kin M.kp (thn (ha.run pos pins s1 σ _ _ I1 ht) fun us s2 ⟨vs, H2, I2, r, q⟩ => ⟨I2.kIn, ?_⟩) he hpl
  exact run_make M F hr hb hd hx I2 r q
end SR
namespace SS
open PySem PySem.Spec PyProof.Rows L2 SR TL
theorem row_map {cs : List Nat} {row : List Int} (nd : cs.Nodup) (hl : row.length = cs.length) : row = cs.map fun c => row.getD (cs.idxOf c) 0 := by
  refine List.ext_getElem? fun i => ?_
  rw [List.getElem?_map]
  by_cases hi : i < cs.length
  · rw [List.getElem?_eq_getElem hi, List.getElem?_eq_getElem (by omega)]
    show _ = some (row.getD (cs.idxOf cs[i]) 0)
    rw [List.Nodup.idxOf_getElem nd i hi, List.getD_eq_getElem?_getD, List.getElem?_eq_getElem (by omega)]
    rfl
  · rw [List.getElem?_eq_none (by omega), List.getElem?_eq_none (by omega)]
    rfl
section
variable {X : Cx} {pins : List (Addr × Obj)} {σ : L2.St} {H : Hp} {s : Shared}
/-- two rows: equal or not -/
theorem eq_rowIn (I : Inv X pins σ H s) {A : Around} (hu : A.units + 1 < cLine) {cs : List Nat} {p q : Addr} {r1 r2 : List Int} (nd : cs.Nodup) (l1 : r1.length = cs.length) (l2 : r2.length = cs.length) (h1 : RowAt H cs p r1) (h2 : RowAt H cs q r2) :
    SeqAt.EqIn X.prog X.w A s (.ref p) (.ref q) (decide (r1 = r2)) := by
  by_cases e : p = q
  · subst e
    have e2 : rowK cs r1 = rowK cs r2 := by
      have := h1.symm.trans h2
      exact HO.dK.inj (Option.some.inj this)
    have e3 : r1 = r2 := by
      rw [row_map nd l1, row_map nd l2]
      refine List.map_congr_left fun c hc => ?_
      have v1 := val_row l1 hc
      have v2 := val_row l2 hc
      rw [e2, v2] at v1
      exact (V.int.inj (Option.some.inj v1)).symm
    rw [decide_eq_true e3]
    exact (SeqAt.EqAt.same _).inModel X.prog X.w
  · refine SeqAt.EqIn.of_refs e fun E Q hq => ?_
    obtain ⟨_, ya, va, ra, da⟩ := (show ObjOk X.prog X.w H s.heap p (.dK (rowK cs r1)) from I.hok p _ h1)
    obtain ⟨_, yb, vb, rb, db⟩ := (show ObjOk X.prog X.w H s.heap q (.dK (rowK cs r2)) from I.hok q _ h2)
    have mem1 : ∀ c ∈ cs, ∃ v, ((Sum.inr (lt c) : Key), v) ∈ va ∧ RelV (.int (r1.getD (cs.idxOf c) 0)) v := by
      intro c hc
      have rr : RelO (some (.int (r1.getD (cs.idxOf c) 0))) (valueAt va (Sum.inr (lt c))) := by rw [← val_row l1 hc]; exact ra.val _
      obtain ⟨y, hy, ry⟩ := rr.some_of
      refine ⟨y, ?_, ry⟩
      unfold valueAt at hy
      obtain ⟨kv, hkv, ekv⟩ := Option.map_eq_some_iff.mp hy
      have h1 := List.find?_some hkv
      have h2 := List.mem_of_find?_eq_some hkv
      have h3 : kv.1 = Sum.inr (lt c) := by simpa using h1
      rw [← h3, ← ekv]
      exact h2
    have zipv : ∀ c i, (c, i) ∈ cs.zip r1 → c ∈ cs ∧ i = r1.getD (cs.idxOf c) 0 := by
      intro c i h
      obtain ⟨j, hj⟩ := List.mem_iff_getElem?.mp h
      obtain ⟨h1, h2⟩ := List.getElem?_zip_eq_some.mp hj
      obtain ⟨hj1, e1⟩ := List.getElem?_eq_some_iff.mp h1
      refine ⟨List.mem_of_getElem? h1, ?_⟩
      have e1' : cs[j] = c := e1
      have h2' : r1[j]? = some i := h2
      rw [← e1', List.Nodup.idxOf_getElem nd j hj1, List.getD_eq_getElem?_getD, h2']
      rfl
    have of1 : ∀ k v, (k, v) ∈ va → ∃ c ∈ cs, k = Sum.inr (lt c) ∧ RelV (.int (r1.getD (cs.idxOf c) 0)) v := by
      intro k v hkv
      have : ∀ {l : List (Key × V)} {m : List (Key × Value)}, KV l m → ∀ k v, (k, v) ∈ m → ∃ p ∈ l, p.1 = k ∧ RelV p.2 v := by
        intro l m r
        unfold KV at r
        induction r with
        | nil => intro k v h; cases h
        | @cons a b _ _ h _ ih =>
          intro k v hm
          rcases List.mem_cons.mp hm with z | z
          · refine ⟨a, List.mem_cons_self, ?_, ?_⟩
            · rw [h.1, ← z]
            · have := h.2
              rw [← z] at this
              exact this
          · obtain ⟨p, h1, h2⟩ := ih k v z
            exact ⟨p, List.mem_cons_of_mem _ h1, h2⟩
      obtain ⟨p, hp, e1, e2⟩ := this ra k v hkv
      obtain ⟨⟨c, i⟩, hc, rfl⟩ := List.mem_map.mp hp
      obtain ⟨hcs, ei⟩ := zipv c i hc
      refine ⟨c, hcs, e1.symm, ?_⟩
      rw [← ei]
      exact e2
    have val2 : ∀ c ∈ cs, ∃ y, valueAt vb (Sum.inr (lt c)) = some y ∧ RelV (.int (r2.getD (cs.idxOf c) 0)) y := by
      intro c hc
      have rr : RelO (some (.int (r2.getD (cs.idxOf c) 0))) (valueAt vb (Sum.inr (lt c))) := by rw [← val_row l2 hc]; exact rb.val _
      exact rr.some_of
    have la : va.length = cs.length := by
      rw [← ra.length]
      unfold rowK
      rw [List.length_map, List.length_zip, l1, Nat.min_self]
    have lb : vb.length = cs.length := by
      rw [← rb.length]
      unfold rowK
      rw [List.length_map, List.length_zip, l2, Nat.min_self]
    have fin : (va.length == vb.length && va.all fun p => (valueAt vb p.1).isSome && decide (valV (rowK cs r1) p.1 = valV (rowK cs r2) p.1)) = decide (r1 = r2) := by
      rw [la, lb, beq_self_eq_true, Bool.true_and, Bool.eq_iff_iff, List.all_eq_true, decide_eq_true_iff]
      constructor
      · intro h
        rw [row_map nd l1, row_map nd l2]
        refine List.map_congr_left fun c hc => ?_
        obtain ⟨v, hv, _⟩ := mem1 c hc
        have := h _ hv
        rw [Bool.and_eq_true] at this
        have h2 := of_decide_eq_true this.2
        rw [val_row l1 hc, val_row l2 hc] at h2
        exact V.int.inj (Option.some.inj h2)
      · rintro rfl p hp
        obtain ⟨c, hc, ek, _⟩ := of1 p.1 p.2 hp
        obtain ⟨y, hy, _⟩ := val2 c hc
        rw [ek, hy]
        simp
    refine PySem.W.keq_eqIn (knd := mixKind X.prog X.w) ya yb da db (by omega) (fun _ => PySem.W.KeqHitsIn.of (e := fun k => decide (valV (rowK cs r1) k = valV (rowK cs r2) k)) _ fun k v y hm hv => ?_) (by rw [fin]; exact hq)
    obtain ⟨c, hc, rfl, rv⟩ := of1 k v hm
    obtain ⟨y', hy', ry⟩ := val2 c hc
    rw [hv] at hy'
    cases hy'
    obtain ⟨t1, rfl⟩ := rv
    obtain ⟨t2, rfl⟩ := ry
    have e4 : decide (valV (rowK cs r1) (Sum.inr (lt c)) = valV (rowK cs r2) (Sum.inr (lt c))) = (r1.getD (cs.idxOf c) 0 == r2.getD (cs.idxOf c) 0) := by
      rw [val_row l1 hc, val_row l2 hc, Bool.eq_iff_iff, decide_eq_true_iff, beq_iff_eq]
      exact ⟨fun z => V.int.inj (Option.some.inj z), fun z => by rw [z]⟩
    rw [e4]
    exact (SeqAt.EqAt.int_int _ t1 _ t2).inModel X.prog X.w
/-- two tuples of rows over the same signs -/
def rEqRows (K : PySem.W.Frag) (cs : List Nat) : R2 := fun x y H Q => ∃ (p q : Addr) (ps qs : List Addr) (r1 r2 : List (List Int)), x = .ref p ∧ y = .ref q ∧ SqT K H p (ps.map .ref) ∧ SqT K H q (qs.map .ref) ∧ Paired (RowAt H cs) ps r1 ∧ Paired (RowAt H cs) qs r2 ∧
  (∀ row ∈ r1, row.length = cs.length) ∧ (∀ row ∈ r2, row.length = cs.length) ∧ Q (.bl (decide (r1 = r2))) H
theorem op_eqRows {X : Cx} {cs : List Nat} (nd : cs.Nodup) (hu : X.A.units + 64 < cLine) : OpR X (compareOp .Eq) (rEqRows X.K cs) := by
  intro pins s σ H x y v u Q I rx ry h
  obtain ⟨p, q, ps, qs, r1, r2, rfl, rfl, h1, h2, p1, p2, w1, w2, k⟩ := h
  cases rx
  cases ry
  obtain ⟨us, v1, t1, _⟩ := I.tuple h1
  obtain ⟨ws, v2, t2, _⟩ := I.tuple h2
  have refs : ∀ (as : List Addr) (us : List Value), Vals (as.map V.ref) us → us = as.map Value.ref := by
    intro as
    induction as with
    | nil => intro us r; cases r; rfl
    | cons a as ih =>
      intro us r
      cases r with
      | cons h t => rw [ih _ t]; cases (show _ = Value.ref a from h); rfl
  have e1 := refs _ _ v1
  have e2 := refs _ _ v2
  subst e1
  subst e2
  have n1 := Paired.length p1
  have n2 := Paired.length p2
  refine SeqAt.rcIn_tuples (e := fun j => decide (r1.getD j [] = r2.getD j [])) t1 t2 (by omega) (fun j j1 j2 => ?_) ?_
  · have k1 : j < ps.length := by simpa using j1
    have k2 : j < qs.length := by simpa using j2
    have k1' : j < r1.length := by omega
    have k2' : j < r2.length := by omega
    obtain ⟨a, ha, ra⟩ := paired_get j p1 (List.getElem?_eq_getElem k1')
    obtain ⟨b, hb, rb⟩ := paired_get j p2 (List.getElem?_eq_getElem k2')
    have q1 : (ps.map Value.ref).toArray[j] = Value.ref a := by
      have : ps[j] = a := (List.getElem?_eq_some_iff.mp ha).2
      simp [this]
    have q2 : (qs.map Value.ref).toArray[j] = Value.ref b := by
      have : qs[j] = b := (List.getElem?_eq_some_iff.mp hb).2
      simp [this]
    have g1 : r1.getD j [] = r1[j] := by rw [List.getD_eq_getElem?_getD, List.getElem?_eq_getElem k1']; rfl
    have g2 : r2.getD j [] = r2[j] := by rw [List.getD_eq_getElem?_getD, List.getElem?_eq_getElem k2']; rfl
    show SeqAt.EqIn X.prog X.w X.A.in1 s _ _ (decide (r1.getD j [] = r2.getD j []))
    rw [q1, q2, g1, g2]
    exact eq_rowIn I (by show X.A.units + 1 + 1 < cLine; omega) nd (w1 _ (List.getElem_mem k1')) (w2 _ (List.getElem_mem k2')) ra rb
  · have fin : ((List.range (min (ps.map Value.ref).toArray.size (qs.map Value.ref).toArray.size)).all (fun j => decide (r1.getD j [] = r2.getD j [])) && (ps.map Value.ref).toArray.size == (qs.map Value.ref).toArray.size) = decide (r1 = r2) := by
      have s1 : (ps.map Value.ref).toArray.size = r1.length := by simp [n1]
      have s2 : (qs.map Value.ref).toArray.size = r2.length := by simp [n2]
      rw [s1, s2, Bool.eq_iff_iff, Bool.and_eq_true, List.all_eq_true, beq_iff_eq, decide_eq_true_iff]
      constructor
      · rintro ⟨h, hl⟩
        refine List.ext_getElem hl fun j j1 j2 => ?_
        have := of_decide_eq_true (h j (List.mem_range.mpr (by omega)))
        rw [List.getD_eq_getElem?_getD, List.getElem?_eq_getElem j1, List.getD_eq_getElem?_getD, List.getElem?_eq_getElem j2] at this
        exact this
      · rintro rfl
        exact ⟨fun j _ => decide_eq_true rfl, rfl⟩
    rw [fin]
    exact ⟨.bl _, H, I, rfl, k⟩
end
end SS

set_option maxRecDepth 100000
set_option maxHeartbeats 4000000
namespace SZ
open PySem PySem.Spec PyProof.Rows L2
/-! ## zip(xs, ys, strict=True) of two lists -/
/-- the record of a strict zip -/
def ZipS (h : Heap) (z TI TO : Addr) (f0 : Value) : Prop := h.get? z = some { cls := .type "zip", dict := none, data := .fields #[f0, .bool false, .bool true, .ref TI, .ref TO], slots := #[] }
section
variable {prog : Program} {w : World} {A : Around} {E : Value → Shared → Prop} {s : Shared}
theorem draw_item {it l : Addr} {i : Nat} {items : Array Value} {x : Value} {Q : Option Value → Shared → Prop} (hit : s.heap.IsListIter it l i) (hl : s.heap.IsList l items) (hx : items[i]? = some x)
    (hQ : ∀ h', h'.IsListIter it l (i + 1) → Heap.SameBut it s.heap h' → Q (some x) { s with heap := h' }) : wpAny (model prog w) A (Builtin.SmallTypes.nextOrEnd (.ref it)) Q E s := by
  unfold Builtin.SmallTypes.nextOrEnd
  exact wpAny_bind (wpAny_attempt (wpAny_nextOf_list_item hit hl hx fun h' a b => wpAny_pure (hQ h' a b)))
theorem draw_end {it l : Addr} {i : Nat} {items : Array Value} {Q : Option Value → Shared → Prop} (hh : A.handled = none) (hit : s.heap.IsListIter it l i) (hl : s.heap.IsList l items) (hx : items[i]? = none)
    (hQ : ∀ h', Heap.ExtBut it s.heap h' → Q none { s with heap := h' }) : wpAny (model prog w) A (Builtin.SmallTypes.nextOrEnd (.ref it)) Q E s := by
  unfold Builtin.SmallTypes.nextOrEnd
  refine wpAny_bind (wpAny_attempt (wpAny_nextOf_list_end hh hit hl hx fun h' e k he => ?_))
  obtain ⟨o, ho, hc⟩ := he
  refine wpAny_bind (wpAny_isInstance (T := "StopIteration") (b := true) ⟨o, ho, hc⟩ isSubtype_stop ?_)
  exact wpAny_pure (hQ h' k)
theorem zipS_item {z TI TO i1 i2 l1 l2 : Addr} {k1 k2 : Nat} {xs ys : Array Value} {x y a b : Value} {Q : Value → Shared → Prop} (D : ZipApart z TI TO i1 i2 l1 l2)
    (hz : ZipS s.heap z TI TO .none) (hTI : IsPair s.heap TI (.ref i1) (.ref i2)) (hTO : IsPair s.heap TO a b)
    (h1 : s.heap.IsListIter i1 l1 k1) (h2 : s.heap.IsListIter i2 l2 k2) (hl1 : s.heap.IsList l1 xs) (hl2 : s.heap.IsList l2 ys) (hx : xs[k1]? = some x) (hy : ys[k2]? = some y)
    (hQ : ∀ h', ZipS h' z TI TO (rawInt s.heap.objs.size) → IsPair h' TO x y → h'.IsListIter i1 l1 (k1 + 1) → h'.IsListIter i2 l2 (k2 + 1) → IsPair h' s.heap.objs.size x y → h'.objs.size = s.heap.objs.size + 1 →
      (∀ c o, c ≠ z → c ≠ TO → c ≠ i1 → c ≠ i2 → s.heap.get? c = some o → h'.get? c = some o) → Q (.ref s.heap.objs.size) { s with heap := h' }) :
    wpAny (model prog w) A (Builtin.«zip.__next__» ⟨[.ref z], []⟩) (fun fin s' => ∃ v, fin = .done (.ret v) ∧ Q v s') E s := by
  show wpAny _ _ (field (.ref z) 2 >>= _) _ _ _
  refine wpAny_bind (wpAny_field hz rfl (x := .bool true) rfl ?_)
  show wpAny _ _ (field (.ref z) 3 >>= _) _ _ _
  refine wpAny_bind (wpAny_field hz rfl (x := .ref TI) rfl (wpAny_bind (wpAny_seqItems hTI rfl ?_)))
  show wpAny _ _ (Builtin.SmallTypes.ownedTupleIsFree (.ref z) >>= _) _ _ _
  refine wpAny_bind ?_
  unfold Builtin.SmallTypes.ownedTupleIsFree
  refine wpAny_bind (wpAny_field hz rfl (x := .none) rfl (wpAny_pure ?_))
  simp only [if_true]
  refine wpAny_bind (wpAny_rule (wpAny_bind (wpAny_field hz rfl (x := .ref TO) rfl (wpAny_bind (wpAny_setField_rec hz (by simp) fun g1 z1 b1 => wpAny_bind ?_)))))
  replace z1 : ZipS g1 z TI TO .ellipsis := z1
  simp only [List.zipIdx_cons, List.zipIdx_nil, List.forIn_cons, List.forIn_nil]
  -- the first
  refine wpAny_bind (wpAny_bind (wpAny_onRaise ?_))
  show wpAny _ _ (Builtin.SmallTypes.nextOrEnd (.ref i1)) _ _ _
  refine draw_item (h1.extBut b1.extBut D.i1z) (hl1.extBut b1.extBut D.l1z) hx fun g2 q1 b2 => ?_
  have t2 : IsPair g2 TO a b := b2.extBut _ _ D.TOi1 (b1.extBut _ _ D.TOz hTO)
  refine wpAny_bind (wpAny_seqItems t2 rfl (wpAny_bind (wpAny_updateSeq_pair t2 fun g3 t3 b3 => wpAny_bind (wpAny_letGo (wpAny_pure ?_)))))
  replace t3 : IsPair g3 TO x b := t3
  -- the second
  refine wpAny_bind (wpAny_bind (wpAny_onRaise ?_))
  show wpAny _ _ (Builtin.SmallTypes.nextOrEnd (.ref i2)) _ _ _
  refine draw_item (((h2.extBut b1.extBut D.i2z).extBut b2.extBut D.i12.symm).extBut b3.extBut D.TOi2.symm) (((hl2.extBut b1.extBut D.l2z).extBut b2.extBut D.l2i1).extBut b3.extBut D.l2TO) hy fun g4 q2 b4 => ?_
  have t4 : IsPair g4 TO x b := b4.extBut _ _ D.TOi2 t3
  refine wpAny_bind (wpAny_seqItems t4 rfl (wpAny_bind (wpAny_updateSeq_pair t4 fun g5 t5 b5 => wpAny_bind (wpAny_letGo (wpAny_pure (wpAny_pure ?_))))))
  replace t5 : IsPair g5 TO x y := t5
  refine wpAny_bind (wpAny_seqItems t5 rfl (wpAny_bind (wpAny_newTuple ?_)))
  have sz : g5.objs.size = s.heap.objs.size := by rw [b5.1, b4.1, b3.1, b2.1, b1.1]
  have z5 : ZipS g5 z TI TO .ellipsis := b5.extBut _ _ D.TOz.symm (b4.extBut _ _ D.i2z.symm (b3.extBut _ _ D.TOz.symm (b2.extBut _ _ D.i1z.symm z1)))
  have k5 : ∀ c o, c ≠ z → c ≠ TO → c ≠ i1 → c ≠ i2 → s.heap.get? c = some o → g5.get? c = some o := fun c o c1 c2 c3 c4 e =>
    b5.extBut _ _ c2 (b4.extBut _ _ c4 (b3.extBut _ _ c2 (b2.extBut _ _ c3 (b1.extBut _ _ c1 e))))
  have j1 : g5.IsListIter i1 l1 (k1 + 1) := ((q1.extBut b3.extBut D.TOi1.symm).extBut b4.extBut D.i12).extBut b5.extBut D.TOi1.symm
  have j2 : g5.IsListIter i2 l2 (k2 + 1) := q2.extBut b5.extBut D.TOi2.symm
  have zl : z < g5.objs.size := Heap.lt_size z5
  show wpAny _ _ (Builtin.SmallTypes.ownedTupleHandOut (.ref z) (.ref g5.objs.size) >>= _) _ _ _
  refine wpAny_bind ?_
  unfold Builtin.SmallTypes.ownedTupleHandOut
  have z6 : ZipS (g5.push { cls := .type "tuple", data := .seq #[x, y] }) z TI TO .ellipsis := Heap.get?_push_of_some _ z5
  refine wpAny_bind (wpAny_setField_rec z6 (by simp) fun g7 z7 b7 => ?_)
  replace z7 : ZipS g7 z TI TO (rawInt g5.objs.size) := z7
  refine wpAny_setField_rec z7 (by simp) fun g8 z8 b8 => ?_
  replace z8 : ZipS g8 z TI TO (rawInt g5.objs.size) := z8
  have up : ∀ c o, c ≠ z → g5.get? c = some o → g8.get? c = some o := fun c o c1 e => b8.extBut _ _ c1 (b7.extBut _ _ c1 (Heap.get?_push_of_some _ e))
  have t8 : IsPair g8 g5.objs.size x y := b8.extBut _ _ (Nat.ne_of_gt zl) (b7.extBut _ _ (Nat.ne_of_gt zl) (Heap.get?_push_size _ rfl))
  have n8 : g8.objs.size = g5.objs.size + 1 := by rw [b8.1, b7.1, Heap.size_push]
  rw [sz] at z8 t8 n8
  refine wpAny_pure ⟨_, rfl, ?_⟩
  show Q (.ref g5.objs.size) _
  rw [sz]
  exact hQ g8 z8 (up _ _ D.TOz t5) (j1.at fun o e => up _ o D.i1z e) (j2.at fun o e => up _ o D.i2z e) t8 n8 fun c o c1 c2 c3 c4 e => up c o c1 (k5 c o c1 c2 c3 c4 e)
theorem zipS_end {z TI TO i1 i2 l1 l2 : Addr} {k1 k2 : Nat} {xs ys : Array Value} {Q : Fin → Shared → Prop} (hh : A.handled = none) (D : ZipApart z TI TO i1 i2 l1 l2)
    (hz : ZipS s.heap z TI TO .none) (hTI : IsPair s.heap TI (.ref i1) (.ref i2))
    (h1 : s.heap.IsListIter i1 l1 k1) (h2 : s.heap.IsListIter i2 l2 k2) (hl1 : s.heap.IsList l1 xs) (hl2 : s.heap.IsList l2 ys) (hx : xs[k1]? = none) (hy : ys[k2]? = none)
    (hE : ∀ h' e, (∀ c o, c ≠ z → c ≠ TO → c ≠ i1 → c ≠ i2 → s.heap.get? c = some o → h'.get? c = some o) → (∃ o, h'.get? e = some o ∧ o.cls = .type "StopIteration") → E (.ref e) { s with heap := h' }) :
    wpAny (model prog w) A (Builtin.«zip.__next__» ⟨[.ref z], []⟩) Q E s := by
  show wpAny _ _ (field (.ref z) 2 >>= _) _ _ _
  refine wpAny_bind (wpAny_field hz rfl (x := .bool true) rfl ?_)
  show wpAny _ _ (field (.ref z) 3 >>= _) _ _ _
  refine wpAny_bind (wpAny_field hz rfl (x := .ref TI) rfl (wpAny_bind (wpAny_seqItems hTI rfl ?_)))
  show wpAny _ _ (Builtin.SmallTypes.ownedTupleIsFree (.ref z) >>= _) _ _ _
  refine wpAny_bind ?_
  unfold Builtin.SmallTypes.ownedTupleIsFree
  refine wpAny_bind (wpAny_field hz rfl (x := .none) rfl (wpAny_pure ?_))
  simp only [if_true]
  refine wpAny_bind (wpAny_rule (wpAny_bind (wpAny_field hz rfl (x := .ref TO) rfl (wpAny_bind (wpAny_setField_rec hz (by simp) fun g1 z1 b1 => wpAny_bind ?_)))))
  replace z1 : ZipS g1 z TI TO .ellipsis := z1
  simp only [List.zipIdx_cons, List.zipIdx_nil, List.forIn_cons, List.forIn_nil]
  refine wpAny_bind (wpAny_bind (wpAny_onRaise ?_))
  show wpAny _ _ (Builtin.SmallTypes.nextOrEnd (.ref i1)) _ _ _
  refine draw_end hh (h1.extBut b1.extBut D.i1z) (hl1.extBut b1.extBut D.l1z) hx fun g2 b2 => ?_
  have z2 : ZipS g2 z TI TO .ellipsis := b2 _ _ D.i1z.symm z1
  refine wpAny_bind (wpAny_setField_rec z2 (by simp) fun g3 z3 b3 => ?_)
  have k3 : ∀ c o, c ≠ z → c ≠ i1 → s.heap.get? c = some o → g3.get? c = some o := fun c o c1 c2 e => b3.extBut _ _ c1 (b2 _ _ c2 (b1.extBut _ _ c1 e))
  refine wpAny_bind ?_
  wp_delta
  rw [if_neg (by decide)]
  show wpAny _ _ (forIn [((Value.ref i2 : Value), 1)] PUnit.unit _ >>= _) _ _ _
  refine wpAny_bind ?_
  simp only [List.forIn_cons, List.forIn_nil]
  refine wpAny_bind (wpAny_bind ?_)
  refine draw_end hh (h2.at fun o e => k3 _ o D.i2z D.i12.symm e) (hl2.at fun o e => k3 _ o D.l2z D.l2i1 e) hy fun g4 b4 => ?_
  refine wpAny_pure (wpAny_pure (wpAny_bind (wpAny_rule ?_)))
  unfold Builtin.SmallTypes.stopIteration
  refine wpAny_bind ?_
  simp only [newExc, newTuple]
  refine wpAny_bind (wpAny_newObj_type ?_ (by size_fits))
  refine wpAny_bind (m := firstArgMember _ _) (wpAny_of_eq (a := Value.none) (by first | rfl | (simp only [firstArgMember]; rfl)) ?_)
  refine wpAny_newObj_type ?_ (by size_fits)
  refine wpAny_raiseNew_none hh ?_
  exact hE _ _ (fun c o c1 _ c3 c4 e => Heap.get?_push_of_some _ (Heap.get?_push_of_some _ (b4 _ _ c4 (k3 c o c1 c3 e)))) ⟨_, Heap.get?_push_size _ rfl, rfl⟩
theorem pyNext_item {z TI TO i1 i2 l1 l2 : Addr} {k1 k2 : Nat} {xs ys : Array Value} {x y a b : Value} {Q : Option Value → Shared → Prop} (D : ZipApart z TI TO i1 i2 l1 l2)
    (hz : ZipS s.heap z TI TO .none) (hTI : IsPair s.heap TI (.ref i1) (.ref i2)) (hTO : IsPair s.heap TO a b)
    (h1 : s.heap.IsListIter i1 l1 k1) (h2 : s.heap.IsListIter i2 l2 k2) (hl1 : s.heap.IsList l1 xs) (hl2 : s.heap.IsList l2 ys) (hx : xs[k1]? = some x) (hy : ys[k2]? = some y)
    (hQ : ∀ h', ZipS h' z TI TO (rawInt s.heap.objs.size) → IsPair h' TO x y → h'.IsListIter i1 l1 (k1 + 1) → h'.IsListIter i2 l2 (k2 + 1) → IsPair h' s.heap.objs.size x y → h'.objs.size = s.heap.objs.size + 1 →
      (∀ c o, c ≠ z → c ≠ TO → c ≠ i1 → c ≠ i2 → s.heap.get? c = some o → h'.get? c = some o) → Q (some (.ref s.heap.objs.size)) { s with heap := h' }) :
    wpAny (model prog w) A (pyNext (.ref z)) Q E s := by
  have hT : s.TypeIs (.ref z) "zip" := ⟨_, hz, rfl⟩
  unfold pyNext
  exact wpAny_bind (wpAny_attempt (wpAny_callSpecial?_slot (name := Str.ofString "__next__") hT F.slot_zip_next (wpAny_call_entry F.slot_zip_next hT F.entry_zip_next (zipS_item D hz hTI hTO h1 h2 hl1 hl2 hx hy fun h' a1 a2 a3 a4 a5 a6 a7 => wpAny_pure (hQ h' a1 a2 a3 a4 a5 a6 a7)) (F.args_zip_next_1 _))))
theorem pyNext_end {z TI TO i1 i2 l1 l2 : Addr} {k1 k2 : Nat} {xs ys : Array Value} {Q : Option Value → Shared → Prop} (hh : A.handled = none) (D : ZipApart z TI TO i1 i2 l1 l2)
    (hz : ZipS s.heap z TI TO .none) (hTI : IsPair s.heap TI (.ref i1) (.ref i2))
    (h1 : s.heap.IsListIter i1 l1 k1) (h2 : s.heap.IsListIter i2 l2 k2) (hl1 : s.heap.IsList l1 xs) (hl2 : s.heap.IsList l2 ys) (hx : xs[k1]? = none) (hy : ys[k2]? = none)
    (hQ : ∀ h', (∀ c o, c ≠ z → c ≠ TO → c ≠ i1 → c ≠ i2 → s.heap.get? c = some o → h'.get? c = some o) → Q none { s with heap := h' }) : wpAny (model prog w) A (pyNext (.ref z)) Q E s := by
  have hT : s.TypeIs (.ref z) "zip" := ⟨_, hz, rfl⟩
  unfold pyNext
  refine wpAny_bind (wpAny_attempt (wpAny_callSpecial?_slot (name := Str.ofString "__next__") hT F.slot_zip_next (wpAny_call_entry F.slot_zip_next hT F.entry_zip_next (zipS_end hh D hz hTI h1 h2 hl1 hl2 hx hy fun h' e hk he => ?_) (F.args_zip_next_1 _))))
  obtain ⟨o, ho, hc⟩ := he
  refine wpAny_bind (wpAny_isInstance (T := "StopIteration") (b := true) ⟨o, ho, hc⟩ isSubtype_stop ?_)
  exact wpAny_pure (hQ _ hk)
theorem letGo_zipS {elts : List Expr} {x1} {pos : Pos} {z TI TO T : Addr} {Q : Unit → Shared → Prop} (hz : ZipS s.heap z TI TO (rawInt T)) (hQ : ∀ h', ZipS h' z TI TO .none → Heap.SameBut z s.heap h' → Q () { s with heap := h' }) :
    wpAny (model prog w) A (letOwnedTupleGo (.Tuple elts x1 pos) (.ref z) (.ref T)) Q E s := by
  unfold letOwnedTupleGo
  refine wpAny_bind (wpAny_load hz ?_)
  show wpAny _ _ (if (["enumerate", "zip", "dict_itemiterator", "dict_reverseitemiterator", "odict_iterator", "itertools.zip_longest", "itertools.pairwise"].contains "zip" && (#[rawInt T, .bool false, .bool true, .ref TI, .ref TO] : Array Value)[0]? == some (rawInt T)) = true then _ else _) Q E s
  rw [if_pos (by simp)]
  refine wpAny_bind (wpAny_rule ?_)
  show wpAny _ _ (setField (.ref z) 0 .none) Q E s
  exact wpAny_setField_rec hz (by simp) fun h' hz' hs' => hQ h' hz' hs'
theorem pyIter_zipS {z TI TO : Addr} {f0 : Value} {Q : Value → Shared → Prop} (hz : ZipS s.heap z TI TO f0) (h : Q (.ref z) s) : wpAny (model prog w) A (pyIter (.ref z)) Q E s := by
  have hT : s.TypeIs (.ref z) "zip" := ⟨_, hz, rfl⟩
  refine wpAny_pyIter_slot hT F.slot_zip_iter (wpAny_call_entry F.slot_zip_iter hT F.entry_zip_iter ?_ (F.args_zip_iter_1 _))
  show wpAny _ _ (ret (.ref z)) _ _ s
  exact wpAny_pure ⟨_, rfl, "zip", _, hT, F.slot_zip_next.lookup, h⟩
end
/-- the five records that the call lays -/
def hpS (h : Heap) (l1 l2 : Addr) : Heap := (zipH4 h l1 l2).push { cls := .type "zip", data := .fields #[.none, .bool false, .bool true, .ref (zipH2 h l1 l2).objs.size, .ref (zipH3 h l1 l2).objs.size] }
theorem meets_newS (l1 l2 : Addr) (xs ys : Array Value) :
    Meets (Builtin.«zip.__new__» ⟨[.type "zip", .ref l1, .ref l2], [(Str.ofString "strict", .bool true)]⟩) (fun _ R s => s.heap.IsList l1 xs ∧ s.heap.IsList l2 ys ∧ R (.ok (.ret (.ref (zipH4 s.heap l1 l2).objs.size))) { s with heap := hpS s.heap l1 l2 }) :=
  .of_wp fun prog w A R s h => by
    obtain ⟨hp, g, d, tk, os⟩ := s; obtain ⟨hl1, hl2, h⟩ := h
    have hsub := sub_zip
    have hL1 : Heap.IsList (Shared.heap ⟨hp, g, d, tk, os⟩) l1 xs := hl1
    have hL2 : Heap.IsList (Shared.heap ⟨hp.push { cls := .type "list_iterator", data := .fields #[.ref l1, .int 0 0] }, g, d, tk, os⟩) l2 ys := Heap.IsList.push hl2 _
    have e2 : (Str.ofString "strict" != ("strict" : Str)) = false := by decide +kernel
    wp_walk using wpAny_pyIter_list hL1, wpAny_pyIter_list hL2
    exact ⟨_, rfl, h⟩
theorem tyCall (a b c : Value) : checkTypeCall "zip" ⟨[a, b], [(Str.ofString "strict", c)]⟩ = pure () := by kernel_rfl
theorem nwCall (a b c : Value) : checkBuiltinCall "zip.__new__" ⟨[.type "zip", a, b], [(Str.ofString "strict", c)]⟩ = pure () := by kernel_rfl
theorem inArgs (obj a b c : Value) : argsOk "object.__init__" ⟨[obj, a, b], [(Str.ofString "strict", c)]⟩ := by unfold argsOk; kernel_rfl
section
variable {prog : Program} {w : World} {A : Around} {E : Value → Shared → Prop} {s : Shared}
theorem call_zipS {l1 l2 : Addr} {xs ys : Array Value} {Q : Value → Shared → Prop} (hl1 : s.heap.IsList l1 xs) (hl2 : s.heap.IsList l2 ys)
    (h : ∀ h', ZipS h' (s.heap.objs.size + 4) (s.heap.objs.size + 2) (s.heap.objs.size + 3) .none → IsPair h' (s.heap.objs.size + 2) (.ref s.heap.objs.size) (.ref (s.heap.objs.size + 1)) →
      IsPair h' (s.heap.objs.size + 3) .none .none → h'.IsListIter s.heap.objs.size l1 0 → h'.IsListIter (s.heap.objs.size + 1) l2 0 →
      (∀ c o, s.heap.get? c = some o → h'.get? c = some o) → Q (.ref (s.heap.objs.size + 4)) { s with heap := h' }) :
    wpAny (model prog w) A (call (.type "zip") [.ref l1, .ref l2] [(Str.ofString "strict", .bool true)]) Q E s := by
  refine callType_newKw F.called_zip (by decide) (tyCall _ _ _) (nwCall _ _ _) (fun obj => inArgs obj _ _ _) F.entry_zip_new (meets_newS l1 l2 xs ys) ⟨hl1, hl2, ?_⟩
  have n1 : (zipH1 s.heap l1).objs.size = s.heap.objs.size + 1 := Heap.size_push ..
  have n2 : (zipH2 s.heap l1 l2).objs.size = s.heap.objs.size + 2 := by rw [Heap.size_push, n1]
  have n3 : (zipH3 s.heap l1 l2).objs.size = s.heap.objs.size + 3 := by rw [Heap.size_push, n2]
  have n4 : (zipH4 s.heap l1 l2).objs.size = s.heap.objs.size + 4 := by rw [Heap.size_push, n3]
  have g5 : (hpS s.heap l1 l2).get? (zipH4 s.heap l1 l2).objs.size = some _ := Heap.get?_push_size _ rfl
  have g4 : (hpS s.heap l1 l2).get? (zipH3 s.heap l1 l2).objs.size = some _ := Heap.get?_push_of_some _ (Heap.get?_push_size _ rfl)
  have g3 : (hpS s.heap l1 l2).get? (zipH2 s.heap l1 l2).objs.size = some _ := Heap.get?_push_of_some _ (Heap.get?_push_of_some _ (Heap.get?_push_size _ rfl))
  have g2 : (hpS s.heap l1 l2).get? (zipH1 s.heap l1).objs.size = some _ := Heap.get?_push_of_some _ (Heap.get?_push_of_some _ (Heap.get?_push_of_some _ (Heap.get?_push_size _ rfl)))
  have g1 : (hpS s.heap l1 l2).get? s.heap.objs.size = some _ := Heap.get?_push_of_some _ (Heap.get?_push_of_some _ (Heap.get?_push_of_some _ (Heap.get?_push_of_some _ (Heap.get?_push_size _ rfl))))
  show _ ∧ _
  rw [n2, n3, n4] at g5
  rw [n1, n2] at g3
  rw [n3] at g4
  rw [n1] at g2
  rw [n4]
  exact ⟨⟨_, g5, rfl⟩, h _ g5 g3 g4 ⟨_, g1, rfl, rfl⟩ ⟨_, g2, rfl, rfl⟩ fun c o x => Heap.get?_push_of_some _ (Heap.get?_push_of_some _ (Heap.get?_push_of_some _ (Heap.get?_push_of_some _ (Heap.get?_push_of_some _ x))))⟩
theorem callWith_typeK {M : Model} {env : Env} {pos : Pos} {T : String} {e : Expr} {rest : List Expr} {kws : List Keyword} {Q : Value → Shared → Prop}
    (h : wpAny M A (spliced (backTo pos (starEach (e :: rest) env))) (fun vs s₁ => wpAny M A (evalAll ((backToKw pos (keywordEach kws env)).map (·.2)))
      (fun kvs s₂ => wpAny M A (call (.type T) vs (((backToKw pos (keywordEach kws env)).filterMap (·.1)).zip kvs)) Q E s₂) E s₁) E s)
    (he : backTo pos (starEach (e :: rest) env) = (false, eval e env) :: backTo pos (starEach rest env) := by rfl) (hplain : (backTo pos (starEach (e :: rest) env)).any (·.1) = false := by rfl)
    (hall : (backToKw pos (keywordEach kws env)).all (·.1.isSome) = true := by rfl) (hkw : (backToKw pos (keywordEach kws env)).any (·.1.isNone) = false := by rfl) :
    wpAny M A (callWith pos (.type T) [] (backTo pos (starEach (e :: rest) env)) (backToKw pos (keywordEach kws env))) Q E s := by
  have h2 : wpAny M A (evalArgs (.type T) true (backTo pos (starEach (e :: rest) env)) (backToKw pos (keywordEach kws env))) (fun a s₁ => wpAny M A (call (.type T) ([] ++ a.pos) a.kw) Q E s₁) E s := by
    rw [he] at h ⊢
    exact PyProof.Rows.evalArgs_kwB hall h
  unfold callWith
  refine wpAny_bind (wpAny_holding (wpAny_mono h2 (fun a s₁ h₁ => wpAny_bind (wpAny_standAt ?_)) fun _ _ x => x))
  simp only [hplain, hkw, Bool.or_false]
  refine wpAny_bind (wpAny_pure ?_)
  exact wpAny_bind (wpAny_mono h₁ (fun r s₂ hr => wpAny_bind (wpAny_holding (wpAny_point (wpAny_pure hr)))) fun _ _ x => x)
end
/-- the lists at a and b as they stand at each turn; they end together -/
def ItS (K : PySem.W.Frag) (a b : Addr) : It :=
  ⟨fun i H => ∃ (xs ys : List V) (x y : V), SqL K H a xs ∧ SqL K H b ys ∧ xs[i]? = some x ∧ ys[i]? = some y,
    fun i H v H' => ∃ T x y, v = .ref T ∧ H T = none ∧ H' = upd H T (.tup [x, y]) ∧ (∀ xs, SqL K H a xs → xs[i]? = some x) ∧ ∀ ys, SqL K H b ys → ys[i]? = some y,
    fun i H => ∃ xs ys : List V, SqL K H a xs ∧ SqL K H b ys ∧ xs.length ≤ i ∧ ys.length ≤ i⟩
theorem turnS {P : Program} {w : World} {K : PySem.W.Frag} {elts : List Expr} {kk : Nat} {tpos : Pos} {a b z TI TO i1 i2 : Addr} (D : ZipApart z TI TO i1 i2 a b) :
    Turn P w K (.Tuple elts kk tpos) (ItS K a b) [z, TI, TO, i1, i2] z (fun i h => ZipS h z TI TO .none ∧ IsPair h TI (.ref i1) (.ref i2) ∧ (∃ x y, IsPair h TO x y) ∧ h.IsListIter i1 a i ∧ h.IsListIter i2 b i) where
  mem := by simp
  obj := fun i h st c hc => by
    obtain ⟨hz, hTI, ⟨x, y, hTO⟩, ⟨o1, e1, _, d1⟩, ⟨o2, e2, _, d2⟩⟩ := st
    have e' : c = z ∨ c = TI ∨ c = TO ∨ c = i1 ∨ c = i2 := by simpa using hc
    rcases e' with rfl | rfl | rfl | rfl | rfl
    · exact ⟨_, hz, fun v q => nomatch q⟩
    · exact ⟨_, hTI, fun v q => nomatch q⟩
    · exact ⟨_, hTO, fun v q => nomatch q⟩
    · exact ⟨o1, e1, fun v q => by rw [d1] at q; cases q⟩
    · exact ⟨o2, e2, fun v q => by rw [d2] at q; cases q⟩
  keep := fun i h h' st k => by
    obtain ⟨hz, hTI, ⟨x, y, hTO⟩, h1, h2⟩ := st
    exact ⟨k z (by simp) _ hz, k TI (by simp) _ hTI, ⟨x, y, k TO (by simp) _ hTO⟩, h1.at fun o q => k i1 (by simp) o q, h2.at fun o q => k i2 (by simp) o q⟩
  item := by
    intro X hP hw hK hc i pins s σ H E I hf st hg
    subst hP hw hK
    obtain ⟨hz, hTI, ⟨x0, y0, hTO⟩, h1, h2⟩ := st
    obtain ⟨xs, ys, x, y, hqx, hqy, hx, hy⟩ := hg
    obtain ⟨its, rv, p, _⟩ := I.list hqx
    obtain ⟨its2, rv2, p2, _⟩ := I.list hqy
    obtain ⟨u, hu, ru⟩ := rv.get hx
    obtain ⟨u2, hu2, ru2⟩ := rv2.get hy
    have hzl : z < s.heap.objs.size := Heap.lt_size hz
    refine pyNext_item D hz hTI hTO h1 h2 p.isList p2.isList (x := u) (y := u2) (by simpa using hu) (by simpa using hu2) fun h' z' TO' h1' h2' hT hsz hk => ?_
    refine ⟨_, rfl, letGo_zipS (s := { s with heap := h' }) z' fun h'' z'' sb => ?_⟩
    have hT2 : h''.get? s.heap.objs.size = some { cls := .type "tuple", data := .seq #[u, u2] } := (sb.2 _ (Nat.ne_of_gt hzl)).trans hT
    have new : ObjOk X.prog X.w (upd H s.heap.objs.size (.tup [x, y])) h'' s.heap.objs.size (.tup [x, y]) := ⟨by show 2 ≤ sizeLine; decide, [u, u2], .cons ru (.cons ru2 .nil), ⟨_, hT2, rfl, _, rfl⟩⟩
    have I1 : Inv X pins σ (upd H s.heap.objs.size (.tup [x, y])) { s with heap := h'' } :=
      I.turnedNew (t' := s.toks) (ch := [z, TI, TO, i1, i2]) (fun c o hb q => (sb.2 c (fun q' => hb (by simp [q']))).trans (hk c o (fun q' => hb (by simp [q'])) (fun q' => hb (by simp [q'])) (fun q' => hb (by simp [q'])) (fun q' => hb (by simp [q'])) q)) hf (Nat.le_refl _) new
    refine ⟨.ref s.heap.objs.size, _, I1, rfl, ⟨_, x, y, rfl, I.hok.fresh (Nat.le_refl _), rfl, fun l hl => by rw [I.list_inj hl hqx]; exact hx, fun l hl => by rw [I.list_inj hl hqy]; exact hy⟩,
      ⟨z'', (sb.2 _ D.TIz).trans (hk _ _ D.TIz D.TITO D.TIi1 D.TIi2 hTI), ⟨u, u2, (sb.2 _ D.TOz).trans TO'⟩, h1'.at fun o q => (sb.2 _ D.i1z).trans q, h2'.at fun o q => (sb.2 _ D.i2z).trans q⟩, fun c hcm => ?_⟩
    have hlt : c < s.heap.objs.size := by
      have e' : c = z ∨ c = TI ∨ c = TO ∨ c = i1 ∨ c = i2 := by simpa using hcm
      rcases e' with rfl | rfl | rfl | rfl | rfl
      · exact hzl
      · exact Heap.lt_size hTI
      · exact Heap.lt_size hTO
      · obtain ⟨_, e1, _⟩ := h1; exact Heap.lt_size e1
      · obtain ⟨_, e2, _⟩ := h2; exact Heap.lt_size e2
    rw [upd_ne (Nat.ne_of_lt hlt)]
    exact (hf c hcm).1
  done := by
    intro X hP hw hK hc i pins s σ H E I hf st hg
    subst hP hw hK
    obtain ⟨hz, hTI, ⟨x0, y0, hTO⟩, h1, h2⟩ := st
    obtain ⟨xs, ys, hqx, hqy, ex, ey⟩ := hg
    obtain ⟨its, rv, p, _⟩ := I.list hqx
    obtain ⟨its2, rv2, p2, _⟩ := I.list hqy
    have l1 := rv.length
    have l2 := rv2.length
    exact pyNext_end (I.ok.hd hc) D hz hTI h1 h2 p.isList p2.isList (by simp; omega) (by simp; omega) fun h' hk => ⟨rfl, I.turnedL (t' := s.toks) (ch := [z, TI, TO, i1, i2]) (fun c o hb q =>
      hk c o (fun q' => hb (by simp [q'])) (fun q' => hb (by simp [q'])) (fun q' => hb (by simp [q'])) (fun q' => hb (by simp [q'])) q) hf⟩
  self := fun A i s Q E st h => pyIter_zipS st.1 h
def iZipS (K : PySem.W.Frag) (ta : TA) : TI := fun σ H R => ta σ H fun vs H1 => ∃ a b xs ys, vs = [.ref a, .ref b] ∧ SqL K H1 a xs ∧ SqL K H1 b ys ∧ R (ItS K a b) H1
theorem pi_zipS {X : Cx} {e e2 : Expr} {ta : TA} {p pos tpos kp kp2 : Pos} {elts : List Expr} {kk jk : Nat} (hg : Gl X "zip") (hm : X.mg "zip" = none) (ha : PA X [e, e2] ta)
    (he : backTo pos (starEach [e, e2] X.env) = (false, eval e X.env) :: backTo pos (starEach [e2] X.env) := by rfl) (hpl : (backTo pos (starEach [e, e2] X.env)).any (·.1) = false := by rfl) :
    PI X (.Tuple elts kk tpos) (.Call (.Name "zip" p) [e, e2] [⟨some "strict", .Constant (.bool true) jk kp, kp2⟩] pos) (iZipS X.K ta) := by
  refine ⟨fun pins s σ H R I h => ?_⟩
  refine wpAny_Call_Name_kw (ld_blt I hg hm PyProof.Rows.boot_zip (callWith_typeK (thn (ha.run pos pins s σ H _ I h) fun us s1 ⟨vs, H1, I1, r1, q1⟩ => thn ((pk_cons (nm := some "strict") (kpos := kp2) (pe_bl (b := true) (j := jk) (pos := kp)) pk_nil).run pos pins s1 σ H1 (fun zs H2 => zs = [.bl true] ∧ H2 = H1) I1 ⟨rfl, rfl⟩) fun ws s2 ⟨zs, H2, I2, rz, q2⟩ => ?_) he hpl))
  obtain ⟨rfl, rfl⟩ := q2
  obtain ⟨a, b, xs, ys, ex, hqx, hqy, q⟩ := q1
  subst ex
  obtain ⟨w1, rfl, rw1⟩ := vals1 rz
  cases (show w1 = Value.bool true from rw1)
  obtain ⟨u1, u2, rfl, ra, rb⟩ := vals2 r1
  cases (show u1 = Value.ref a from ra)
  cases (show u2 = Value.ref b from rb)
  obtain ⟨its, rv, p1, _⟩ := I2.list hqx
  obtain ⟨its2, rv2, p2, _⟩ := I2.list hqy
  have la : a < s2.heap.objs.size := p1.lt
  have lb : b < s2.heap.objs.size := p2.lt
  show wpAny _ _ (call (.type "zip") [.ref a, .ref b] [(Str.ofString "strict", .bool true)]) _ _ _
  refine call_zipS p1.isList p2.isList fun h' hz hTI hTO h1 h2 hk => pyIter_zipS hz ?_
  have I3 : Inv X pins σ _ { s2 with heap := h' } := I2.kept (t' := s2.toks) hk
  refine ⟨s2.heap.objs.size + 4, [s2.heap.objs.size + 4, s2.heap.objs.size + 2, s2.heap.objs.size + 3, s2.heap.objs.size, s2.heap.objs.size + 1], _, _, _, rfl, I3, turnS (PySem.W.ktu_apart s2.heap.objs.size a b la lb), ⟨hz, hTI, ⟨_, _, hTO⟩, h1, h2⟩, fun c hcm => ?_, q⟩
  have e' : c = s2.heap.objs.size + 4 ∨ c = s2.heap.objs.size + 2 ∨ c = s2.heap.objs.size + 3 ∨ c = s2.heap.objs.size ∨ c = s2.heap.objs.size + 1 := by simpa using hcm
  have hle : s2.heap.objs.size ≤ c := by
    rcases e' with z | z | z | z | z <;> rw [z] <;> first | exact Nat.le_refl _ | exact Nat.le_add_right _ _
  exact I2.fpOk hle (I2.hok.fresh hle)
end SZ

set_option maxRecDepth 100000
set_option maxHeartbeats 4000000
namespace SZ
open PySem PySem.Spec PyProof.Rows L2
theorem walkS {K : PySem.W.Frag} {a b : Addr} {xs ys : List V} {n : Nat} (h1 : xs.length = n) (h2 : ys.length = n) : Walk (ItS K a b) n (fun H => SqL K H a xs ∧ SqL K H b ys) (YPair (fun i => xs[i]?) (fun i => ys[i]?)) := by
  refine ⟨fun i _ hi q => ?_, fun _ q => ⟨xs, ys, q.1, q.2, by omega, by omega⟩, fun i H v H' _ q y => ?_⟩
  · have q1 : i < xs.length := by omega
    have q2 : i < ys.length := by omega
    exact ⟨xs, ys, xs[i], ys[i], q.1, q.2, by simp [q1], by simp [q2]⟩
  · obtain ⟨T, x, z, g1, g2, g3, g4, g5⟩ := y
    exact ⟨T, x, z, g1, g2, g3, g4 xs q.1, g5 ys q.2⟩
end SZ
namespace SS
open PySem L2 SR TL
theorem eqv_ints : ∀ (a b : List Int), PyData.eqvAll (a.map .int) (b.map .int) = decide (a = b)
  | [], [] => by simp [PyData.eqvAll]
  | [], _ :: _ => by simp [PyData.eqvAll]
  | _ :: _, [] => by simp [PyData.eqvAll]
  | x :: a, y :: b => by
    rw [List.map_cons, List.map_cons, PyData.eqvAll, eqv_ints a b]
    have : PyData.eqv (.int x) (.int y) = decide (x = y) := by
      rw [Bool.eq_iff_iff]
      simp [PyData.eqv]
    rw [this, ← Bool.decide_and, decide_eq_decide]
    exact ⟨fun h => by rw [h.1, h.2], fun h => by injection h with h1 h2; exact ⟨h1, h2⟩⟩
theorem eqv_ends (a b : List Int) : PyData.eqv (endsD a) (endsD b) = decide (a = b) := by
  unfold endsD
  rw [PyData.eqv]
  exact eqv_ints a b
theorem leaf_ends (en : List Int) : SeqAt.shaped (endsD en) = true := leaf_tuple fun d hd => by
  obtain ⟨i, _, rfl⟩ := List.mem_map.mp hd
  exact leaf_int i
section
variable {P : Program} {w : World} {K : PySem.W.Frag} {mg : Str → Option Value} {base : Heap}
/-! ### __eq__ -/
abbrev sEql : Stmt := inClass (top 28) 12
theorem scEql : FnScope ["self", "other"] ["self", "other"] (defScope sEql) := ⟨rfl, rfl, rfl, by decide +kernel, rfl, by decide +kernel, by decide +kernel⟩
def spEqA (C : Addr) : Sp := fun vs H Q _ => ∃ (x : Addr) (v : V) (cs : List Nat) (r : List (List Int)) (en ns : List Int), vs = [.ref x, v] ∧ Abc cs ∧ LangR C H x cs r en ns ∧ WfM cs r en ∧
  ((∃ T, SR.Odd H v T ∧ ∀ H', Same H H' → Q (.bl false) H') ∨ ∃ (y : Addr) (cs2 : List Nat) (r2 : List (List Int)) (en2 ns2 : List Int), v = .ref y ∧ LangR C H y cs2 r2 en2 ns2 ∧ WfM cs2 r2 en2 ∧ ∀ H', Same H H' → Q (.bl (decide (cs = cs2 ∧ en = en2 ∧ r = r2))) H')
theorem ok_eqA {f C : Addr} {fd : FuncData} (F : Fun K "__eq__" "Language.__eq__" sEql f fd) (B : Bl mg) (T : LTx K mg C) (Y : LTy K C) (O : OddC K C) : FnOk P w K mg base CX0 2 f fd ["self", "other"] (spEqA C) := by
  refine F.ok scEql (fun vs H Q E h => ?_) (fun cdv A outer s H vs Q E hr h => ?_)
  · obtain ⟨x, v, cs, r, en, ns, rfl, _⟩ := h
    rfl
  · obtain ⟨x, v, cs, r, en, ns, rfl, ha, L, W, h⟩ := h
    have nd : cs.Nodup := ris_nodup ha.ris
    obtain ⟨dx, pt, pm, pl, fs, h1, h2, h3, h4, h5, h6, ⟨⟨qs, t1, t2⟩, t3⟩, h8, h9⟩ := L.ex
    refine ⟨_, pss_cons (ps_if (pt_not (pt_val (pe_callB call_isi (by rfl) B.isinstance (by decide +kernel) (pa_cons (pv 1) (pa_cons (pe_glob (v := .ref C) rfl T.mgC rfl) pa_nil))))) (pss_one (ps_ret pe_bl)) pss_nil)
      (pss_cons (ps_if (PW.pt (pw_or (pt_cmpR op_ne (pe_fld (pv 0) rfl) (pe_fld (pv 1) rfl) (nomark _)) (pw_or1 (pt_cmpR (op_neD hr.units) (pe_fld (pv 0) rfl) (pe_fld (pv 1) rfl) (nomark _))))) (pss_one (ps_ret pe_bl)) pss_nil)
      (pss_one (ps_ret (pe_cmpR (op_eqRows nd hr.units) (pe_fld (pv 0) rfl) (pe_fld (pv 1) rfl) (nomark _))))), ?_⟩
    rcases h with ⟨T', o, k⟩ | ⟨y, cs2, r2, en2, ns2, rfl, L2', W2, k⟩
    · exact ⟨_, rfl, _, _, _, _, false, rfl, .own C, o.tyx, O.kit o.mem, _, rfl, iteT (k _ (Same.refl _))⟩
    · obtain ⟨dy, pt', pm', pl', fs', g1, g2, g3, g4, g5, g6, ⟨⟨qs', u1, u2⟩, u3⟩, g8, g9⟩ := L2'.ex
      refine ⟨_, rfl, _, _, _, _, true, rfl, .own C, .base (.ins g1 T.cl Y.cls Y.getc Y.tak Y.mro), Y.kit, _, rfl, iteF ?_⟩
      refine ⟨_, rfl, x, C, dx, _, _, rfl, h1, T.cl, T.nS, h2, _, rfl, y, C, dy, _, _, rfl, g1, T.cl, T.nS, g2, rfl, _, rfl, ?_⟩
      by_cases hcs : cs = cs2
      · subst hcs
        rw [show decide (V.str (txt cs) = V.str (txt cs)) = true from decide_eq_true rfl]
        refine ⟨_, rfl, x, C, dx, _, _, rfl, h1, T.cl, T.nM, h4, _, rfl, y, C, dy, _, _, rfl, g1, T.cl, T.nM, g4, endsD en, endsD en2, .tup (SqT.of t3) (dp_map (fun i => .int i) en), .tup (SqT.of u3) (dp_map (fun i => .int i) en2), leaf_ends en, leaf_ends en2, _, rfl, ?_⟩
        rw [eqv_ends]
        by_cases he : en = en2
        · subst he
          rw [decide_eq_true rfl]
          refine iteF ?_
          refine ⟨_, rfl, x, C, dx, _, _, rfl, h1, T.cl, T.nG, h3, _, rfl, y, C, dy, _, _, rfl, g1, T.cl, T.nG, g3, pt, pt', qs, qs', r, r2, rfl, rfl, SqT.of t1, SqT.of u1, t2, u2, fun row hr => (W.row row hr).1, fun row hr => (W2.row row hr).1, ?_⟩
          have := k _ (Same.refl _)
          rwa [show decide (cs = cs ∧ en = en ∧ r = r2) = decide (r = r2) by simp] at this
        · rw [decide_eq_false he]
          refine iteT ?_
          have := k _ (Same.refl _)
          rwa [show decide (cs = cs ∧ en = en2 ∧ r = r2) = false from decide_eq_false fun h => he h.2.1] at this
      · rw [show decide (V.str (txt cs) = V.str (txt cs2)) = false from decide_eq_false fun z => hcs (txt_inj (V.str.inj z))]
        refine iteT ?_
        have := k _ (Same.refl _)
        rwa [show decide (cs = cs2 ∧ en = en2 ∧ r = r2) = false from decide_eq_false fun h => hcs h.1] at this
/-! ### is_empty -/
abbrev sEmp2 : Stmt := inClass (top 28) 5
theorem scEmp : FnScope ["self"] ["self"] (defScope sEmp2) := ⟨rfl, rfl, rfl, by decide +kernel, rfl, by decide +kernel, by decide +kernel⟩
def spEmp (C : Addr) : Sp := fun vs H Q _ => ∃ (x : Addr) (cs : List Nat) (r : List (List Int)) (en ns : List Int), vs = [.ref x] ∧ LangR C H x cs r en ns ∧ ∀ H', Same H H' → Q (.bl (decide (ns = []))) H'
theorem eqv_nil (ns : List Int) : PyData.eqv (.tuple (ns.map .int)) (.tuple []) = decide (ns = []) := by
  cases ns with
  | nil => simp [PyData.eqv, PyData.eqvAll]
  | cons n ns => simp [PyData.eqv, PyData.eqvAll]
theorem ok_emp {f C : Addr} {fd : FuncData} (F : Fun K "is_empty" "Language.is_empty" sEmp2 f fd) (T : LTx K mg C) : FnOk P w K mg base CX0 1 f fd ["self"] (spEmp C) := by
  refine F.ok scEmp (fun vs H Q E h => ?_) (fun cdv A outer s H vs Q E hr h => ?_)
  · obtain ⟨x, cs, r, en, ns, rfl, _⟩ := h
    rfl
  · obtain ⟨x, cs, r, en, ns, rfl, L, k⟩ := h
    obtain ⟨dx, pt, pm, pl, fs, h1, h2, h3, h4, h5, h6, h7, h8, h9⟩ := L.ex
    refine ⟨_, pss_one (ps_ret (pe_cmpR (op_eqD hr.units) (pe_fld (pv 0) rfl) (pe_tup pa_nil) (nomark _))), ?_⟩
    refine ⟨_, rfl, x, C, dx, _, _, rfl, h1, T.cl, T.nL, h5, by show 0 ≤ sizeLine; decide, fun t ht => ?_⟩
    refine ⟨.tuple (ns.map .int), .tuple [], .tup (SqT.of ((same_new ht) _ _ h8)) (dp_map (fun i => .int i) ns), .tup (SqT.of upd_same) .nil, leaf_tuple ?_, leaf_tuple (fun _ h => nomatch h), ?_⟩
    · intro d hd
      obtain ⟨i, _, rfl⟩ := List.mem_map.mp hd
      exact leaf_int i
    · rw [eqv_nil]
      exact k _ (same_new ht)
end
end SS

set_option maxRecDepth 100000
set_option maxHeartbeats 4000000
set_option pp.maxSteps 400
namespace SS
open PySem L2 SR TL
theorem zip_fst_eq {α β : Type} : ∀ {L : List α} {us : List β}, us.length = L.length → (L.zip us).map (·.1) = L
  | [], _, _ => by simp
  | a :: L, [], h => by simp at h
  | a :: L, u :: us, h => by
    rw [List.zip_cons_cons, List.map_cons, zip_fst_eq (by simpa using h)]
theorem zipP_old {F : List Pr} {us : List (List Nat)} {M G : List (Pr × List Nat)} {g : Pr} {x : List Nat} (hl : us.length = F.length) (h : F.zip us = addP M G) (hg : g ∈ F) : F.zip us = addP M (G ++ [(g, x)]) := by
  rw [addP_app, ← h]
  refine (addP_none fun e he => ?_).symm
  rw [List.mem_singleton.mp he, zip_fst_eq hl]
  exact hg
theorem zipP_new {F : List Pr} {us : List (List Nat)} {M G : List (Pr × List Nat)} {g : Pr} {x : List Nat} (hl : us.length = F.length) (h : F.zip us = addP M G) (hg : g ∉ F) : (F ++ [g]).zip (us ++ [x]) = addP M (G ++ [(g, x)]) := by
  rw [addP_app, ← h, List.zip_append hl.symm]
  have : addP (F.zip us) [(g, x)] = F.zip us ++ [(g, x)] := by
    unfold addP
    rw [if_neg (show ¬ g ∈ (F.zip us).map (·.1) by rw [zip_fst_eq hl]; exact hg)]
    rfl
  rw [this]
  rfl
theorem zip_at {L : List Pr} {us : List (List Nat)} {n : Nat} {s : Pr} (hl : us.length = L.length) (hs : L[n]? = some s) : (L.zip us)[n]? = some (s, us.getD n []) := by
  obtain ⟨h1, h2⟩ := List.getElem?_eq_some_iff.mp hs
  have h3 : n < us.length := by omega
  rw [List.getElem?_eq_getElem (by rw [List.length_zip]; omega), List.getElem_zip, h2, List.getD_eq_getElem?_getD, List.getElem?_eq_getElem h3]
  rfl
def muP (pw : Addr) : St → Hp → Nat := fun _ H => 7 - (match H pw with | some (.lst xs) => xs.length | _ => 0)
section
variable {P : Program} {w : World} {K : PySem.W.Frag} {mg : Str → Option Value} {base : Heap}
/-! ### product, the signs being the same -/
abbrev sPrd : Stmt := top 30
abbrev nPrd : List Str := ["one", "other", "pairs", "texts", "rows", "numbers", "first", "second", "row", "sign", "goal"]
abbrev psPrd : List Str := ["one", "other"]
theorem scPrd : FnScope nPrd psPrd (defScope sPrd) := ⟨rfl, rfl, rfl, by decide +kernel, rfl, by decide +kernel, by decide +kernel⟩
def spPrd (C : Addr) : Sp := fun vs H Q _ => ∃ (x y : Addr) (cs : List Nat) (r1 r2 : List (List Int)) (e1 e2 n1 n2 : List Int) (D : List Pr), vs = [.ref x, .ref y] ∧ Abc cs ∧ LangR C H x cs r1 e1 n1 ∧ LangR C H y cs r2 e2 n2 ∧ WfM cs r1 e1 ∧ WfM cs r2 e2 ∧ Clz cs r1 r2 D ∧
  ∀ (L : List Pr) (t pp tx pw : Addr) (ts qs : List Addr) (H' : Hp), PrI cs r1 r2 D L.length L → Same H H' → H' t = some (.tup [.ref pp, .ref tx, .ref pw]) → H' pp = some (.lst (ts.map .ref)) → Paired (PtAt H') ts L → H' pw = some (.lst (qs.map .ref)) → Paired (RowAt H' cs) qs (rowsP cs r1 r2 L.length L) → (∃ us : List (List Nat), us.length = L.length ∧ H' tx = some (.lst (us.map txtV)) ∧ BEP cs (dP cs r1 r2) (0, 0) L.length (L.zip us)) → Q (.ref t) H'
theorem ok_prd {f C : Addr} {fd : FuncData} (F : Fun K "product" "product" sPrd f fd) (B : Bl mg) (T : LTx K mg C) : FnOk P w K mg base CX0 1 f fd psPrd (spPrd C) := by
  refine F.ok scPrd (fun vs H Q E h => ?_) (fun cdv A outer s H vs Q E hr h => ?_)
  · obtain ⟨x, y, cs, r1, r2, e1, e2, n1, n2, D, rfl, _⟩ := h
    rfl
  · obtain ⟨x, y, cs, r1, r2, en1, en2, n1, n2, D, rfl, ha, L1, L2', W1, W2, Cz, k⟩ := h
    have hu := hu_of hr
    have nd : cs.Nodup := ris_nodup ha.ris
    have h4c := ha.four
    obtain ⟨dx, pt, pm, pl, fs, a1, a2, a3, a4, a5, a6, ⟨⟨qs1, t1, t2⟩, t3⟩, a8, a9⟩ := L1.ex
    obtain ⟨dy, pt', pm', pl', fs', b1, b2, b3, b4, b5, b6, ⟨⟨qs2, u1, u2⟩, u3⟩, b8, b9⟩ := L2'.ex
    refine ⟨_, pss_cons (ps_if (pt_cmpR op_ne (pe_fld (pv 0) rfl) (pe_fld (pv 1) rfl) (nomark _)) (pss_one ps_never) pss_nil)
      (pss_cons (ps_par3 (i := 2) (j := 3) (l := 4) (by rfl) scPrd.nd rfl rfl rfl (by decide) (by decide) (by decide) rfl rfl rfl (pa_cons (pe_lst (pa_cons (pe_tup (pa_cons pe_int (pa_cons pe_int pa_nil))) pa_nil)) (pa_cons (pe_lst (pa_cons pe_str pa_nil)) (pa_cons (pe_lst pa_nil) pa_nil))) (by rfl))
      (pss_cons (ps_set (i := 5) scPrd.nd rfl (.inl rfl) (pe_dispT hu (pe_tup (pa_cons pe_int (pa_cons pe_int pa_nil))) pe_int))
      (pss_cons (ps_while PassesOwn.never (pt_cmpR op_lt (pe_callB call_len_seq (by rfl) B.len boot_len (pa_cons (pv 4) pa_nil)) (pe_callB call_len_seq (by rfl) B.len boot_len (pa_cons (pv 2) pa_nil)) (nomark _))
        (pss_cons (ps_asg (pe_ix ix_list (pv 2) (pe_callB call_len_seq (by rfl) B.len boot_len (pa_cons (pv 4) pa_nil)) (fun _ _ => rfl)) (pg_tup rfl (pgs_cons (pg_name (i := 6) scPrd.nd rfl (.inl rfl)) (pgs_cons (pg_name (i := 7) scPrd.nd rfl (.inl rfl)) pgs_nil))))
        (pss_cons (ps_set (i := 8) scPrd.nd rfl (.inl rfl) pe_dnewK)
        (pss_cons (ps_for PassesOwn.never rfl (pi_str (pe_fld (pv 0) rfl)) (pg_name (i := 9) scPrd.nd rfl (.inl rfl))
          (pss_cons (ps_set (i := 10) scPrd.nd rfl (.inl rfl) (pe_tup (pa_cons (pe_dget hu (pe_ix ix_tup (pe_fld (pv 0) rfl) (pv 6) (fun _ _ => rfl)) (pv 9) (fun _ _ => rfl)) (pa_cons (pe_dget hu (pe_ix ix_tup (pe_fld (pv 1) rfl) (pv 7) (fun _ _ => rfl)) (pv 9) (fun _ _ => rfl)) pa_nil))))
          (C8.pss_cut (ps_if (pt_cmp (pc_dnotin hu (pv 10) (pv 5)))
            (pss_cons (ps_dput hu (pv 5) (pv 10) (pe_callB call_len_seq (by rfl) B.len boot_len (pa_cons (pv 2) pa_nil)) rfl)
            (pss_cons (ps_expr (pe_bm PySem.F.plainAttrs_list PySem.F.slot_list_append PySem.F.type_list_append mt_append (pv 3) (pa_cons (pe_op op_add_str (pe_ix ix_list (pv 3) (pe_callB call_len_seq (by rfl) B.len boot_len (pa_cons (pv 4) pa_nil)) (fun _ _ => rfl)) (pv 9)) pa_nil)))
            (pss_one (ps_expr (pe_bm PySem.F.plainAttrs_list PySem.F.slot_list_append PySem.F.type_list_append mt_append (pv 2) (pa_cons (pv 10) pa_nil)))))) pss_nil)
          (pss_one (ps_dput hu (pv 8) (pv 9) (pe_dget hu (pv 5) (pv 10) (fun _ _ => rfl)) rfl)))))
        (pss_one (ps_expr (pe_bm PySem.F.plainAttrs_list PySem.F.slot_list_append PySem.F.type_list_append mt_append (pv 4) (pa_cons (pv 8) pa_nil))))))))
      (pss_one (ps_ret (pe_tup (pa_cons (pv 2) (pa_cons (pv 3) (pa_cons (pv 4) pa_nil))))))))), ?_⟩
    refine ⟨_, rfl, x, C, dx, _, _, rfl, a1, T.cl, T.nS, a2, _, rfl, y, C, dy, _, _, rfl, b1, T.cl, T.nS, b2, rfl, _, rfl, ?_⟩
    rw [show decide (V.str (txt cs) = V.str (txt cs)) = true from decide_eq_true rfl]
    refine iteF ?_
    refine ⟨by show 2 ≤ sizeLine; decide, fun p0 hp0 => ⟨by show 1 ≤ sizeLine; decide, fun pp hpp => ⟨by show 1 ≤ sizeLine; decide, fun tx htx => ⟨by show 0 ≤ sizeLine; decide, fun pw hpw => ⟨_, _, _, rfl, ?_⟩⟩⟩⟩⟩
    have f0 : (upd H p0 (.tup [.int 0, .int 0])) p0 = some (.tup [.int 0, .int 0]) := upd_same
    have e0 : Same H (upd H p0 (.tup [.int 0, .int 0])) := same_new hp0
    generalize (upd H p0 (.tup [.int 0, .int 0])) = Ha at f0 e0 hpp htx hpw
    have f1 : (upd Ha pp (.lst [.ref p0])) pp = some (.lst [.ref p0]) := upd_same
    have e1 : Same Ha (upd Ha pp (.lst [.ref p0])) := same_new hpp
    generalize (upd Ha pp (.lst [.ref p0])) = Hb at f1 e1 htx hpw
    have f2 : (upd Hb tx (.lst [.str (Str.ofString "")])) tx = some (.lst [.str (Str.ofString "")]) := upd_same
    have e2 : Same Hb (upd Hb tx (.lst [.str (Str.ofString "")])) := same_new htx
    generalize (upd Hb tx (.lst [.str (Str.ofString "")])) = Hc at f2 e2 hpw
    have f3 : (upd Hc pw (.lst [])) pw = some (.lst []) := upd_same
    have e3 : Same Hc (upd Hc pw (.lst [])) := same_new hpw
    generalize (upd Hc pw (.lst [])) = Hd at f3 e3
    have npx : pp ≠ tx := ne_of_none f1 htx
    have npw : pp ≠ pw := ne_of_none (e2 _ _ f1) hpw
    have nxw : tx ≠ pw := ne_of_none f2 hpw
    have zp : H pp = none := e0.free hpp
    have zx : H tx = none := e0.free (e1.free htx)
    have zw : H pw = none := e0.free (e1.free (e2.free hpw))
    have e03 := ((e0.trans e1).trans e2).trans e3
    -- numbers
    intro nb hnb
    have zn : H nb = none := e03.free hnb
    have f4 : (upd Hd nb (.dT [])) nb = some (.dT []) := upd_same
    have e4 : Same Hd (upd Hd nb (.dT [])) := same_new hnb
    generalize (upd Hd nb (.dT [])) = He at f4 e4
    refine ⟨by show 2 ≤ sizeLine; decide, fun p1 hp1 => ?_⟩
    have f5 : (upd He p1 (.tup [.int 0, .int 0])) p1 = some (.tup [.int 0, .int 0]) := upd_same
    have e5 : Same He (upd He p1 (.tup [.int 0, .int 0])) := same_new hp1
    generalize (upd He p1 (.tup [.int 0, .int 0])) = Hf at f5 e5
    refine ⟨e5 _ _ f4, p1, kyP (0, 0), rfl, f5, ?_⟩
    have e6 : Same Hd Hf := e4.trans e5
    have nb4 : Hf nb = some (.dT []) := e5 _ _ f4
    have I0 : PInv H (upd Hf nb (.dT (numT [(0, 0)]))) pp tx pw nb cs [(0, 0)] [[]] [] [] := by
      have nn : ∀ {b : Addr} {o : HO}, Hf b = some o → (∀ m, o ≠ .dT m) → (upd Hf nb (.dT (numT [(0, 0)]))) b = some o := fun {b o} hb hd => by rw [upd_ne (ne_of hb nb4 (fun z => hd _ z))]; exact hb
      refine ⟨same_upd (e03.trans e6) zn, ⟨[p0], nn (e6 _ _ (e3 _ _ (e2 _ _ f1))) (fun _ => nofun), .cons (nn (e6 _ _ (e3 _ _ (e2 _ _ (e1 _ _ f0)))) (fun _ => nofun)) .nil⟩, ⟨nn (e6 _ _ (e3 _ _ f2)) (fun _ => nofun), rfl, fun u hu => ?_⟩, nn (e6 _ _ f3) (fun _ => nofun), .nil, upd_same⟩
      rw [List.mem_singleton.mp hu]
      exact Nat.zero_le _
    have I1 : PInv H (upd Hf nb (.dT [(kyP (0, 0), V.int 0)])) pp tx pw nb cs [(0, 0)] [[]] [] [] := I0
    generalize (upd Hf nb (.dT [(kyP (0, 0), V.int 0)])) = Hg at I1
    clear I0 f0 f1 f2 f3 f4 f5 e0 e1 e2 e3 e4 e5 e6 nb4 hnb hp1 hpw htx hpp hp0 e03
    refine while_by (fun σ H' => ∃ (L : List Pr) (n : Nat) (qs : List Addr) (us : List (List Nat)) (c6 c7 c8 c9 c10 : Option V), σ = [some (.ref x), some (.ref y), some (.ref pp), some (.ref tx), some (.ref pw), some (.ref nb), c6, c7, c8, c9, c10] ∧ PInv H H' pp tx pw nb cs L us qs (rowsP cs r1 r2 n L) ∧ PrI cs r1 r2 D n L ∧ qs.length = n ∧ BEP cs (dP cs r1 r2) (0, 0) n (L.zip us)) (muP pw) ?_ ?_ ?_
    · exact ⟨[(0, 0)], 0, [], [[]], none, none, none, none, none, rfl, I1, PrI.start Cz, rfl, .start⟩
    · rintro σ H1 ⟨L, n, qs, us, c6, c7, c8, c9, c10, rfl, I, J, hqn, be⟩
      have hul := I.hx.2.1
      obtain ⟨ts, hts, hpts⟩ := I.hp
      have hL := J.len Cz
      have htl : ts.length = L.length := Paired.length hpts
      refine ⟨_, rfl, pw, _, rfl, .inl (SqL.of I.hw), _, rfl, pp, _, rfl, .inl (SqL.of hts), _, _, rfl, rfl, _, rfl, ?_⟩
      rw [List.length_map, List.length_map, hqn, htl]
      refine ite2 (fun hlt => ?_) (fun hge => ?_)
      · have hlt : n < L.length := by have := of_decide_eq_true hlt; omega
        obtain ⟨s, hs⟩ : ∃ s, L[n]? = some s := ⟨_, List.getElem?_eq_getElem hlt⟩
        obtain ⟨as, has, hpt⟩ := paired_get n hpts hs
        have hsm := List.mem_of_getElem? hs
        obtain ⟨⟨p0, p1⟩, q0, q1⟩ := Cz.rg s (J.sub s hsm)
        obtain ⟨J', hrows⟩ := J.next Cz hs
        have hat : atI (ts.map V.ref) (((qs.map V.ref).length : Nat) : Int) = some (.ref as) := atI_nat (by rw [List.length_map, hqn, List.getElem?_map, has]; rfl)
        refine ⟨_, rfl, _, rfl, pw, _, rfl, .inl (SqL.of I.hw), pp, _, _, .ref as, rfl, rfl, SqL.of hts, hat, as, _, rfl, SqT.of hpt, rfl, _, _, rfl, _, _, rfl, rfl, ?_⟩
        intro dr hdr
        have zd : H dr = none := I.same.free hdr
        have nq : ∀ q ∈ qs, q ≠ dr := fun q hq => by
          obtain ⟨jj, hjj⟩ := List.mem_iff_getElem?.mp hq
          have hjl : jj < (rowsP cs r1 r2 n L).length := by
            have := (List.getElem?_eq_some_iff.mp hjj).1
            have := Paired.length I.hr
            omega
          obtain ⟨q', e1', r1'⟩ := paired_get jj I.hr (List.getElem?_eq_getElem hjl)
          rw [hjj] at e1'
          cases e1'
          exact ne_of_none r1' hdr
        have IA := I.mono (same_new (o := .dK []) hdr)
        have hdA : (upd H1 dr (.dK [])) dr = some (.dK []) := upd_same
        have hwA : (upd H1 dr (.dK [])) pw = some (.lst (qs.map .ref)) := IA.hw
        generalize (upd H1 dr (.dK [])) = HA at IA hdA hwA
        have hzc : (txt cs).cps.size = cs.length := by simp [txt]
        refine ⟨_, rfl, x, C, dx, _, _, rfl, IA.same _ _ a1, T.cl, T.nS, a2, _, rfl, for_it walk_str (fun l σ H' => ∃ (c9 c10 : Option V), σ = [some (.ref x), some (.ref y), some (.ref pp), some (.ref tx), some (.ref pw), some (.ref nb), some (.int s.1), some (.int s.2), some (.ref dr), c9, c10] ∧ (∃ us' t, us' = us ++ t ∧ (addA L ((cs.take l).map (dP cs r1 r2 s))).zip us' = addP (L.zip us) ((cs.take l).map fun c => (dP cs r1 r2 s c, us.getD n [] ++ [c])) ∧ PInv H H' pp tx pw nb cs (addA L ((cs.take l).map (dP cs r1 r2 s))) us' qs (rowsP cs r1 r2 n L)) ∧
          H' dr = some (.dK (rowK (cs.take l) ((cs.take l).map fun c => (((addA L ((cs.take l).map (dP cs r1 r2 s))).idxOf (dP cs r1 r2 s c) : Nat) : Int))))) ⟨_, _, rfl, ⟨us, [], (List.append_nil _).symm, rfl, IA⟩, hdA⟩ (fun _ _ _ _ _ => trivial) ?_ ?_⟩
        · rintro l v σ HBx HB hl ⟨c9, c10, rfl, ⟨us1, tu, hu1, hz1, IB⟩, hdB⟩ ⟨rfl, c, hc, rfl⟩
          have hc' : cs[l]? = some c := by simpa [txt] using hc
          have hcm := List.mem_of_getElem? hc'
          have hli : l < cs.length := (List.getElem?_eq_some_iff.mp hc').1
          obtain ⟨row1, g1, g2, g3, _⟩ := W1.nxt_ok p0 p1 hcm
          obtain ⟨w1, hw1, hrow1⟩ := paired_get _ t2 g1
          obtain ⟨row2, k1, k2, k3, _⟩ := W2.nxt_ok q0 q1 hcm
          obtain ⟨w2, hw2, hrow2⟩ := paired_get _ u2 k1
          have em := IB.same
          refine ⟨_, rfl, x, C, dx, _, _, rfl, em _ _ a1, T.cl, T.nG, a3, _, rfl, pt, _, _, .ref w1, rfl, rfl, SqT.of (em _ _ t1), atI_of p0 (by rw [List.getElem?_map, hw1]; rfl), _, rfl, w1, .int (nxt cs r1 s.1 c), rfl, (by rw [g3, ← val_row g2 hcm]; exact DGet.k (k := Sum.inr (lt c)) (em _ _ hrow1)), ?_⟩
          refine ⟨_, rfl, y, C, dy, _, _, rfl, em _ _ b1, T.cl, T.nG, b3, _, rfl, pt', _, _, .ref w2, rfl, rfl, SqT.of (em _ _ u1), atI_of q0 (by rw [List.getElem?_map, hw2]; rfl), _, rfl, w2, .int (nxt cs r2 s.2 c), rfl, (by rw [k3, ← val_row k2 hcm]; exact DGet.k (k := Sum.inr (lt c)) (em _ _ hrow2)), ?_⟩
          refine ⟨by show 2 ≤ sizeLine; decide, fun pg hpg => ?_⟩
          have eC : Same HB (upd HB pg (.tup [.int (nxt cs r1 s.1 c), .int (nxt cs r2 s.2 c)])) := same_new hpg
          have hgC : (upd HB pg (.tup [.int (nxt cs r1 s.1 c), .int (nxt cs r2 s.2 c)])) pg = some (.tup ((kyP (dP cs r1 r2 s c)).map kV)) := upd_same
          generalize (upd HB pg (.tup [.int (nxt cs r1 s.1 c), .int (nxt cs r2 s.2 c)])) = HC at eC hgC
          have IC := IB.mono eC
          have hdC := eC _ _ hdB
          have hFn : (addA L ((cs.take l).map (dP cs r1 r2 s))).length ≤ 6 := by
            refine Nat.le_trans (len_subG _ D (addA_nodup J.nd) fun u hu => ?_) Cz.six
            rcases addA_only hu with z | z
            · exact J.sub u z
            · obtain ⟨c2, hc2, rfl⟩ := List.mem_map.mp z
              exact Cz.cl s (J.sub s hsm) c2 (List.mem_of_mem_take hc2)
          have hin : ∀ c' ∈ cs.take l, dP cs r1 r2 s c' ∈ addA L ((cs.take l).map (dP cs r1 r2 s)) := fun c' hc2 => addA_mem _ (List.mem_map.mpr ⟨c', hc2, rfl⟩)
          obtain ⟨F', hF'⟩ : ∃ F', F' = addA L ((cs.take l).map (dP cs r1 r2 s)) := ⟨_, rfl⟩
          have hLF : L.length ≤ F'.length := by
            obtain ⟨u, eu⟩ := addA_prefix ((cs.take l).map (dP cs r1 r2 s)) L
            rw [hF', eu, List.length_append]
            omega
          have eF : addA L ((cs.take (l + 1)).map (dP cs r1 r2 s)) = if dP cs r1 r2 s c ∈ F' then F' else F' ++ [dP cs r1 r2 s c] := by
            rw [List.take_add_one, hc', List.map_append]
            show addA L (_ ++ [dP cs r1 r2 s c]) = _
            rw [addA_snoc, ← hF']
            by_cases hm : dP cs r1 r2 s c ∈ F'
            · rw [if_pos hm, if_pos hm]
            · rw [if_neg hm, if_neg hm]
          rw [← hF'] at IC hdC hFn hin hz1
          have eG : ((cs.take (l + 1)).map fun c => (dP cs r1 r2 s c, us.getD n [] ++ [c])) = ((cs.take l).map fun c => (dP cs r1 r2 s c, us.getD n [] ++ [c])) ++ [(dP cs r1 r2 s c, us.getD n [] ++ [c])] := by rw [List.take_add_one, hc', List.map_append]; rfl
          have hul1 := IC.hx.2.1
          have hgin : dP cs r1 r2 s c ∈ addA L ((cs.take (l + 1)).map (dP cs r1 r2 s)) := addA_mem _ (List.mem_map.mpr ⟨c, by rw [List.take_add_one, hc']; simp, rfl⟩)
          have hsame : ∀ u : List Pr, ((cs.take l).map fun c' => (((F' ++ u).idxOf (dP cs r1 r2 s c') : Nat) : Int)) = (cs.take l).map fun c' => ((F'.idxOf (dP cs r1 r2 s c') : Nat) : Int) := fun u => List.map_congr_left fun c' hc2 => by rw [idxOf_app (hin c' hc2)]
          obtain ⟨F2, hF2e⟩ : ∃ F2, F2 = addA L ((cs.take (l + 1)).map (dP cs r1 r2 s)) := ⟨_, rfl⟩
          rw [← hF2e] at eF hgin
          refine ⟨fun σ' H' => σ' = [some (.ref x), some (.ref y), some (.ref pp), some (.ref tx), some (.ref pw), some (.ref nb), some (.int s.1), some (.int s.2), some (.ref dr), some (ltV c), some (.ref pg)] ∧ (∃ us' t, us' = us ++ t ∧ F2.zip us' = addP (L.zip us) ((cs.take (l + 1)).map fun c => (dP cs r1 r2 s c, us.getD n [] ++ [c])) ∧ PInv H H' pp tx pw nb cs F2 us' qs (rowsP cs r1 r2 n L)) ∧
            H' dr = some (.dK (rowK (cs.take l) ((cs.take l).map fun c' => ((F2.idxOf (dP cs r1 r2 s c') : Nat) : Int)))) ∧ H' pg = some (.tup ((kyP (dP cs r1 r2 s c)).map kV)) ∧ F2.length ≤ 7, ?_, ?_⟩
          · refine ⟨_, rfl, _, rfl, nb, _, rfl, DGet.t (k := kyP (dP cs r1 r2 s c)) IC.hn hgC, _, rfl, ?_⟩
            rw [val_numT]
            by_cases hm : dP cs r1 r2 s c ∈ F'
            · rw [if_pos hm] at eF
              rw [if_pos hm]
              exact iteF ⟨rfl, ⟨us1, tu, hu1, by rw [eG, eF]; exact zipP_old hul1 hz1 hm, eF ▸ IC⟩, by rw [eF]; exact hdC, hgC, by rw [eF]; omega⟩
            · rw [if_neg hm] at eF
              rw [if_neg hm]
              obtain ⟨ts2, hts2, hpts2⟩ := IC.hp
              obtain ⟨hus2, hul2, hub2⟩ := IC.hx
              have htl2 : ts2.length = F'.length := Paired.length hpts2
              have npn : pp ≠ nb := ne_of hts2 IC.hn (by intro z; cases z)
              have nxn : tx ≠ nb := ne_of hus2 IC.hn (by intro z; cases z)
              have nwn : pw ≠ nb := ne_of IC.hw IC.hn (by intro z; cases z)
              refine iteT ⟨_, rfl, pp, _, rfl, .inl (SqL.of hts2), _, rfl, _, rfl, nb, _, rfl, DPut.t (k := kyP (dP cs r1 r2 s c)) IC.hn hgC (by unfold numT; rw [List.length_map, sizeLine_eq]; omega), ?_⟩
              rw [List.length_map, htl2, put_numT hm]
              have x1 : (upd HC nb (.dT (numT (F' ++ [dP cs r1 r2 s c])))) tx = some (.lst (us1.map txtV)) := by rw [upd_ne nxn]; exact hus2
              have x2 : (upd HC nb (.dT (numT (F' ++ [dP cs r1 r2 s c])))) pw = some (.lst (qs.map .ref)) := by rw [upd_ne nwn]; exact IC.hw
              have hnu : n < us1.length := by omega
              have hnn : us1[n]? = some (us.getD n []) := by
                rw [hu1, List.getElem?_append_left (by omega), List.getD_eq_getElem?_getD, List.getElem?_eq_getElem (by omega)]
                rfl
              have hat2 : atI (us1.map txtV) (((qs.map V.ref).length : Nat) : Int) = some (txtV (us.getD n [])) := atI_nat (by rw [List.length_map, hqn, List.getElem?_map, hnn]; rfl)
              have hulen := hub2 (us.getD n []) (List.mem_of_getElem? hnn)
              have htl' : (txt (us.getD n [])).length = (us.getD n []).length := by simp [txt, Str.length]
              have hta : txt (us.getD n []) ++ lt c = txt (us.getD n [] ++ [c]) := txt_app _ [c]
              refine ⟨_, rfl, .inl ⟨rfl, _, SqL.of x1⟩, _, rfl, _, rfl, pw, _, rfl, .inl (SqL.of x2), tx, _, _, txtV (us.getD n []), rfl, rfl, SqL.of x1, hat2, _, rfl, _, _, rfl, rfl, (by rw [sizeLine_eq, htl']; show _ + 1 ≤ _; omega), tx, _, _, rfl, rfl, x1, (by rw [List.length_map, sizeLine_eq]; omega), ?_⟩
              have x3 : (upd (upd HC nb (.dT (numT (F' ++ [dP cs r1 r2 s c])))) tx (.lst (us1.map txtV ++ [.str (txt (us.getD n []) ++ lt c)]))) pp = some (.lst (ts2.map .ref)) := by rw [upd_ne npx, upd_ne npn]; exact hts2
              refine ⟨_, rfl, .inl ⟨rfl, _, SqL.of x3⟩, _, rfl, pp, _, _, rfl, rfl, x3, (by rw [List.length_map, sizeLine_eq]; omega), ?_⟩
              have IN := IC.add zp zx zn npx npw nxw (g := dP cs r1 r2 s c) (a := pg) (u := us.getD n [] ++ [c]) hgC (by rw [List.length_append]; show _ + 1 ≤ _; omega) hts2
              have IN' : PInv H (upd (upd (upd HC nb (.dT (numT (F' ++ [dP cs r1 r2 s c])))) tx (.lst (us1.map txtV ++ [.str (txt (us.getD n []) ++ lt c)]))) pp (.lst (ts2.map .ref ++ [.ref pg]))) pp tx pw nb cs (F' ++ [dP cs r1 r2 s c]) (us1 ++ [us.getD n [] ++ [c]]) qs (rowsP cs r1 r2 n L) := by
                rw [hta]
                exact IN
              refine ⟨rfl, ⟨us1 ++ [us.getD n [] ++ [c]], tu ++ [us.getD n [] ++ [c]], by rw [hu1, List.append_assoc], by rw [eG, eF]; exact zipP_new hul1 hz1 hm, eF ▸ IN'⟩, ?_, ?_, by rw [eF, List.length_append]; show F'.length + 1 ≤ 7; omega⟩
              · rw [upd_ne (ne_of hdC hts2 (by intro z; cases z)), upd_ne (ne_of hdC hus2 (by intro z; cases z)), upd_ne (ne_of hdC IC.hn (by intro z; cases z)), eF, hsame]
                exact hdC
              · rw [upd_ne (ne_of hgC hts2 (by intro z; cases z)), upd_ne (ne_of hgC hus2 (by intro z; cases z)), upd_ne (ne_of hgC IC.hn (by intro z; cases z))]
                exact hgC
          · rintro σ' H' ⟨rfl, ⟨us3, t3', hu3, hz3, I'⟩, hd', hg', hF2⟩
            have hvn : valV (numT F2) (kyP (dP cs r1 r2 s c)) = some (.int ((F2.idxOf (dP cs r1 r2 s c) : Nat) : Int)) := by rw [val_numT, if_pos hgin]
            refine ⟨_, rfl, _, rfl, nb, _, rfl, (by rw [← hvn]; exact DGet.t (k := kyP (dP cs r1 r2 s c)) I'.hn hg'), _, rfl, _, rfl, dr, _, rfl, DPut.k (k := Sum.inr (lt c)) hd' (by rw [sizeLine_eq]; unfold rowK; simp; omega), ?_⟩
            refine ⟨_, _, rfl, ?_⟩
            rw [← hF2e]
            refine ⟨⟨us3, t3', hu3, hz3, I'.line zd hd' nq⟩, ?_⟩
            rw [upd_same, rowK_snoc nd hc' (by rw [List.length_map, List.length_take]; omega)]
            congr 3
            rw [List.take_add_one, hc', List.map_append]
            rfl
        · rintro σ HB ⟨c9, c10, rfl, ⟨us1, tu, hu1, hz1, IB⟩, hdB⟩
          rw [hzc, List.take_length] at IB hdB hz1
          refine ⟨_, rfl, .inl ⟨rfl, _, SqL.of IB.hw⟩, _, rfl, pw, _, _, rfl, rfl, IB.hw, (by rw [List.length_map, sizeLine_eq]; omega), ?_⟩
          refine ⟨⟨_, n + 1, qs ++ [dr], us1, _, _, _, _, _, rfl, ?_, J', by simp [hqn], by rw [hz1]; exact .turn be (zip_at hul hs)⟩, ?_⟩
          · rw [hrows]
            exact IB.row zw npw nxw hdB
          · show 7 - (match (upd HB pw (.lst (qs.map .ref ++ [.ref dr]))) pw with | some (.lst xs) => xs.length | _ => 0) < 7 - (match H1 pw with | some (.lst xs) => xs.length | _ => 0)
            rw [upd_same, I.hw]
            show 7 - (qs.map V.ref ++ [V.ref dr]).length < 7 - (qs.map V.ref).length
            rw [List.length_append, List.length_map]
            show 7 - (qs.length + 1) < 7 - qs.length
            omega
      · have hge' : n = L.length := by
          have h : ¬ ((n : Int) < (L.length : Nat)) := fun z => hge (decide_eq_true z)
          have := J.le
          omega
        subst hge'
        refine ⟨_, rfl, _, rfl, _, rfl, by show 3 ≤ sizeLine; decide, fun t ht => ?_⟩
        have eT : Same H1 (upd H1 t (.tup [.ref pp, .ref tx, .ref pw])) := same_new ht
        exact k L t pp tx pw ts qs _ J (I.same.trans eT) upd_same (eT _ _ hts) (Paired.mono hpts fun _ _ h => eT _ _ h) (eT _ _ I.hw) (Paired.mono I.hr fun _ _ h => eT _ _ h) ⟨us, hul, eT _ _ I.hx.1, be⟩
    · intro σ H Q Q' m h
      obtain ⟨v, h1, p, ys, h2, h3, v2, h4, p2, ys2, h5, h6, i, j, h7, h8, b, h9, q⟩ := h
      exact ⟨v, h1, p, ys, h2, h3, v2, h4, p2, ys2, h5, h6, i, j, h7, h8, b, h9, m _ _ q⟩
end
end SS

set_option maxRecDepth 100000
set_option maxHeartbeats 4000000
namespace SS
open PySem L2 SR TL
section
variable {P : Program} {w : World} {K : PySem.W.Frag} {mg : Str → Option Value} {base : Heap}
abbrev sCks : Stmt := inClass (top 28) 6
abbrev sMov : Stmt := inClass (top 28) 7
abbrev sMem : Stmt := inClass (top 28) 8
abbrev sLiv : Stmt := inClass (top 28) 9
abbrev sLen : Stmt := inClass (top 28) 10
/-! ### check_state -/
abbrev psS : List Str := ["self", "state"]
theorem scCks : FnScope psS psS (defScope sCks) := ⟨rfl, rfl, rfl, by decide +kernel, rfl, by decide +kernel, by decide +kernel⟩
def spCks (C : Addr) : Sp := fun vs H Q _ => ∃ (x : Addr) (q : Int) (cs : List Nat) (rw' : List (List Int)) (en' ns : List Int), vs = [.ref x, .int q] ∧ LangR C H x cs rw' en' ns ∧ 0 ≤ q ∧ q < (rw'.length : Int) ∧ Q .non H
theorem ok_cks {f C : Addr} {fd : FuncData} (F : Fun K "check_state" "Language.check_state" sCks f fd) (B : Bl mg) (T : LTx K mg C) (N : Cal P w K mg base "is_number_below" 1 ["value", "limit"] spNum) : FnOk P w K mg base CX0 2 f fd psS (spCks C) := by
  refine F.ok scCks (fun vs H Q E h => ?_) (fun cdv A outer s H vs Q E hr h => ?_)
  · obtain ⟨x, q, cs, rw', en', ns, rfl, _⟩ := h
    rfl
  · obtain ⟨x, q, cs, rw', en', ns, rfl, L, q0, q1, k⟩ := h
    obtain ⟨dx, pt, pm, pl, fs, h1, h2, h3, h4, h5, h6, ⟨⟨qs, t1, t2⟩, t3⟩, h8, h9⟩ := L.ex
    refine ⟨_, pss_one (ps_if (pt_not (pt_val (pe_cal N hr (pa_cons (pv 1) (pa_cons (pe_callB call_len_seq (by rfl) B.len boot_len (pa_cons (pe_fld (pv 0) rfl) pa_nil)) pa_nil))))) (pss_one ps_never) pss_nil), ?_⟩
    refine ⟨_, rfl, _, rfl, x, C, dx, _, _, rfl, h1, T.cl, T.nG, h3, pt, _, rfl, .inr (SqT.of t1), _, _, rfl, q0, ?_, ⟨_, rfl, iteF k⟩⟩
    rw [List.length_map, Paired.length t2]
    exact q1
/-! ### move -/
abbrev psMv : List Str := ["self", "state", "sign"]
theorem scMov : FnScope psMv psMv (defScope sMov) := ⟨rfl, rfl, rfl, by decide +kernel, rfl, by decide +kernel, by decide +kernel⟩
/-- what the move by a sign gives -/
def mvV (cs : List Nat) (rw' : List (List Int)) (q : Int) (c : Nat) : V := if c ∈ cs then .int (nxt cs rw' q c) else .non
def spMov (C : Addr) : Sp := fun vs H Q _ => ∃ (x : Addr) (q : Int) (c : Nat) (cs : List Nat) (rw' : List (List Int)) (en' ns : List Int), vs = [.ref x, .int q, ltV c] ∧ LangR C H x cs rw' en' ns ∧ WfM cs rw' en' ∧ 0 ≤ q ∧ q < (rw'.length : Int) ∧ Q (mvV cs rw' q c) H
/-- the method check_state -/
structure CksM (P : Program) (w : World) (K : PySem.W.Frag) (mg : Str → Option Value) (base : Heap) (C : Addr) : Prop where
  ex : ∃ f fd, Meth K C "check_state" f ∧ FnOk P w K mg base CX0 2 f fd psS (spCks C) ∧ Binds K fd psS []
theorem ok_mov {f C : Addr} {fd : FuncData} (F : Fun K "move" "Language.move" sMov f fd) (B : Bl mg) (T : LTx K mg C) (M : CksM P w K mg base C) : FnOk P w K mg base CX0 3 f fd psMv (spMov C) := by
  obtain ⟨g, gd, mM, mF, mB⟩ := M.ex
  refine F.ok scMov (fun vs H Q E h => ?_) (fun cdv A outer s H vs Q E hr h => ?_)
  · obtain ⟨x, q, c, cs, rw', en', ns, rfl, _⟩ := h
    rfl
  · obtain ⟨x, q, c, cs, rw', en', ns, rfl, L, W, q0, q1, k⟩ := h
    have hu := hu_of hr
    obtain ⟨dx, pt, pm, pl, fs, h1, h2, h3, h4, h5, h6, ⟨⟨qs, t1, t2⟩, t3⟩, h8, h9⟩ := L.ex
    refine ⟨_, pss_cons (ps_expr (pe_meth (pv 0) T.cl mM mF hr mB .nil pass0 (pa_cons (pv 1) pa_nil)))
      (pss_one (ps_ret (pe_dget1 hu (pe_ix ix_tup (pe_fld (pv 0) rfl) (pv 1) (fun _ _ => rfl)) (pv 2) ⟨rfl, rfl, rfl, rfl⟩))), ?_⟩
    refine ⟨_, rfl, x, dx, fs, rfl, h1, h6 _ (by decide +kernel) (by decide +kernel) (by decide +kernel) (by decide +kernel), _, rfl, x, q, cs, rw', en', ns, rfl, L, q0, q1, ?_⟩
    have hql : q.toNat < rw'.length := by omega
    obtain ⟨p, hp, hrow⟩ := paired_get _ t2 (List.getElem?_eq_getElem hql)
    refine ⟨_, rfl, x, C, dx, _, _, rfl, h1, T.cl, T.nG, h3, _, rfl, pt, _, _, .ref p, rfl, rfl, SqT.of t1, atI_of q0 (by rw [List.getElem?_map, hp]; rfl), p, rfl, .inl ⟨_, .inl hrow⟩, _, rfl, _, DGet.k (k := Sum.inr (lt c)) hrow, ?_⟩
    have goal : (valV (rowK cs rw'[q.toNat]) (Sum.inr (lt c))).getD .non = mvV cs rw' q c := by
      unfold mvV
      by_cases hcm : c ∈ cs
      · obtain ⟨row, e1', e2', e3', _⟩ := W.nxt_ok q0 q1 hcm
        rw [List.getElem?_eq_getElem hql] at e1'
        cases e1'
        rw [val_row e2' hcm, if_pos hcm, e3']
        rfl
      · rw [val_row_none hcm, if_neg hcm]
        rfl
    rw [← goal] at k
    exact k
/-! ### is_member, is_live -/
theorem scMem : FnScope psS psS (defScope sMem) := ⟨rfl, rfl, rfl, by decide +kernel, rfl, by decide +kernel, by decide +kernel⟩
theorem scLiv : FnScope psS psS (defScope sLiv) := ⟨rfl, rfl, rfl, by decide +kernel, rfl, by decide +kernel, by decide +kernel⟩
def spMem (C : Addr) : Sp := fun vs H Q _ => ∃ (x : Addr) (q : Int) (cs : List Nat) (rw' : List (List Int)) (en' ns : List Int), vs = [.ref x, .int q] ∧ LangR C H x cs rw' en' ns ∧ 0 ≤ q ∧ q < (rw'.length : Int) ∧ Q (.bl (decide (q ∈ en'))) H
def spLiv (C : Addr) : Sp := fun vs H Q _ => ∃ (x : Addr) (q : Int) (cs : List Nat) (rw' : List (List Int)) (en' ns : List Int), vs = [.ref x, .int q] ∧ LangR C H x cs rw' en' ns ∧ 0 ≤ q ∧ q < (rw'.length : Int) ∧ Q (.bl (decide (q ∈ ns))) H
theorem ok_mem {f C : Addr} {fd : FuncData} (F : Fun K "is_member" "Language.is_member" sMem f fd) (B : Bl mg) (T : LTx K mg C) (M : CksM P w K mg base C) : FnOk P w K mg base CX0 3 f fd psS (spMem C) := by
  obtain ⟨g, gd, mM, mF, mB⟩ := M.ex
  refine F.ok scMem (fun vs H Q E h => ?_) (fun cdv A outer s H vs Q E hr h => ?_)
  · obtain ⟨x, q, cs, rw', en', ns, rfl, _⟩ := h
    rfl
  · obtain ⟨x, q, cs, rw', en', ns, rfl, L, q0, q1, k⟩ := h
    obtain ⟨dx, pt, pm, pl, fs, h1, h2, h3, h4, h5, h6, ⟨⟨qs, t1, t2⟩, t3⟩, h8, h9⟩ := L.ex
    refine ⟨_, pss_cons (ps_expr (pe_meth (pv 0) T.cl mM mF hr mB .nil pass0 (pa_cons (pv 1) pa_nil)))
      (pss_one (ps_ret (pe_cmpR op_in_seq (pv 1) (pe_fld (pv 0) rfl) (by rfl)))), ?_⟩
    refine ⟨_, rfl, x, dx, fs, rfl, h1, h6 _ (by decide +kernel) (by decide +kernel) (by decide +kernel) (by decide +kernel), _, rfl, x, q, cs, rw', en', ns, rfl, L, q0, q1, ?_⟩
    refine ⟨_, rfl, _, rfl, x, C, dx, _, _, rfl, h1, T.cl, T.nM, h4, pm, _, rfl, .inr (SqT.of t3), rfl, flat_ints _, ?_⟩
    show Q (.bl (inV (.int q) (en'.map .int))) H
    rw [inV_ints]
    exact k
theorem ok_liv {f C : Addr} {fd : FuncData} (F : Fun K "is_live" "Language.is_live" sLiv f fd) (B : Bl mg) (T : LTx K mg C) (M : CksM P w K mg base C) : FnOk P w K mg base CX0 3 f fd psS (spLiv C) := by
  obtain ⟨g, gd, mM, mF, mB⟩ := M.ex
  refine F.ok scLiv (fun vs H Q E h => ?_) (fun cdv A outer s H vs Q E hr h => ?_)
  · obtain ⟨x, q, cs, rw', en', ns, rfl, _⟩ := h
    rfl
  · obtain ⟨x, q, cs, rw', en', ns, rfl, L, q0, q1, k⟩ := h
    obtain ⟨dx, pt, pm, pl, fs, h1, h2, h3, h4, h5, h6, ⟨⟨qs, t1, t2⟩, t3⟩, h8, h9⟩ := L.ex
    refine ⟨_, pss_cons (ps_expr (pe_meth (pv 0) T.cl mM mF hr mB .nil pass0 (pa_cons (pv 1) pa_nil)))
      (pss_one (ps_ret (pe_cmpR op_in_seq (pv 1) (pe_fld (pv 0) rfl) (by rfl)))), ?_⟩
    refine ⟨_, rfl, x, dx, fs, rfl, h1, h6 _ (by decide +kernel) (by decide +kernel) (by decide +kernel) (by decide +kernel), _, rfl, x, q, cs, rw', en', ns, rfl, L, q0, q1, ?_⟩
    refine ⟨_, rfl, _, rfl, x, C, dx, _, _, rfl, h1, T.cl, T.nL, h5, pl, _, rfl, .inr (SqT.of h8), rfl, flat_ints _, ?_⟩
    show Q (.bl (inV (.int q) (ns.map .int))) H
    rw [inV_ints]
    exact k
/-! ### __len__ -/
theorem scLen : FnScope ["self"] ["self"] (defScope sLen) := ⟨rfl, rfl, rfl, by decide +kernel, rfl, by decide +kernel, by decide +kernel⟩
def spLen (C : Addr) : Sp := fun vs H Q _ => ∃ (x : Addr) (cs : List Nat) (rw' : List (List Int)) (en' ns : List Int), vs = [.ref x] ∧ LangR C H x cs rw' en' ns ∧ Q (.int (rw'.length : Nat)) H
theorem ok_len {f C : Addr} {fd : FuncData} (F : Fun K "__len__" "Language.__len__" sLen f fd) (B : Bl mg) (T : LTx K mg C) : FnOk P w K mg base CX0 1 f fd ["self"] (spLen C) := by
  refine F.ok scLen (fun vs H Q E h => ?_) (fun cdv A outer s H vs Q E hr h => ?_)
  · obtain ⟨x, cs, rw', en', ns, rfl, _⟩ := h
    rfl
  · obtain ⟨x, cs, rw', en', ns, rfl, L, k⟩ := h
    obtain ⟨dx, pt, pm, pl, fs, h1, h2, h3, h4, h5, h6, ⟨⟨qs, t1, t2⟩, t3⟩, h8, h9⟩ := L.ex
    refine ⟨_, pss_one (ps_ret (pe_callB call_len_seq (by rfl) B.len boot_len (pa_cons (pe_fld (pv 0) rfl) pa_nil))), ?_⟩
    refine ⟨_, rfl, x, C, dx, _, _, rfl, h1, T.cl, T.nG, h3, pt, _, rfl, .inr (SqT.of t1), ?_⟩
    rw [List.length_map, Paired.length t2]
    exact k
end
end SS

set_option maxRecDepth 100000
set_option maxHeartbeats 4000000
namespace SS
open PySem L2 SR TL
/-! ### the numbers of the least machine: as the texts first reach them -/
theorem addA_new (gs : List Int) : ∀ L : List Int, addA L gs = addNew L gs := by
  induction gs with
  | nil => intro L; rfl
  | cons g gs ih =>
    intro L
    show addA (if g ∈ L then L else L ++ [g]) gs = addNew (if g ∈ L then L else L ++ [g]) gs
    rw [ih]
theorem BEP.be {cs : List Nat} {δ : Int → Nat → Int} {q0 : Int} : ∀ {n : Nat} {L : List (Int × List Nat)}, BEP cs δ q0 n L → BE (fun q => cs.map (δ q)) q0 n (L.map (·.1))
  | 0, _, .start => .start
  | n + 1, _, .turn (L := L) (e := e) b h => by
    rw [addP_fst, addA_new, List.map_map]
    have h2 : (L.map (·.1))[n]? = some e.1 := by rw [List.getElem?_map, h]; rfl
    exact BE.turn (BEP.be b) h2
theorem BE.down {δ : Int → List Int} {q0 : Int} {n : Nat} : ∀ {m : Nat} {M : List Int}, BE δ q0 m M → n < m → ∃ k M', BE δ q0 n M' ∧ M'[n]? = some k ∧ ∃ t, M = M' ++ t := by
  intro m
  induction m with
  | zero => intro M _ lt; omega
  | succ m ih =>
    intro M b lt
    cases b with
    | @turn _ L0 e0 b0 h0 =>
      obtain ⟨t, et⟩ := addNew_prefix (δ e0) L0
      by_cases e : n = m
      · subst e
        exact ⟨_, _, b0, h0, t, et⟩
      · obtain ⟨e', M', b1, h1, t', et'⟩ := ih b0 (by omega)
        exact ⟨e', M', b1, h1, t' ++ t, by rw [et, et', List.append_assoc]⟩
theorem BE.pre {δ : Int → List Int} {q0 : Int} {n m : Nat} {L M : List Int} (b : BE δ q0 n L) (b' : BE δ q0 m M) (h : M.length ≤ m) : ∃ t, M = L ++ t := by
  rcases Nat.lt_trichotomy n m with lt | e | gt
  · obtain ⟨e, M', b1, _, t, et⟩ := b'.down lt
    rw [b.fn b1]
    exact ⟨t, et⟩
  · subst e
    rw [b.fn b']
    exact ⟨[], (List.append_nil _).symm⟩
  · obtain ⟨e, M', b1, h1, _⟩ := b.down gt
    have := b1.fn b'
    subst this
    have := (List.getElem?_eq_some_iff.mp h1).1
    omega
section
variable {m : Nat} {cs : List Nat} {rows r : List (List Int)} {ends en : List Int}
theorem reach_short (W : WfM cs r en) {q : Int} (q0 : 0 ≤ q) (q1 : q < (r.length : Int)) (h : ∃ x : List Nat, (∀ c ∈ x, c ∈ cs) ∧ run cs r 0 x = q) : ∃ x : List Nat, (∀ c ∈ x, c ∈ cs) ∧ run cs r 0 x = q ∧ x.length + 1 ≤ r.length := by
  obtain ⟨x, hx, e⟩ := h
  have W' : WfM cs r [q] := ⟨W.one, W.five, W.row, by simp, fun e he => by rw [List.mem_singleton.mp he]; exact ⟨q0, q1⟩⟩
  have h1 := W.one
  obtain ⟨y, h1, h2, h3⟩ := leads_short W' (q := 0) (Int.le_refl _) (by omega) ⟨x, hx, by rw [e]; exact List.mem_singleton.mpr rfl⟩
  exact ⟨y, h1, List.mem_singleton.mp h2, h3⟩
theorem map_num {ks : List Int} (nd : ks.Nodup) : ks.map (num ks) = (List.range ks.length).map Int.ofNat := by
  refine List.ext_getElem? fun i => ?_
  rw [List.getElem?_map, List.getElem?_map]
  by_cases hi : i < ks.length
  · rw [List.getElem?_eq_getElem hi, List.getElem?_range hi]
    show some (num ks ks[i]) = some (Int.ofNat i)
    rw [num_get nd (List.getElem?_eq_getElem hi)]
    rfl
  · rw [List.getElem?_eq_none (by omega), List.getElem?_eq_none (by rw [List.length_range]; omega)]
    rfl
theorem least_be2 (nd : cs.Nodup) (L : Least m cs rows ends r en) : ∃ n, BE (dlt cs r) 0 n ((List.range r.length).map Int.ofNat) ∧ r.length ≤ n := by
  obtain ⟨fd, κ, n, ks, O, k, _, b, f, ⟨n', be, hn⟩, rfl, rfl⟩ := L
  obtain ⟨t, ht⟩ := O.hd
  have hne : fd.length ≠ 0 := by rw [ht]; simp
  have n0 : num ks (κ 0) = 0 := num_get f.nd (f.hd hne)
  have mem : ∀ k, k ∈ ks ↔ ∃ s ∈ fd, κ s = k := fun k => by rw [f.mem, List.take_length]
  have hrl : (rows' cs rows fd κ ks).length = ks.length := by simp [rows']
  have be2 := be.map (δ' := dlt cs (rows' cs rows fd κ ks)) (φ := num ks) (fun k hk => ?_) (fun a ha b hb e => num_inj ha hb e)
  · rw [n0, map_num f.nd] at be2
    rw [hrl]
    exact ⟨n', be2, hn⟩
  · obtain ⟨s, hs, rfl⟩ := (mem k).mp hk
    obtain ⟨r1, r2⟩ := rep_mem (κ := κ) hs
    unfold dltK dlt
    rw [List.map_map]
    refine List.map_congr_left fun c hc => ?_
    show num ks (κ (nxt cs rows (rep fd κ (κ s)) c)) = nxt cs (rows' cs rows fd κ ks) (num ks (κ s)) c
    rw [← nxt_rows' nd O b f r1 hc, r2]
/-- the states in the order of the texts -/
theorem least_order (nd : cs.Nodup) (h1 : 1 ≤ cs.length) (W : WfM cs r en) (L : Least m cs rows ends r en) (al : Alike cs rows ends r en) (K : Nat) (hK : r.length ≤ K + 1) : addA [] ((txs cs K).map (run cs r 0)) = (List.range r.length).map Int.ofNat := by
  obtain ⟨n, be, hn⟩ := least_be2 nd L
  have hfst : (addP [] ((txs cs K).map (pr (nxt cs r) 0))).map (·.1) = addA [] ((txs cs K).map (run cs r 0)) := by
    rw [addP_fst, List.map_map]
    rfl
  have pre : ∃ t, (List.range r.length).map Int.ofNat = addA [] ((txs cs K).map (run cs r 0)) ++ t := by
    cases K with
    | zero => exact BE.pre (.start) be (by simpa using hn)
    | succ k =>
      obtain ⟨n', b'⟩ := bep_texts (δ := nxt cs r) (q0 := 0) h1 k
      have b2 := b'.be
      rw [hfst] at b2
      exact BE.pre b2 be (by simpa using hn)
  obtain ⟨t, ht⟩ := pre
  cases t with
  | nil => rw [List.append_nil] at ht; exact ht.symm
  | cons e t =>
    exfalso
    have hin : e ∈ (List.range r.length).map Int.ofNat := by rw [ht]; simp
    obtain ⟨i, hi, rfl⟩ := List.mem_map.mp hin
    have hi' : i < r.length := List.mem_range.mp hi
    obtain ⟨x, hx, ex, hl⟩ := reach_short W (q := Int.ofNat i) (by simp) (by simpa using hi') (al.2 _ (by simp) (by simpa using hi'))
    have hm : Int.ofNat i ∈ addA [] ((txs cs K).map (run cs r 0)) := addA_mem _ (List.mem_map.mpr ⟨x, mem_txs.mpr ⟨hx, by omega⟩, ex⟩)
    have ndr : ((List.range r.length).map Int.ofNat).Nodup := List.Pairwise.map (R := fun a b => a ≠ b) _ (fun a b hab e => hab (Int.ofNat.inj e)) List.nodup_range
    rw [ht, List.nodup_append] at ndr
    exact ndr.2.2 _ hm _ (by simp) rfl
theorem least_apart (nd : cs.Nodup) (L : Least m cs rows ends r en) (al : Alike cs rows ends r en) {p q : Int} (p0 : 0 ≤ p) (p1 : p < (r.length : Int)) (q0 : 0 ≤ q) (q1 : q < (r.length : Int)) (h : Eqv cs r en (m - 1) p q) : p = q := by
  obtain ⟨x, hx, ex⟩ := al.2 p p0 p1
  obtain ⟨y, hy, ey⟩ := al.2 q q0 q1
  have al1 := al.1
  obtain ⟨fd, κ, n, ks, O, k, hm, b, f, _, rfl, rfl⟩ := L
  obtain ⟨t, ht⟩ := O.hd
  have hne : fd.length ≠ 0 := by rw [ht]; simp
  have n0 : num ks (κ 0) = 0 := num_get f.nd (f.hd hne)
  have r1 := run_rows' nd O b f x 0 O.zero hx
  have r2 := run_rows' nd O b f y 0 O.zero hy
  rw [n0] at r1 r2
  rw [← ex, ← ey, r1.1, r2.1, (k _ r1.2 _ r2.2).mpr fun z hz hl => ?_]
  have hxz : ∀ c ∈ x ++ z, c ∈ cs := fun c hc => (List.mem_append.mp hc).elim (hx c) (hz c)
  have hyz : ∀ c ∈ y ++ z, c ∈ cs := fun c hc => (List.mem_append.mp hc).elim (hy c) (hz c)
  have e1 := al1 _ hxz
  have e2 := al1 _ hyz
  rw [run_app, run_app] at e1 e2
  rw [← e1, ← e2, ex, ey]
  exact h z hz (by omega)
theorem live_iff (al : Alike cs rows ends r en) {x : List Nat} (hx : ∀ c ∈ x, c ∈ cs) : Leads cs r en (run cs r 0 x) ↔ Leads cs rows ends (run cs rows 0 x) := by
  constructor
  · rintro ⟨z, hz, h⟩
    have hxz : ∀ c ∈ x ++ z, c ∈ cs := fun c hc => (List.mem_append.mp hc).elim (hx c) (hz c)
    refine ⟨z, hz, ?_⟩
    rw [← run_app] at h ⊢
    exact (al.1 _ hxz).mp h
  · rintro ⟨z, hz, h⟩
    have hxz : ∀ c ∈ x ++ z, c ∈ cs := fun c hc => (List.mem_append.mp hc).elim (hx c) (hz c)
    refine ⟨z, hz, ?_⟩
    rw [← run_app] at h ⊢
    exact (al.1 _ hxz).mpr h
/-! ### members -/
/-- the texts of so many signs that can still become members -/
def ltst (cs : List Nat) (r : List (List Int)) (ns : List Int) (n : Nat) : List (List Nat) := (lay cs n).filter fun x => decide (run cs r 0 x ∈ ns)
def isM (cs : List Nat) (r : List (List Int)) (en : List Int) (x : List Nat) : Bool := decide (run cs r 0 x ∈ en)
variable {ns : List Int}
theorem ltst_mem (W : WfM cs r en) (hns : ∀ q, 0 ≤ q → q < (r.length : Int) → (q ∈ ns ↔ Leads cs r en q)) (n : Nat) : (ltst cs r ns n).filter (isM cs r en) = (lay cs n).filter (isM cs r en) := by
  unfold ltst
  rw [List.filter_filter]
  refine List.filter_congr fun x hx => ?_
  have h1 := W.one
  obtain ⟨a, b⟩ := W.run_ok x 0 (Int.le_refl _) (by omega) (mem_lay.mp hx).1
  by_cases h : run cs r 0 x ∈ en
  · have : run cs r 0 x ∈ ns := (hns _ a b).mpr ⟨[], fun c h => (nomatch h), h⟩
    simp [isM, h, this]
  · simp [isM, h]
theorem ltst_succ (W : WfM cs r en) (hns : ∀ q, 0 ≤ q → q < (r.length : Int) → (q ∈ ns ↔ Leads cs r en q)) (n : Nat) : ltst cs r ns (n + 1) = (ltst cs r ns n).flatMap fun x => (kids cs x).filter fun y => decide (run cs r 0 y ∈ ns) := by
  have key : ∀ l : List (List Nat), (∀ x ∈ l, ∀ c ∈ x, c ∈ cs) → (l.flatMap (kids cs)).filter (fun y => decide (run cs r 0 y ∈ ns)) = (l.filter fun x => decide (run cs r 0 x ∈ ns)).flatMap fun x => (kids cs x).filter fun y => decide (run cs r 0 y ∈ ns) := by
    intro l
    induction l with
    | nil => intro _; rfl
    | cons x l ih =>
      intro hl
      have ih' := ih fun y hy => hl y (List.mem_cons_of_mem _ hy)
      have hx := hl x List.mem_cons_self
      rw [List.flatMap_cons, List.filter_append, ih']
      by_cases h : run cs r 0 x ∈ ns
      · rw [List.filter_cons_of_pos (by simpa using h), List.flatMap_cons]
      · rw [List.filter_cons_of_neg (by simpa using h)]
        have : (kids cs x).filter (fun y => decide (run cs r 0 y ∈ ns)) = [] := by
          rw [List.filter_eq_nil_iff]
          intro y hy hd
          obtain ⟨c, hc, rfl⟩ := List.mem_map.mp hy
          have h1 := W.one
          obtain ⟨a, b⟩ := W.run_ok x 0 (Int.le_refl _) (by omega) hx
          have hxc : ∀ d ∈ x ++ [c], d ∈ cs := fun d hd => by
            rcases List.mem_append.mp hd with z | z
            · exact hx d z
            · rw [List.mem_singleton.mp z]; exact hc
          obtain ⟨a', b'⟩ := W.run_ok (x ++ [c]) 0 (Int.le_refl _) (by omega) hxc
          obtain ⟨z, hz, hm⟩ := (hns _ a' b').mp (of_decide_eq_true hd)
          refine h ((hns _ a b).mpr ⟨c :: z, fun d hd => ?_, ?_⟩)
          · rcases List.mem_cons.mp hd with y | y
            · rw [y]; exact hc
            · exact hz d y
          · rw [← run_app] at hm ⊢
            rw [List.append_assoc] at hm
            exact hm
        rw [this, List.nil_append]
  exact key (lay cs n) fun x hx => (mem_lay.mp hx).1
theorem ltst_zero : ltst cs r ns 0 = if (0 : Int) ∈ ns then [[]] else [] := by
  unfold ltst lay
  by_cases h : (0 : Int) ∈ ns
  · rw [if_pos h, List.filter_cons_of_pos (by show decide (run cs r 0 [] ∈ ns) = true; exact decide_eq_true h)]
    rfl
  · rw [if_neg h, List.filter_cons_of_neg (by show ¬ decide ((0 : Int) ∈ ns) = true; simpa using h)]
    rfl
/-- what has come out -/
def outM (cs : List Nat) (r : List (List Int)) (en : List Int) : Nat → List (List Nat)
  | 0 => []
  | n + 1 => outM cs r en n ++ (lay cs n).filter (isM cs r en)
theorem outM_txs : ∀ n, outM cs r en (n + 1) = (txs cs n).filter (isM cs r en)
  | 0 => by show [] ++ _ = _; rw [List.nil_append]; rfl
  | n + 1 => by
    show outM cs r en (n + 1) ++ _ = (txs cs n ++ lay cs (n + 1)).filter _
    rw [outM_txs n, List.filter_append]
end
/-! ### the same machine with its states several times -/
structure Dup (cs : List Nat) (rows : List (List Int)) (ends : List Int) (rows2 : List (List Int)) (ends2 : List Int) (φ : Int → Int) : Prop where
  zero : φ 0 = 0
  rg : ∀ s, 0 ≤ s → s < (rows2.length : Int) → 0 ≤ φ s ∧ φ s < (rows.length : Int)
  nx : ∀ s, 0 ≤ s → s < (rows2.length : Int) → ∀ c ∈ cs, φ (nxt cs rows2 s c) = nxt cs rows (φ s) c
  mem : ∀ s, 0 ≤ s → s < (rows2.length : Int) → (s ∈ ends2 ↔ φ s ∈ ends)
section
variable {cs : List Nat} {rows rows2 : List (List Int)} {ends ends2 : List Int} {φ : Int → Int}
theorem Dup.run (D : Dup cs rows ends rows2 ends2 φ) (W2 : WfM cs rows2 ends2) : ∀ (x : List Nat) (s : Int), 0 ≤ s → s < (rows2.length : Int) → (∀ c ∈ x, c ∈ cs) → φ (SS.run cs rows2 s x) = SS.run cs rows (φ s) x
  | [], s, _, _, _ => rfl
  | c :: x, s, s0, s1, hx => by
    have hc := hx c List.mem_cons_self
    obtain ⟨_, _, _, _, n0, n1⟩ := W2.nxt_ok s0 s1 hc
    have ih := D.run W2 x _ n0 n1 fun d hd => hx d (List.mem_cons_of_mem _ hd)
    show φ (SS.run cs rows2 (SS.nxt cs rows2 s c) x) = SS.run cs rows (SS.nxt cs rows (φ s) c) x
    rw [ih, D.nx s s0 s1 c hc]
theorem Dup.acc (D : Dup cs rows ends rows2 ends2 φ) (W2 : WfM cs rows2 ends2) {x : List Nat} {s : Int} (s0 : 0 ≤ s) (s1 : s < (rows2.length : Int)) (hx : ∀ c ∈ x, c ∈ cs) : SS.run cs rows2 s x ∈ ends2 ↔ SS.run cs rows (φ s) x ∈ ends := by
  obtain ⟨r0, r1⟩ := W2.run_ok x s s0 s1 hx
  rw [D.mem _ r0 r1, D.run W2 x s s0 s1 hx]
theorem Dup.cover (D : Dup cs rows ends rows2 ends2 φ) (W2 : WfM cs rows2 ends2) {m : Nat} (h5 : rows.length ≤ m) {fd : List Int} (O : Order cs rows2 fd) : Cover m cs rows2 ends2 fd := by
  refine ⟨(List.range rows.length).filterMap fun (r : Nat) => fd.find? fun s => decide (φ s = (r : Int)), ?_, fun s hs => ?_, fun p hp => ?_⟩
  · refine Nat.le_trans (List.length_filterMap_le _ _) ?_
    rw [List.length_range]; exact h5
  · obtain ⟨r, _, e⟩ := List.mem_filterMap.mp hs
    exact List.mem_of_find?_eq_some e
  · obtain ⟨a0, a1⟩ := O.rg p hp
    obtain ⟨m0, m1⟩ := D.rg p a0 a1
    have hr : (((φ p).toNat : Nat) : Int) = φ p := Int.toNat_of_nonneg m0
    cases ef : fd.find? fun s => decide (φ s = (((φ p).toNat : Nat) : Int)) with
    | none => exact absurd (List.find?_eq_none.mp ef p hp) (by simp [hr])
    | some s =>
      have hs := List.mem_of_find?_eq_some ef
      have es : φ s = φ p := by
        have := List.find?_some ef
        rw [hr] at this
        exact of_decide_eq_true this
      refine ⟨s, List.mem_filterMap.mpr ⟨(φ p).toNat, List.mem_range.mpr (by omega), ef⟩, fun n x hx _ => ?_⟩
      obtain ⟨b0, b1⟩ := O.rg s hs
      rw [D.acc W2 a0 a1 hx, D.acc W2 b0 b1 hx, es]
end
end SS

set_option maxRecDepth 100000
set_option maxHeartbeats 4000000
namespace SS
open PySem L2 SR TL
theorem inV_non : ∀ es : List Int, inV .non (es.map .int) = false
  | [] => rfl
  | e :: es => by
    have := inV_non es
    unfold inV at this ⊢
    rw [List.map_cons, List.any_cons, this]
    rfl
section
variable {P : Program} {w : World} {K : PySem.W.Frag} {mg : Str → Option Value} {base : Heap}
/-- the state behind a text -/
def stV (cs : List Nat) (rows : List (List Int)) (x : List Nat) : V := if ∀ c ∈ x, c ∈ cs then .int (run cs rows 0 x) else .non
def spCnA (C : Addr) : Sp := fun vs H Q _ => ∃ (o : Addr) (v : V) (cs : List Nat) (rw' : List (List Int)) (en' ns : List Int), vs = [.ref o, v] ∧ Abc cs ∧ LangR C H o cs rw' en' ns ∧ WfM cs rw' en' ∧
  ((Odd H cs v ∧ ∀ H', Same H H' → Q (.bl false) H') ∨ ∃ x, v = .str (txt x) ∧ (∀ c ∈ x, c ∈ cs) ∧ x.length ≤ 1000 ∧ ∀ H', Same H H' → Q (.bl (decide (run cs rw' 0 x ∈ en'))) H')
theorem ok_cnA {f C : Addr} {fd : FuncData} (F : Fun K "__contains__" "Language.__contains__" sCon f fd) (T : LTx K mg C) (Wd : Cal P w K mg base "is_word" 1 ["value"] spWord) : FnOk P w K mg base CX0 2 f fd ["self", "value"] (spCnA C) := by
  refine F.ok scCon (fun vs H Q E h => ?_) (fun cdv A outer s H vs Q E hr h => ?_)
  · obtain ⟨o, v, cs, rw', en', ns, rfl, _⟩ := h
    rfl
  · obtain ⟨o, v, cs, rw', en', ns, rfl, ha, L, W', k⟩ := h
    have hu := hu_of hr
    refine ⟨_, pss_cons (ps_if (pt_not (pt_val (pe_cal Wd hr (pa_cons (pv 1) pa_nil)))) (pss_one (ps_ret pe_bl)) pss_nil)
      (pss_cons (ps_set (i := 2) scCon.nd rfl (.inl rfl) pe_int)
      (pss_cons (ps_for PassesOwn.never rfl (pi_str (pv 1)) (pg_name (i := 3) scCon.nd rfl (.inl rfl))
        (pss_one (ps_set (i := 2) scCon.nd rfl (.inl rfl) (pe_ifExp (pt_cmp (pc_isN (pv 2))) pe_non (pe_dget1 hu (pe_ix ix_tup (pe_fld (pv 0) rfl) (pv 2) (fun _ _ => rfl)) (pv 3) ⟨rfl, rfl, rfl, rfl⟩)))))
      (pss_one (ps_ret (pe_cmpR op_in_seq (pv 2) (pe_fld (pv 0) rfl) (by rfl)))))), ?_⟩
    obtain ⟨dx, pt, pm, pl, fs, h1, h2, h3, h4, h5, h6, ⟨⟨qs, t1, t2⟩, t3⟩, h8, h9⟩ := L.ex
    have k' : (NonStr H v ∧ ∀ H', Same H H' → Q (.bl false) H') ∨ ∃ x, v = .str (txt x) ∧ x.length ≤ 1000 ∧ (∀ H', Same H H' → Q (.bl (inV (stV cs rw' x) (en'.map .int))) H') ∧ (¬ Lets x → ∀ H', Same H H' → Q (.bl false) H') := by
      rcases k with ⟨hn | ⟨x, c, rfl, hc, hn, hl⟩, k⟩ | ⟨x, rfl, hx, hl, k⟩
      · exact .inl ⟨hn, k⟩
      · refine .inr ⟨x, rfl, by omega, fun H' e => ?_, fun _ => k⟩
        have : stV cs rw' x = .non := if_neg fun h => hn (h c hc)
        rw [this, inV_non]
        exact k H' e
      · refine .inr ⟨x, rfl, hl, fun H' e => ?_, fun h => absurd (fun c hc => ha.abc c (hx c hc)) h⟩
        have : stV cs rw' x = .int (run cs rw' 0 x) := if_pos hx
        rw [this, inV_ints]
        exact k H' e
    clear k
    rcases k' with ⟨hn, k⟩ | ⟨x, rfl, hl, k1, k2⟩
    · exact ⟨_, rfl, _, rfl, .inl ⟨hn, _, rfl, iteT (k H (Same.refl _))⟩⟩
    · refine ⟨_, rfl, _, rfl, .inr ⟨x, rfl, hl, fun b H1 hb e1 => ⟨_, rfl, ?_⟩⟩⟩
      cases b with
      | false => exact iteT (k2 (fun h => Bool.noConfusion (hb.mpr h)) H1 e1)
      | true =>
        refine iteF ⟨_, rfl, _, rfl, for_it walk_str (fun i σ H' => H' = H1 ∧ ∃ a3, σ = [some (.ref o), some (.str (txt x)), some (stV cs rw' (x.take i)), a3]) ⟨rfl, _, rfl⟩ (fun _ _ _ _ _ => trivial) ?_ ?_⟩
        · rintro i v σ H2 H2' hi ⟨rfl, a3, rfl⟩ ⟨rfl, c, hc, rfl⟩
          have hc' : x[i]? = some c := by simpa [txt] using hc
          have et : x.take (i + 1) = x.take i ++ [c] := by rw [List.take_add_one, hc']; rfl
          have hs : stV cs rw' (x.take (i + 1)) = if (∀ d ∈ x.take i, d ∈ cs) ∧ c ∈ cs then .int (nxt cs rw' (run cs rw' 0 (x.take i)) c) else .non := by
            unfold stV
            rw [et]
            by_cases g : (∀ d ∈ x.take i, d ∈ cs) ∧ c ∈ cs
            · rw [if_pos g, if_pos (fun d hd => by
                rcases List.mem_append.mp hd with z | z
                · exact g.1 d z
                · rw [List.mem_singleton.mp z]; exact g.2)]
              unfold run
              rw [List.foldl_append]
              rfl
            · rw [if_neg g, if_neg (fun h => g ⟨fun d hd => h d (List.mem_append_left _ hd), h c (List.mem_append_right _ (by simp))⟩)]
          refine ⟨_, rfl, _, rfl, ?_⟩
          by_cases hall : ∀ d ∈ x.take i, d ∈ cs
          · have ev : stV cs rw' (x.take i) = .int (run cs rw' 0 (x.take i)) := if_pos hall
            rw [ev]
            refine ite2 (fun z => absurd z (by simp)) (fun _ => ?_)
            obtain ⟨q0, q1⟩ := W'.run_ok (x.take i) 0 (Int.le_refl _) (by have := W'.one; omega) hall
            have hql : (run cs rw' 0 (x.take i)).toNat < rw'.length := by omega
            obtain ⟨q, hq, hrow⟩ := paired_get _ t2 (List.getElem?_eq_getElem hql)
            refine ⟨_, rfl, o, C, dx, _, _, rfl, e1 _ _ h1, T.cl, T.nG, h3, _, rfl, pt, _, _, .ref q, rfl, rfl, SqT.of (e1 _ _ t1), atI_of q0 (by rw [List.getElem?_map, hq]; rfl), q, rfl, .inl ⟨_, .inl (e1 _ _ hrow)⟩, _, rfl, _, DGet.k (k := Sum.inr (lt c)) (e1 _ _ hrow), rfl, some (ltV c), ?_⟩
            have goal : (valV (rowK cs rw'[(run cs rw' 0 (x.take i)).toNat]) (Sum.inr (lt c))).getD .non = stV cs rw' (x.take (i + 1)) := by
              rw [hs]
              by_cases hcm : c ∈ cs
              · obtain ⟨row, e1', e2', e3', _⟩ := W'.nxt_ok q0 q1 hcm
                rw [List.getElem?_eq_getElem hql] at e1'
                cases e1'
                rw [val_row e2' hcm, if_pos ⟨hall, hcm⟩, e3']
                rfl
              · rw [val_row_none hcm, if_neg (fun h => hcm h.2)]
                rfl
            rw [← goal]
            rfl
          · have ev : stV cs rw' (x.take i) = .non := if_neg hall
            rw [ev]
            refine ite2 (fun _ => ?_) (fun z => absurd rfl z)
            refine ⟨rfl, some (ltV c), ?_⟩
            rw [hs, if_neg (fun h => hall h.1)]
            rfl
        · rintro σ H2 ⟨rfl, a3, rfl⟩
          have hz : (txt x).cps.size = x.length := by simp [txt]
          rw [hz, List.take_length]
          refine ⟨_, rfl, _, rfl, o, C, dx, _, _, rfl, e1 _ _ h1, T.cl, T.nM, h4, pm, _, rfl, .inr (SqT.of (e1 _ _ t3)), ?_, flat_ints _, k1 _ e1⟩
          unfold stV
          by_cases hall : ∀ c ∈ x, c ∈ cs
          · rw [if_pos hall]; rfl
          · rw [if_neg hall]; rfl
end
end SS

set_option maxRecDepth 100000
set_option maxHeartbeats 4000000
namespace SS
open PySem L2 SR TL
def optT : Option (List Nat) → V
  | none => .non
  | some x => txtV x
theorem dP_run (cs : List Nat) (r1 r2 : List (List Int)) : ∀ (x : List Nat) (s : Pr), x.foldl (dP cs r1 r2) s = (run cs r1 s.1 x, run cs r2 s.2 x)
  | [], s => rfl
  | c :: x, s => dP_run cs r1 r2 x (dP cs r1 r2 s c)
theorem find_at {α : Type} {p : α → Bool} {l : List α} {i : Nat} {a : α} (h : ∀ e ∈ l.take i, p e = false) (hi : l[i]? = some a) (ha : p a = true) : l.find? p = some a := by
  obtain ⟨h1, h2⟩ := List.getElem?_eq_some_iff.mp hi
  have e : l = l.take i ++ a :: l.drop (i + 1) := by rw [← h2, ← List.drop_eq_getElem_cons h1, List.take_append_drop]
  rw [e, List.find?_append]
  have : (l.take i).find? p = none := List.find?_eq_none.mpr fun x hx => by rw [h x hx]; simp
  rw [this]
  simp [List.find?_cons, ha]
/-- the pairs in the order of the texts: the first that is let -/
theorem pair_find {cs : List Nat} {r1 r2 : List (List Int)} {L : List Pr} {us : List (List Nat)} {K : Nat} (h1 : 1 ≤ cs.length) (hl : us.length = L.length) (b : BEP cs (dP cs r1 r2) (0, 0) L.length (L.zip us)) (hK : L.length ≤ K + 1) (p : Pr → Bool) :
    ((L.zip us).find? fun e => p e.1) = ((txs cs K).find? fun x => p (run cs r1 0 x, run cs r2 0 x)).map fun x => ((run cs r1 0 x, run cs r2 0 x), x) := by
  have hz : (L.zip us).length = L.length := by rw [List.length_zip]; omega
  have e := bep_all h1 b (by omega) K (by omega) b.nd
  rw [← e, addP_find, List.nil_append, List.find?_map]
  have : (fun e : Pr × List Nat => p e.1) ∘ pr (dP cs r1 r2) (0, 0) = fun x => p (run cs r1 0 x, run cs r2 0 x) := funext fun x => by
    show p (x.foldl (dP cs r1 r2) (0, 0)) = _
    rw [dP_run]
  rw [this]
  congr 1
  funext x
  show (x.foldl (dP cs r1 r2) (0, 0), x) = _
  rw [dP_run]
section
variable {P : Program} {w : World} {K : PySem.W.Frag} {mg : Str → Option Value} {base : Heap}
/-! ### first_outside: the least text -/
abbrev sFo : Stmt := top 31
abbrev nFo : List Str := ["one", "other", "pairs", "texts", "rows", "text", "p", "q"]
theorem scFo : FnScope nFo psPrd (defScope sFo) := ⟨rfl, rfl, rfl, by decide +kernel, rfl, by decide +kernel, by decide +kernel⟩
def outP (e1 e2 : List Int) (s : Pr) : Bool := decide (s.1 ∈ e1) && !decide (s.2 ∈ e2)
def spFo (C : Addr) : Sp := fun vs H Q _ => ∃ (x y : Addr) (cs : List Nat) (r1 r2 : List (List Int)) (e1 e2 n1 n2 : List Int) (D : List Pr) (k : Nat), vs = [.ref x, .ref y] ∧ Abc cs ∧ LangR C H x cs r1 e1 n1 ∧ LangR C H y cs r2 e2 n2 ∧ WfM cs r1 e1 ∧ WfM cs r2 e2 ∧ Clz cs r1 r2 D ∧ D.length ≤ k + 1 ∧
  ∀ H', Same H H' → Q (optT ((txs cs k).find? fun x => outP e1 e2 (run cs r1 0 x, run cs r2 0 x))) H'
theorem ok_fo {f C : Addr} {fd : FuncData} (F : Fun K "first_outside" "first_outside" sFo f fd) (Bz : mg "zip" = none) (T : LTx K mg C) (Pd : Cal P w K mg base "product" 1 psPrd (spPrd C)) : FnOk P w K mg base CX0 2 f fd psPrd (spFo C) := by
  refine F.ok scFo (fun vs H Q E h => ?_) (fun cdv A outer s H vs Q E hr h => ?_)
  · obtain ⟨x, y, cs, r1, r2, e1, e2, n1, n2, D, kk, rfl, _⟩ := h
    rfl
  · obtain ⟨x, y, cs, r1, r2, en1, en2, n1, n2, D, kk, rfl, ha, L1, L2', W1, W2, Cz, hDk, k⟩ := h
    obtain ⟨dx, pt, pm, pl, fs, a1, a2, a3, a4, a5, a6, ⟨⟨qs1, t1, t2⟩, t3⟩, a8, a9⟩ := L1.ex
    obtain ⟨dy, pt', pm', pl', fs', b1, b2, b3, b4, b5, b6, ⟨⟨qs2, u1, u2⟩, u3⟩, b8, b9⟩ := L2'.ex
    refine ⟨_, pss_cons (ps_asg (pe_cal Pd hr (pa_cons (pv 0) (pa_cons (pv 1) pa_nil))) (pg_tup rfl (pgs_cons (pg_name (i := 2) scFo.nd rfl (.inl rfl)) (pgs_cons (pg_name (i := 3) scFo.nd rfl (.inl rfl)) (pgs_cons (pg_name (i := 4) scFo.nd rfl (.inl rfl)) pgs_nil)))))
      (pss_cons (ps_for PassesOwn.never rfl (SZ.pi_zipS (by rfl) Bz (pa_cons (pv 3) (pa_cons (pv 2) pa_nil))) (pg_tup rfl (pgs_cons (pg_name (i := 5) scFo.nd rfl (.inl rfl)) (pgs_cons (pg_tup rfl (pgs_cons (pg_name (i := 6) scFo.nd rfl (.inl rfl)) (pgs_cons (pg_name (i := 7) scFo.nd rfl (.inl rfl)) pgs_nil))) pgs_nil)))
        (pss_one (ps_if (PW.pt (pw_and (pt_cmpR op_in_seq (pv 6) (pe_fld (pv 0) rfl) (by rfl)) (pw_and1 (pt_cmpR op_notIn_seq (pv 7) (pe_fld (pv 1) rfl) (by rfl))))) (pss_one (ps_ret (pv 5))) pss_nil)))
      (pss_one (ps_ret pe_non))), ?_⟩
    refine ⟨_, rfl, _, rfl, x, y, cs, r1, r2, en1, en2, n1, n2, D, rfl, ha, L1, L2', W1, W2, Cz, fun L t pp tx pw ts qs H1 J e1 ht hpp hpts hpw hrows ⟨us, hul, hus, be⟩ => ?_⟩
    refine ⟨t, _, rfl, SqT.of ht, rfl, _, _, rfl, _, _, rfl, _, _, rfl, rfl, ?_⟩
    have hL := J.len Cz
    have htl := Paired.length hpts
    have hLk : L.length ≤ kk + 1 := Nat.le_trans (len_subG L D J.nd J.sub) hDk
    have hfind := pair_find (K := kk) ha.one hul be hLk (outP en1 en2)
    have hzl : (L.zip us).length = L.length := by rw [List.length_zip]; omega
    have hzi : ∀ (i : Nat) (s : Pr) (z : List Nat), L[i]? = some s → us[i]? = some z → (L.zip us)[i]? = some (s, z) := fun i s z h1 h2 => by
      rw [zip_at hul h1, List.getD_eq_getElem?_getD, h2]
      rfl
    have ztake : ∀ i, ∀ e ∈ (L.zip us).take i, e.1 ∈ L.take i := fun i e he => by
      obtain ⟨j, hj⟩ := List.mem_iff_getElem?.mp he
      have hji : j < i := by
        have := (List.getElem?_eq_some_iff.mp hj).1
        rw [List.length_take] at this
        omega
      rw [List.getElem?_take_of_lt hji] at hj
      have hjl : j < L.length := by
        have := (List.getElem?_eq_some_iff.mp hj).1
        omega
      rw [zip_at hul (List.getElem?_eq_getElem hjl)] at hj
      cases hj
      exact List.mem_of_getElem? (i := j) (by rw [List.getElem?_take_of_lt hji, List.getElem?_eq_getElem hjl])
    refine ⟨_, rfl, _, rfl, tx, pp, _, _, rfl, SqL.of hus, SqL.of hpp, for_it (SZ.walkS (K := K) (a := tx) (b := pp) (xs := us.map txtV) (ys := ts.map .ref) (n := L.length) (by rw [List.length_map]; exact hul) (by rw [List.length_map]; exact htl)) (fun i σ H' => Same H1 H' ∧ (∀ s ∈ L.take i, outP en1 en2 s = false) ∧ ∃ a5 a6 a7, σ = [some (.ref x), some (.ref y), some (.ref pp), some (.ref tx), some (.ref pw), a5, a6, a7]) ⟨Same.refl _, fun s hs => by simp at hs, none, none, none, rfl⟩ (fun i σ H' _ p => ⟨SqL.of (p.1 _ _ hus), SqL.of (p.1 _ _ hpp)⟩) ?_ ?_⟩
    · rintro i v σ H2 H2' hi ⟨e2, hno, a5, a6, a7, rfl⟩ ⟨T2, u, as, rfl, hT2, rfl, hu, has⟩
      dsimp only at hu has
      rw [List.getElem?_map] at hu has
      obtain ⟨z, hz, rfl⟩ := Option.map_eq_some_iff.mp hu
      obtain ⟨p, hp, rfl⟩ := Option.map_eq_some_iff.mp has
      obtain ⟨p', hp', hpt⟩ := paired_get i hpts (List.getElem?_eq_getElem hi)
      rw [hp] at hp'
      cases hp'
      have hLi : L[i]? = some L[i] := List.getElem?_eq_getElem hi
      generalize L[i] = s at hpt hLi
      have e3 : Same H2 (upd H2 T2 (.tup [txtV z, .ref p])) := same_new hT2
      have e12 := e2.trans e3
      have em := e1.trans e12
      have et : L.take (i + 1) = L.take i ++ [s] := by rw [List.take_add_one, hLi]; rfl
      have more : outP en1 en2 s = false → ∀ s' ∈ L.take (i + 1), outP en1 en2 s' = false := fun hs s' hs' => by
        rw [et] at hs'
        rcases List.mem_append.mp hs' with q | q
        · exact hno s' q
        · rw [List.mem_singleton.mp q]
          exact hs
      refine ⟨T2, _, rfl, SqT.of upd_same, rfl, _, _, rfl, _, _, rfl, p, _, rfl, SqT.of (e12 _ _ hpt), rfl, _, _, rfl, _, _, rfl, rfl, rfl, ?_⟩
      refine ⟨_, rfl, _, rfl, x, C, dx, _, _, rfl, em _ _ a1, T.cl, T.nM, a4, pm, _, rfl, .inr (SqT.of (em _ _ t3)), rfl, flat_ints _, _, rfl, ?_⟩
      rw [show inV (V.int s.1) (en1.map .int) = decide (s.1 ∈ en1) from inV_ints _ _]
      by_cases h1 : s.1 ∈ en1
      · rw [decide_eq_true h1]
        refine ⟨_, rfl, _, rfl, y, C, dy, _, _, rfl, em _ _ b1, T.cl, T.nM, b4, pm', _, rfl, .inr (SqT.of (em _ _ u3)), rfl, flat_ints _, _, rfl, ?_⟩
        rw [show inV (V.int s.2) (en2.map .int) = decide (s.2 ∈ en2) from inV_ints _ _]
        by_cases h2 : s.2 ∈ en2
        · rw [decide_eq_true h2]
          exact iteF ⟨e12, more (by simp [outP, h2]), _, _, _, rfl⟩
        · rw [decide_eq_false h2]
          refine iteT ⟨_, rfl, ?_⟩
          have hf : ((L.zip us).find? fun e => outP en1 en2 e.1) = some (s, z) := find_at (i := i) (fun e he => hno _ (ztake i e he)) (hzi i s z hLi hz) (by simp [outP, h1, h2])
          rw [hf] at hfind
          have := k _ em
          cases eg : (txs cs kk).find? fun x => outP en1 en2 (run cs r1 0 x, run cs r2 0 x) with
          | none => rw [eg] at hfind; cases hfind
          | some y' =>
            rw [eg] at hfind this
            have : z = y' := congrArg Prod.snd (Option.some.inj hfind)
            subst this
            assumption
      · rw [decide_eq_false h1]
        exact iteF ⟨e12, more (by simp [outP, h1]), _, _, _, rfl⟩
    · rintro σ H2 ⟨e2, hno, a5, a6, a7, rfl⟩
      have hf : ((L.zip us).find? fun e => outP en1 en2 e.1) = none := List.find?_eq_none.mpr fun e he => by
        have : e.1 ∈ L := by
          have := ztake (L.zip us).length e (by rw [List.take_length]; exact he)
          exact List.mem_of_mem_take this
        rw [hno e.1 (by rw [List.take_length]; exact this)]
        simp
      rw [hf] at hfind
      have := k _ (e1.trans e2)
      cases eg : (txs cs kk).find? fun x => outP en1 en2 (run cs r1 0 x, run cs r2 0 x) with
      | none => rw [eg] at this; exact this
      | some y' => rw [eg] at hfind; cases hfind
/-! ### the class as it stands -/
structure Lg (P : Program) (w : World) (K : PySem.W.Frag) (mg : Str → Option Value) (base : Heap) (C : Addr) : Prop where
  tx : LTx K mg C
  ty : LTy K C
  odd : OddC K C
  mak : ∃ f fd, Mk K C f ∧ FnOk P w K mg base CX0 4 f fd psI (spInit C) ∧ Binds K fd psI []
  con : ∃ f fd, FnOk P w K mg base CX0 2 f fd ["self", "value"] (spCnA C) ∧ PySem.W.findIn K (.ref C) "__contains__" = some (some (.ref f)) ∧ PySem.W.isFn K (.ref f) = true ∧ Binds K fd ["self", "value"] []
  sgn : ∃ p g fd, PropOf K C "signs" p g ∧ FnOk P w K mg base CX0 1 g fd ["self"] (spSgn C) ∧ Binds K fd ["self"] []
  emp : ∃ p g fd, PropOf K C "is_empty" p g ∧ FnOk P w K mg base CX0 1 g fd ["self"] (spEmp C) ∧ Binds K fd ["self"] []
  mov : ∃ f fd, Meth K C "move" f ∧ FnOk P w K mg base CX0 3 f fd psMv (spMov C) ∧ Binds K fd psMv []
  mem : ∃ f fd, Meth K C "is_member" f ∧ FnOk P w K mg base CX0 3 f fd psS (spMem C) ∧ Binds K fd psS []
  liv : ∃ f fd, Meth K C "is_live" f ∧ FnOk P w K mg base CX0 3 f fd psS (spLiv C) ∧ Binds K fd psS []
  len : ∃ f fd, FnOk P w K mg base CX0 1 f fd ["self"] (spLen C) ∧ PySem.W.findIn K (.ref C) "__len__" = some (some (.ref f)) ∧ PySem.W.isFn K (.ref f) = true ∧ Binds K fd ["self"] []
  eql : ∃ f fd, FnOk P w K mg base CX0 2 f fd ["self", "other"] (spEqA C) ∧ PySem.W.findIn K (.ref C) "__eq__" = some (some (.ref f)) ∧ PySem.W.isFn K (.ref f) = true ∧ Binds K fd ["self", "other"] []
  rep : ∃ f fd, FnG P w K mg base 1 f fd ["self"] (spRep C) ∧ PySem.W.findIn K (.ref C) "__repr__" = some (some (.ref f)) ∧ PySem.W.isFn K (.ref f) = true ∧ Binds K fd ["self"] []
end
end SS

set_option maxRecDepth 100000
set_option maxHeartbeats 4000000
/-! a generator's body: if, for -/
namespace SR
open PySem PySem.Spec PyProof.Rows L2 GenW

section
variable {X : Cx} {st : Stmt} {rest : List Stmt}
def tGIf (tc : TT) (tb te : TGn) : TGn := fun D ys σ H => tc σ H fun b H1 => if b = true then tb D ys σ H1 else te D ys σ H1
theorem gs_if {test : Expr} {body orelse : List Stmt} {pos : Pos} {tc : TT} {tb te : TGn} (hc : PT X test tc) (hb : GSs X body tb) (he : GSs X orelse te) : GS X (.If test body orelse pos) (tGIf tc tb te) := by
  refine ⟨fun A S ip R n ys s₀ c fs K J gd lv s σ H D g hn k hI ht => ?_⟩
  obtain ⟨acc, cc, r, I⟩ := hI
  rw [exec_If]
  refine seg_bind_wrap (wpAny_standAt ?_)
  refine seg_bind_wrap ?_
  rw [g.over]
  refine wpAny_mono (hc.run _ s σ H _ I ht) (fun b s' hb' => ?_) fun x s' hx => k.exc n s₀ x s' hx
  obtain ⟨H2, I2, q2⟩ := hb'
  cases b with
  | true =>
    rw [if_pos rfl] at q2 ⊢
    exact hb.run A S ip R n ys s₀ c fs K J gd lv s' σ H2 D g hn k ⟨acc, cc, r, I2⟩ q2
  | false =>
    rw [if_neg Bool.false_ne_true] at q2 ⊢
    exact he.run A S ip R n ys s₀ c fs K J gd lv s' σ H2 D g hn k ⟨acc, cc, r, I2⟩ q2

/-! ### for -/
def tGFor (wi : TI) (g : TG) (tb : TGn) : TGn := fun D ys σ H => wi σ H fun J H1 => ∃ W : Nat → Nat → List V → L2.St → Hp → Prop, (∃ m, W 0 m ys σ H1) ∧ ∀ i m ys σ H, W i m ys σ H →
  (J.stop i H ∧ D.nx ys σ H) ∨ (J.go i H ∧ ∃ N : List V → L2.St → Hp → Prop, (∀ ys' σ' H', N ys' σ' H' → ∃ m', m' < m ∧ W (i + 1) m' ys' σ' H') ∧ ∀ x H', J.yld i H x H' → g x σ H' fun σ2 H2 => tb { D with nx := N, ct := N, bk := D.nx } ys σ2 H2)
theorem seg_For {M : Model} {A : Around} {R : GenEnd} {Y : Protocol} {n : Nat} {s₀ : Shared} {c : Code} {fs : List Frame} {s : Shared} {env : Env} {K : Flow → Sem PySem.Fin} {J : Value → Sem PySem.Fin} {gd : Bool → Bool} {lv : List Value → List Value} {tg iter : Expr} {body orelse : List Stmt} {pos : Pos}
    (h : wpAny M (A.over c fs) (eval iter env) (fun x s1 => wpAny M (A.over c fs) (pyIter x) (fun it s2 => ∀ p, Seg M A R Y n s₀ (.forLoop tg it body orelse env) (M.den (.forLoop tg it body orelse env))
      (.ret (fun r => ((match r with | .ok f => (.pure f : Sem Flow) | .error e => .raise e).onRaise (cameBack env)).wrap K J gd lv) none (gd false) (lv []) c p [] :: fs) s2) (fun x s' => Seg M A R Y n s₀ c (J x) fs s') s1) (fun x s' => Seg M A R Y n s₀ c (J x) fs s') s)
    (hs : ∀ x, foldedSetIterable iter env x = pure x := by intro _; rfl) :
    Seg M A R Y n s₀ c ((exec (.For tg iter body orelse pos) env).wrap K J gd lv) fs s := by
  rw [exec_For]
  refine seg_bind_wrap (wpAny_standAt ?_)
  refine seg_bind_wrap (wpAny_mono h (fun x s1 h1 => ?_) fun x s' hx => hx)
  refine seg_bind_wrap (wpAny_of_eq (hs x) ?_)
  refine seg_bind_wrap (wpAny_standAt ?_)
  refine seg_bind_wrap (wpAny_holding (wpAny_mono h1 (fun it s2 h2 => ?_) fun x s' hx => hx))
  exact seg_call h2
theorem gs_for {tg iter : Expr} {body : List Stmt} {wi : TI} {g : TG} {tb : TGn} {pos : Pos} (hp : PassesOwn (model X.prog X.w) X.A X.env X.xe) (hc : X.calm = true) (hi : PI X tg iter wi) (hg : PG X tg g) (hb : GSs X body tb)
    (hs : ∀ x, foldedSetIterable iter X.env x = pure x := by intro _; rfl) : GS X (.For tg iter body [] pos) (tGFor wi g tb) := by
  refine ⟨fun A S ip R n ys s₀ c fs K J gd lv s σ H D gc hn k hI ht => ?_⟩
  obtain ⟨acc, cc, r, I⟩ := hI
  refine seg_For ?_ hs
  rw [gc.over]
  refine wpAny_mono (hi.run _ s σ H _ I ht) (fun v s1 h1 => wpAny_mono h1 (fun itv s2 h2 => ?_) fun x s' hx => k.exc n s₀ x s' hx) fun x s' hx => k.exc n s₀ x s' hx
  obtain ⟨it, fp, tn, Jt, H2, e, I2, T, st2, f2, W, ⟨m0, w0⟩, turn⟩ := h2
  subst e
  intro p
  have fS : ∀ b ∈ fp, b ≠ S := fun b hb z => (f2 b hb).2.2.2.2.2 (S, lstObj acc cc) (List.mem_append_right _ List.mem_cons_self) z.symm
  have stat : ∀ {H' : Hp} {acc' : Array Value} {c' : Nat}, (∀ b ∈ fp, H' b = none) → ∀ b ∈ fp, FpOk X ((S, lstObj acc' c') :: ip) H' b := fun {H' acc' c'} hn b hb => by
    obtain ⟨_, q1, q2, q3, q4, q5⟩ := f2 b hb
    refine ⟨hn b hb, q1, q2, q3, q4, fun p hp => ?_⟩
    rcases List.mem_append.mp hp with z | z
    · exact q5 p (List.mem_append_left _ z)
    · rcases List.mem_cons.mp z with z | z
      · rw [z]; exact fun y => fS b hb y.symm
      · exact q5 p (List.mem_append_right _ (List.mem_cons_of_mem _ z))
  have gl : ∀ (c' : Code) (kk : Result → Sem PySem.Fin), c'.weight = 0 → c'.cUnits = 0 → GC X S ip A c' (.ret kk none (gd false) (lv []) c p [] :: fs) id := fun c' kk h1 h2 => gc_loop (k := kk) (c' := c') (l := lv []) (kp := []) (p := p) gc h1 h2
  have gi : ∀ {ys : List V} {σ' : L2.St} {H' : Hp} {s' : Shared}, GI X S ip ys σ' H' s' → GI X S ip ys σ' H' s' := fun h => h
  have loop : ∀ (m i n : Nat) (ys : List V) (s₀ s : Shared) (σ : L2.St) (H : Hp), n + ys.length = sizeLine → W i m ys σ H → GI X S ip ys σ H s → tn i s.heap → (∀ b ∈ fp, H b = none) →
      Seg (model X.prog X.w) A R (GY X S) n s₀ (.forLoop tg (.ref it) body [] X.env) ((model X.prog X.w).den (.forLoop tg (.ref it) body [] X.env))
        (.ret (fun r => ((match r with | .ok f => (.pure f : Sem Flow) | .error e => .raise e).onRaise (cameBack X.env)).wrap K J gd lv) none (gd false) (lv []) c p [] :: fs) s := by
    intro m
    induction m using Nat.strongRecOn with
    | ind m ih =>
      intro i n ys s₀ s σ H hn w hI st3 fr3
      have ee : ∀ (n : Nat) (s₀ : Shared) (x : Value) (s' : Shared), X.xe x s' → Seg (model X.prog X.w) A R (GY X S) n s₀ (.forLoop tg (.ref it) body [] X.env)
          ((do noteFrame x X.env; theTreesLotGoes x : Sem Unit).bind (fun _ => .raise x))
          (.ret (fun r => ((match r with | .ok f => (.pure f : Sem Flow) | .error e => .raise e).onRaise (cameBack X.env)).wrap K J gd lv) none (gd false) (lv []) c p [] :: fs) s' := fun n s₀ x s' hx => by
        rw [Sem.bind_eq_wrap]
        refine seg_wrap ?_
        rw [(gl _ _ rfl rfl).over]
        refine wpAny_bind (wpAny_mono (hp x s' hx) (fun _ s'' hcb => wpAny_theTreesLotGoes ?_) fun y s'' hcb => ?_)
        · exact seg_leaf (.error x) (seg_cameBack gc k hcb)
        · exact seg_leaf (.error y) (seg_cameBack gc k hcb)
      show Seg _ A R _ n s₀ _ ((forTurn tg (.ref it) body [] X.env).onRaise (fun x => do noteFrame x X.env; theTreesLotGoes x)) _ s
      rw [Sem.onRaise_eq_wrap]
      unfold forTurn
      refine seg_bind_wrap (wpAny_standAt ?_)
      obtain ⟨acc3, c3, r3, I3⟩ := hI
      rcases turn i m ys σ H w with ⟨stop, qn⟩ | ⟨go, N, hN, step⟩
      · refine seg_bind_wrap (wpAny_onRaise ?_)
        rw [(gl _ _ rfl rfl).over]
        refine wpAny_mono (T.done X rfl rfl rfl hc i _ s σ H X.xe I3 (stat fr3) st3 stop) (fun rr s4 ⟨hr, I4⟩ => ?_) fun x s' hx => wpAny_standAt (ee n s₀ x s' hx)
        subst hr
        show Seg _ A R _ n s₀ _ (.pure (.again (.block [] X.env))) _ s4
        refine seg_again rfl ?_
        show Seg _ A R _ n s₀ _ ((execs [] X.env >>= fun f => pure (.done f))) _ s4
        refine seg_bind (wpAny_execs_nil ?_)
        exact seg_leaf (.ok .next) (k.ok n ys s₀ s4 .next hn ⟨σ, H, ⟨acc3, c3, r3, I4⟩, qn⟩)
      · refine seg_bind_wrap (wpAny_onRaise ?_)
        rw [(gl _ _ rfl rfl).over]
        refine wpAny_mono (T.item X rfl rfl rfl hc i _ s σ H X.xe I3 (stat fr3) st3 go) (fun rr s4 ⟨u, hr, h4⟩ => ?_) fun x s' hx => wpAny_standAt (ee n s₀ x s' hx)
        subst hr
        refine seg_bind_wrap ?_
        rw [(gl _ _ rfl rfl).over]
        refine wpAny_mono h4 (fun _ s5 ⟨x, H5, I5, r5, y5, st5, fr5⟩ => ?_) fun x s' hx => ee n s₀ x s' hx
        have I5' := I5.pinned (stat fr5) (T.obj _ _ st5)
        refine seg_bind_wrap ?_
        rw [(gl _ _ rfl rfl).over]
        refine wpAny_mono (hg.run _ s5 σ H5 x u _ I5' r5 (step x H5 y5)) (fun _ s6 ⟨σ6, H6, I6, q6⟩ => ?_) fun x s' hx => ee n s₀ x s' hx
        rw [Sem.bind_eq_wrap', Sem.wrap_wrap]
        refine hb.run A S (ip ++ pinsAt fp s5.heap) R n ys s₀ _ _ _ _ _ _ s6 σ6 H6 { D with nx := N, ct := N, bk := D.nx } ?_ hn ⟨fun n' ys' s₀' s7 f hn' hs7 => ?_, fun n' s₀' x s7 hx => ee n' s₀' x s7 hx⟩ ⟨acc3, c3, r3, I6⟩ q6
        · have gl' := gl (.forLoop tg (.ref it) body [] X.env) (fun r => ((match r with | .ok f => (.pure f : Sem Flow) | .error e => .raise e).onRaise (cameBack X.env)).wrap K J gd lv) rfl rfl
          refine ⟨gl'.pn, fun q hq => ?_, gl'.apart, gl'.over, gl'.split, gl'.guard, rfl⟩
          rcases List.mem_append.mp hq with z | z
          · exact gl'.ip q z
          · exact fS _ (of_pinsAt z).1
        · have again : ∀ {σ7 : L2.St} {H7 : Hp}, GI X S (ip ++ pinsAt fp s5.heap) ys' σ7 H7 s7 → N ys' σ7 H7 → Seg (model X.prog X.w) A R (GY X S) n' s₀' (.forLoop tg (.ref it) body [] X.env) (.pure (.again (.forLoop tg (.ref it) body [] X.env)))
              (.ret (fun r => ((match r with | .ok f => (.pure f : Sem Flow) | .error e => .raise e).onRaise (cameBack X.env)).wrap K J gd lv) none (gd false) (lv []) c p [] :: fs) s7 := fun {σ7 H7} hI7 n7 => by
            obtain ⟨acc7, c7, r7, I7⟩ := hI7
            obtain ⟨m', hm, w7⟩ := hN ys' σ7 H7 n7
            have I7' : Inv X (((S, lstObj acc7 c7) :: ip) ++ pinsAt fp s5.heap) σ7 H7 s7 := I7
            refine seg_again rfl (ih m' hm (i + 1) n' ys' s₀' s7 σ7 H7 hn' w7 ⟨acc7, c7, r7, I7'.unpinned⟩ (T.keep _ _ _ st5 fun b hb o e => (I7'.pin (b, o) (List.mem_append_right _ (List.mem_append_right _ (mem_pinsAt hb e)))).1) fun b hb => ?_)
            obtain ⟨o, e, d⟩ := T.obj _ _ st5 b hb
            exact (I7'.pin (b, o) (List.mem_append_right _ (List.mem_append_right _ (mem_pinsAt hb e)))).2.1
          have un : ∀ {σ7 : L2.St} {H7 : Hp}, GI X S (ip ++ pinsAt fp s5.heap) ys' σ7 H7 s7 → GI X S ip ys' σ7 H7 s7 := fun {σ7 H7} hI7 => by
            obtain ⟨acc7, c7, r7, I7⟩ := hI7
            have I7' : Inv X (((S, lstObj acc7 c7) :: ip) ++ pinsAt fp s5.heap) σ7 H7 s7 := I7
            exact ⟨acc7, c7, r7, I7'.unpinned⟩
          cases f with
          | next => obtain ⟨σ7, H7, I7, n7⟩ := hs7; exact again I7 n7
          | cont => obtain ⟨σ7, H7, I7, n7⟩ := hs7; exact again I7 n7
          | brk => obtain ⟨σ7, H7, I7, q7⟩ := hs7; exact seg_leaf (.ok .next) (k.ok n' ys' s₀' s7 .next hn' ⟨σ7, H7, un I7, q7⟩)
          | ret v => obtain ⟨x7, σ7, H7, I7, r7, q7⟩ := hs7; exact seg_leaf (.ok (.ret v)) (k.ok n' ys' s₀' s7 (.ret v) hn' ⟨x7, σ7, H7, un I7, r7, q7⟩)
  exact loop m0 0 n ys s₀ s2 σ H2 hn w0 ⟨acc, cc, r, I2⟩ st2 fun b hb => (f2 b hb).1
/-- a cut: what stands between two statements -/
def tGCut (t u : TGn) : TGn := fun D ys σ H => ∃ N : List V → L2.St → Hp → Prop, t { D with nx := N } ys σ H ∧ ∀ ys' σ' H', N ys' σ' H' → u D ys' σ' H'
theorem gss_cut {t u : TGn} (a : GS X st t) (b : GSs X rest u) : GSs X (st :: rest) (tGCut t u) := by
  refine ⟨fun A S ip R n ys s₀ c fs K J gd lv s σ H D g hn k hI ht => ?_⟩
  obtain ⟨N, ht, hN⟩ := ht
  refine seg_execs_cons ?_
  refine a.run A S ip R n ys s₀ c fs _ J gd lv s σ H { D with nx := N } g hn ⟨fun n' ys' s₀' s' f hn' hs => ?_, k.exc⟩ hI ht
  cases f with
  | next =>
    obtain ⟨σ', H', I', q⟩ := hs
    exact b.run A S ip R n' ys' s₀' c fs K J gd lv s' σ' H' D g hn' k I' (hN _ _ _ q)
  | brk => exact k.ok n' ys' s₀' s' .brk hn' hs
  | cont => exact k.ok n' ys' s₀' s' .cont hn' hs
  | ret u => exact k.ok n' ys' s₀' s' (.ret u) hn' hs
theorem gss_one {t : TGn} (a : GS X st t) : GSs X [st] (tGThen t tG0) := gss_cons a gss_nil
/-- a generator's for over anything that is walked -/
theorem gfor_it {J : It} {n : Nat} {G : Hp → Prop} {Y : Nat → Hp → V → Hp → Prop} (w : Walk J n G Y) {g : TG} {tb : TGn} {D : GEnds} {ys : List V} {σ : L2.St} {H : Hp} (Pv : Nat → List V → L2.St → Hp → Prop) (h0 : Pv 0 ys σ H) (hG : ∀ i ys σ H, i ≤ n → Pv i ys σ H → G H)
    (hs : ∀ i x ys σ H H', i < n → Pv i ys σ H → Y i H x H' → g x σ H' fun σ2 H2 => tb { D with nx := Pv (i + 1), ct := Pv (i + 1), bk := D.nx } ys σ2 H2) (hd : ∀ ys σ H, Pv n ys σ H → D.nx ys σ H) :
    ∃ W : Nat → Nat → List V → L2.St → Hp → Prop, (∃ m, W 0 m ys σ H) ∧ ∀ i m ys σ H, W i m ys σ H →
      (J.stop i H ∧ D.nx ys σ H) ∨ (J.go i H ∧ ∃ N : List V → L2.St → Hp → Prop, (∀ ys' σ' H', N ys' σ' H' → ∃ m', m' < m ∧ W (i + 1) m' ys' σ' H') ∧ ∀ x H', J.yld i H x H' → g x σ H' fun σ2 H2 => tb { D with nx := N, ct := N, bk := D.nx } ys σ2 H2) := by
  refine ⟨fun i m ys σ H => m = n - i ∧ i ≤ n ∧ Pv i ys σ H, ⟨n, by simp, Nat.zero_le _, h0⟩, ?_⟩
  rintro i m ys σ H ⟨rfl, hi, p⟩
  have q := hG i ys σ H hi p
  by_cases hlt : i < n
  · exact .inr ⟨w.goes i H hlt q, Pv (i + 1), fun ys' σ' H' p' => ⟨n - (i + 1), by omega, rfl, hlt, p'⟩, fun x H' y => hs i x ys σ H H' hlt p (w.yields i H x H' hlt q y)⟩
  · have e : i = n := by omega
    subst e
    exact .inl ⟨w.stops H q, hd ys σ H p⟩
theorem passG0 : Passes (CX X.prog X.w) X E0 := fun _ _ _ _ _ _ _ h => by
  obtain ⟨a, B, H', cls, d, z1, fl, z2, ub, z3, z4, z5, z6⟩ := h
  exact z6.elim
theorem noStop0 {K : PySem.W.Frag} : NoStop K E0 := fun _ _ _ h => h.elim
end
section
variable {P : Program} {w : World} {K : PySem.W.Frag} {mg : Str → Option Value} {base : Heap}
/-- a generator def by its body -/
theorem _root_.L2.Fun.gen {x qual : Str} {st : Stmt} {f : Addr} {fd : FuncData} {N ps : List Str} {k : Nat} {sp : SpG} (F : Fun K x qual st f fd) (S : GScope N ps (defScope st)) (len : ∀ vs H Q E, sp vs H Q E → vs.length = ps.length)
    (hbody : ∀ (cdv : Value) (A : Around) (outer : List Env) (s : Shared) (H : Hp) (vs : List V) (Q : List V → Hp → Prop) (E : XK) (pn : List (Addr × Obj)), Room k (A.deeper (envOfC qual (defScope st) s.heap.objs.size f cdv)) → sp vs H Q E →
      ∃ t, GSs (gcxOf P w K mg base N qual (defScope st) f cdv A outer s H E pn) (defBody st) t ∧ t { nx := fun ys _ H' => Q ys H', rt := fun ys v H' => v = .non ∧ Q ys H' } [] (start N vs) H) : GFn P w K mg base (k + 1) f fd ps sp := by
  obtain ⟨oc, od, kV, doc, pm, an, cdv, ct, osl, rfl, lk, hcd⟩ := F.ex
  exact gfn_of lk hcd S len fun A outer s H vs Q E pn hr hsp => hbody cdv A outer s H vs Q E pn hr hsp
end
section
variable {X : Cx} {k : Nat} {f : Addr} {fd : FuncData} {ps ks : List Str} {sp : SpG} {x : Str} {p pos' : Pos}
/-- f(k=v, ..) of a generator def -/
def tCallGK0 (sp : SpG) (n : Nat) (gV : List V → List V → List V) (E : XK) (tk : TA) : TGen := fun σ H cont => tk σ H fun zs H1 => zs.length = n ∧ sp (gV [] zs) H1 cont E
theorem pgen_callK0 {E : XK} {kws : List Keyword} {tk : TA} {g : List Value → List Value → List Value} {gV : List V → List V → List V} (F : GFn X.prog X.w X.K X.mg X.base k f fd ps sp) (hr : Room k X.A) (hg : Gl X x) (hm : X.mg x = some (.ref f)) (hk : PySem.W.keepIn X.K (.ref f) = true) (hb : KBn X.K fd ps 0 ks g gV) (hkw : PK X kws tk)
    (hall : (backToKw pos' (keywordEach kws X.env)).all (·.1.isSome) = true := by rfl) (hks : (backToKw pos' (keywordEach kws X.env)).filterMap (·.1) = ks := by rfl) (hdb : (x == ("__debug__" : Str)) = false := by decide)
    (hpl : ((backTo pos' (starEach [] X.env)).any (·.1) || (backToKw pos' (keywordEach kws X.env)).any (·.1.isNone)) = false := by rfl) :
    PGen X k (.Call (.Name x p) [] kws pos') (tCallGK0 sp ks.length gV E tk) E := by
  refine ⟨fun pins s σ H cont I h => ?_⟩
  refine wpAny_Call_Name_kw (ld_glob I hg hm ?_ hdb)
  refine PySem.W.callWith_KW0 (h₀ := X.base) I.ok.mod.kin hk hall ?_ hpl
  refine thn (hkw.run pos' pins s σ H _ I h) fun ws s2 ⟨zs, H2, I2, rz, l2, q2⟩ => ⟨I2.kIn, ?_⟩
  rw [hks]
  refine wpAny_call (codeAny_mono (F.run X.A X.stack s2 H2 ⟨[] ++ [], ks.zip ws⟩ (g [] ws) (gV [] zs) cont E hr I2.env0 (hb.to _ [] ws I2.kIn rfl (rz.length.symm.trans l2)) (hb.rel .nil rz) q2) fun r s' hq => ?_)
  cases r with
  | error e => exact False.elim hq
  | ok fl =>
    cases fl with
    | ret u => exact ⟨H2, s2, [], I2, .nil, hq⟩
    | next => exact False.elim hq
    | brk => exact False.elim hq
    | cont => exact False.elim hq
end
end SR

set_option maxRecDepth 100000
set_option maxHeartbeats 4000000
namespace SS
open PySem L2 SR TL
def oneRow (cs : List Nat) : List (List Int) := [cs.map fun _ => 0]
theorem one_wf {cs : List Nat} (b : Bool) : WfM cs (oneRow cs) (if b then [0] else []) := by
  refine ⟨by show 1 ≤ 1; decide, by show 1 ≤ 40; decide, fun row hr => ?_, by cases b <;> simp, fun e he => ?_⟩
  · rw [List.mem_singleton.mp hr]
    refine ⟨by rw [List.length_map], fun g hg => ?_⟩
    obtain ⟨_, _, rfl⟩ := List.mem_map.mp hg
    exact ⟨Int.le_refl _, by show (0 : Int) < 1; decide⟩
  · cases b with
    | true => rw [List.mem_singleton.mp he]; exact ⟨Int.le_refl _, by show (0 : Int) < 1; decide⟩
    | false => exact nomatch he
theorem find_map_congr {α : Type} {p q : α → Bool} : ∀ {l : List α}, (∀ x ∈ l, p x = q x) → l.find? p = l.find? q
  | [], _ => rfl
  | a :: l, h => by
    rw [List.find?_cons, List.find?_cons, h a List.mem_cons_self, find_map_congr fun x hx => h x (List.mem_cons_of_mem _ hx)]
section
variable {P : Program} {w : World} {K : PySem.W.Frag} {mg : Str → Option Value} {base : Heap}
/-! ### least_text -/
abbrev sLtx : Stmt := top 32
abbrev nLtx : List Str := ["language", "sign"]
theorem scLtx : FnScope nLtx ["language"] (defScope sLtx) := ⟨rfl, rfl, rfl, by decide +kernel, rfl, by decide +kernel, by decide +kernel⟩
def spLtx (C : Addr) : Sp := fun vs H Q _ => ∃ (x : Addr) (cs : List Nat) (r : List (List Int)) (en ns : List Int) (k : Nat), vs = [.ref x] ∧ Abc cs ∧ LangR C H x cs r en ns ∧ WfM cs r en ∧ r.length ≤ 6 ∧ r.length ≤ k + 1 ∧ ∀ H', Same H H' → Q (optT ((txs cs k).find? (isM cs r en))) H'
theorem ok_ltx {f C : Addr} {fd : FuncData} (F : Fun K "least_text" "least_text" sLtx f fd) (G : Lg P w K mg base C) (Fo : Cal P w K mg base "first_outside" 2 psPrd (spFo C)) : FnOk P w K mg base CX0 6 f fd ["language"] (spLtx C) := by
  obtain ⟨fI, fdI, M, GI, bI⟩ := G.mak
  refine F.ok scLtx (fun vs H Q E h => ?_) (fun cdv A outer s H vs Q E hr h => ?_)
  · obtain ⟨x, cs, r, en, ns, k, rfl, _⟩ := h
    rfl
  · obtain ⟨x, cs, r, en, ns, kk, rfl, ha, L, W, h6, hk, k⟩ := h
    have nd : cs.Nodup := ris_nodup ha.ris
    have h4 := ha.four
    obtain ⟨dx, pt, pm, pl, fs, h1, h2, h3, h4', h5, h6', ⟨⟨qs, t1, t2⟩, t3⟩, h8, h9⟩ := L.ex
    refine ⟨_, pss_one (ps_ret (pe_cal Fo (hr.mono (by decide)) (pa_cons (pv 0) (pa_cons (pe_make M GI hr (by rfl) G.tx.mgC bI .nil pass0 (pa_cons (pe_fld (pv 0) rfl) (pa_cons (pe_lst (pa_cons (pe_dc (own := [("sign", 1)]) (g := gName 1) (tt := tYes) (tk := tVar 1) (tv := tC (.int 0)) rfl scLtx.nd (pi_str (pe_fld (pv 0) rfl)) (blkOk_by (by kernel_rfl))
        (fun _ _ _ _ _ => pg_name (i := 1) scLtx.nd rfl (.inl rfl)) (fun _ _ _ _ _ => pts_nil) (fun _ _ _ _ _ => pv 1) (fun _ _ _ _ _ => pe_int)) pa_nil)) (pa_cons (pe_lst pa_nil) pa_nil)))) pa_nil)))), ?_⟩
    have hz : (txt cs).cps.size = cs.length := by simp [txt]
    refine ⟨_, rfl, _, rfl, x, C, dx, _, _, rfl, h1, G.tx.cl, G.tx.nS, h2, _, rfl, x, C, dx, _, _, rfl, h1, G.tx.cl, G.tx.nS, h2, _, rfl, fun pr hpr => dc_S walk_str hpr (by rw [hz]; omega) (fun j acc _ => acc = rowK (cs.take j) ((cs.take j).map fun _ => 0)) (fun _ _ _ _ _ _ _ h => h) rfl (fun _ _ => trivial) ?_ ?_⟩
    · rintro j v H2 H2' acc Qt Qf hj e2 hd rfl ⟨rfl, c, hc, rfl⟩ kt kf
      have hc' : cs[j]? = some c := by simpa [txt] using hc
      exact ⟨rfl, _, rfl, kt (Sum.inr (lt c)) _ _ (Same.refl _) (row_snoc (f := fun _ => 0) nd hc')⟩
    · rintro H2 acc e2 hd rfl
      rw [hz, List.take_length] at hd
      refine ⟨by show 1 ≤ sizeLine; decide, fun pw hpw => ⟨by show 0 ≤ sizeLine; decide, fun pe hpe => ?_⟩⟩
      have f1 : Same H2 (upd H2 pw (.lst [.ref pr])) := same_new hpw
      have g1 : (upd H2 pw (.lst [.ref pr])) pw = _ := upd_same
      generalize upd H2 pw (.lst [.ref pr]) = H3 at f1 g1 hpe ⊢
      have f2 : Same H3 (upd H3 pe (.lst [])) := same_new hpe
      have g2 : (upd H3 pe (.lst [])) pe = _ := upd_same
      generalize upd H3 pe (.lst []) = H4 at f2 g2 ⊢
      intro y dy ny ndy ney
      have en' : Same H4 (upd (upd H4 dy (.own y)) y (.ins C dy [])) := same_upd (same_new ndy) ny
      have e04 : Same H H4 := (e2.trans f1).trans f2
      refine ⟨y, dy, cs, pw, pe, oneRow cs, [], 6, rfl, by decide, upd_same, ha, one_wf false, fun fd O => cover_small (by show 1 ≤ 6; decide) O, (Given.mk ⟨[pr], .inl (f2 _ _ g1), .cons (f2 _ _ (f1 _ _ hd)) .nil⟩ (.inl g2)).mono en', fun H6 LA sb => ⟨rfl, ?_⟩⟩
      have e6 : Same H H6 := fun b o hb => sb b o (ne_of_none (e04 _ _ hb) ny) (en' b o (e04 _ _ hb))
      obtain ⟨r2, en2, ns2, R2, W2, al2, Le2, _⟩ := (LA H6 fun _ _ _ h => h).ex
      have hl2 : r2.length ≤ 1 := least_len Le2
      have hone := W.one
      have hz2 : ∀ q : Int, 0 ≤ q → q < (r2.length : Int) → q = 0 := fun q a b => by omega
      have Cz : Clz cs r r2 ((List.range r.length).map fun i : Nat => ((i : Int), (0 : Int))) := by
        refine ⟨by rw [List.length_map, List.length_range]; exact h6, List.mem_map.mpr ⟨0, List.mem_range.mpr hone, rfl⟩, fun s hs c hc => ?_, fun s hs => ?_⟩
        · obtain ⟨i, hi, rfl⟩ := List.mem_map.mp hs
          have hi' := List.mem_range.mp hi
          obtain ⟨_, _, _, _, a, b⟩ := W.nxt_ok (q := (i : Int)) (by omega) (by omega) hc
          have hw1 := W2.one
          obtain ⟨_, _, _, _, a2, b2⟩ := W2.nxt_ok (q := 0) (by omega) (by omega) hc
          refine List.mem_map.mpr ⟨(nxt cs r (i : Int) c).toNat, List.mem_range.mpr (by omega), ?_⟩
          show _ = (nxt cs r (i : Int) c, nxt cs r2 0 c)
          rw [hz2 _ a2 b2, Int.toNat_of_nonneg a]
        · obtain ⟨i, hi, rfl⟩ := List.mem_map.mp hs
          have hi' := List.mem_range.mp hi
          have hw1 := W2.one
          exact ⟨⟨by show (0 : Int) ≤ i; omega, by show (i : Int) < _; omega⟩, Int.le_refl _, by show (0 : Int) < _; omega⟩
      refine ⟨x, y, cs, r, r2, en, en2, ns, ns2, _, kk, rfl, ha, L.mono e6, R2, W, W2, Cz, by rw [List.length_map, List.length_range]; exact hk, fun H7 e7 => ?_⟩
      have hf : (txs cs kk).find? (isM cs r en) = (txs cs kk).find? fun x => outP en en2 (run cs r 0 x, run cs r2 0 x) := find_map_congr fun z hzm => by
        have : run cs r2 0 z ∉ en2 := fun h => nomatch ((al2.1 z (mem_txs.mp hzm).1).mp h)
        simp [isM, outP, this]
      rw [← hf]
      exact k _ (e6.trans e7)
/-! ### members -/
abbrev sMbr : Stmt := top 33
abbrev nMbr : List Str := ["language", "most", "latest", "size", "longer", "text", "state", "sign", "goal"]
abbrev psMbr : List Str := ["language", "most"]
theorem scMbr : GScope nMbr psMbr (defScope sMbr) := ⟨rfl, rfl, rfl, by decide +kernel, rfl, by decide +kernel, by decide +kernel⟩
def kidL (cs : List Nat) (r : List (List Int)) (ns : List Int) (x : List Nat) : List (List Nat) := (kids cs x).filter fun y => decide (run cs r 0 y ∈ ns)
theorem len_kidL (cs : List Nat) (r : List (List Int)) (ns : List Int) : ∀ l : List (List Nat), (l.flatMap (kidL cs r ns)).length ≤ l.length * cs.length
  | [] => by simp
  | x :: l => by
    have h1 := len_kidL cs r ns l
    have h2 : (kidL cs r ns x).length ≤ cs.length := by
      refine Nat.le_trans (List.length_filter_le _ _) ?_
      simp [kids]
    rw [List.flatMap_cons, List.length_append, List.length_cons, Nat.add_mul]
    omega
theorem rowK_at {cs : List Nat} {row : List Int} {l c : Nat} (h : row.length = cs.length) (hc : cs[l]? = some c) : (rowK cs row)[l]? = some (Sum.inr (lt c), .int (row.getD l 0)) := by
  obtain ⟨h1, h2⟩ := List.getElem?_eq_some_iff.mp hc
  have h3 : l < row.length := by omega
  unfold rowK
  rw [List.getElem?_map, List.getElem?_eq_getElem (by rw [List.length_zip]; omega), List.getElem_zip, h2, List.getD_eq_getElem?_getD, List.getElem?_eq_getElem h3]
  rfl
/-- a text and its state -/
def TsAt (cs : List Nat) (r : List (List Int)) (H : Hp) (a : Addr) (x : List Nat) : Prop := H a = some (.tup [txtV x, .int (run cs r 0 x)])
def spMbr (C : Addr) : SpG := fun vs H Q _ => ∃ (x : Addr) (n : Nat) (cs : List Nat) (r : List (List Int)) (en ns : List Int), vs = [.ref x, .int n] ∧ n ≤ 8 ∧ Abc cs ∧ LangR C H x cs r en ns ∧ WfM cs r en ∧ (∀ q, 0 ≤ q → q < (r.length : Int) → (q ∈ ns ↔ Leads cs r en q)) ∧
  ∀ H', Same H H' → Q (((txs cs n).filter (isM cs r en)).map txtV) H'
structure Ck (mg : Str → Option Value) : Prop where
  longest : ∃ t, mg "LONGEST_MEMBER" = some (.int 8 t)
theorem ok_mbr {f C : Addr} {fd : FuncData} (F : Fun K "members" "members" sMbr f fd) (B : Bl mg) (Ck' : Ck mg) (T : LTx K mg C) (N : Cal P w K mg base "is_number_below" 1 ["value", "limit"] spNum) : GFn P w K mg base 2 f fd psMbr (spMbr C) := by
  obtain ⟨tl, hlm⟩ := Ck'.longest
  refine F.gen scMbr (fun vs H Q E h => ?_) (fun cdv A outer s H vs Q E pn hr h => ?_)
  · obtain ⟨x, n, cs, r, en, ns, rfl, _⟩ := h
    rfl
  · obtain ⟨x, n, cs, r, en, ns, rfl, hn8, ha, L, W, hns, k⟩ := h
    have hu := hu_of hr
    have nd : cs.Nodup := ris_nodup ha.ris
    have h4 := ha.four
    have hone := W.one
    obtain ⟨dx, pt, pm, pl, fs, h1, h2, h3, h4', h5, h6', ⟨⟨qs, t1, t2⟩, t3⟩, h8, h9⟩ := L.ex
    have hp := owns_gcx (P := P) (w := w) (K := K) (mg := mg) (base := base) (N := nMbr) (qual := "members") (scope := defScope sMbr) (f := f) (cd := cdv) (A := A) (outer := outer) (s := s) (H := H) (E := E) (pn := pn)
    refine ⟨_, gss_cons (gs_ps (ps_if (pt_not (pt_val (pe_cal N hr (pa_cons (pv 1) (pa_cons (pe_op op_add (pe_glob (v := .int 8) rfl hlm ⟨tl, rfl⟩) pe_int) pa_nil))))) (pss_one ps_never) pss_nil))
      (gss_cut (gs_ps (ps_set (i := 2) scMbr.nd rfl (.inl rfl) (pe_ifExp (pt_cmpR op_in_seq pe_int (pe_fld (pv 0) rfl) (by rfl)) (pe_lst (pa_cons (pe_tup (pa_cons pe_str (pa_cons pe_int pa_nil))) pa_nil)) (pe_lst pa_nil))))
      (gss_one (gs_for hp rfl (pi_range1 (by rfl) B.range (pa_cons (pe_op op_add (pv 1) pe_int) pa_nil)) (pg_name (i := 3) scMbr.nd rfl (.inl rfl))
        (gss_cons (gs_ps (ps_set (i := 4) scMbr.nd rfl (.inl rfl) (pe_lst pa_nil)))
        (gss_cons (gs_for hp rfl (pi_list (pv 2)) (pg_tup rfl (pgs_cons (pg_name (i := 5) scMbr.nd rfl (.inl rfl)) (pgs_cons (pg_name (i := 6) scMbr.nd rfl (.inl rfl)) pgs_nil)))
          (gss_cut (gs_if (pt_cmpR op_in_seq (pv 6) (pe_fld (pv 0) rfl) (by rfl)) (gss_one (gs_yield (pv 5))) gss_nil)
          (gss_one (gs_ps (ps_lock (ps_for hp rfl (pi_items (pe_ix ix_tup (pe_fld (pv 0) rfl) (pv 6) (fun _ _ => rfl))) (pg_tup rfl (pgs_cons (pg_name (i := 7) scMbr.nd rfl (.inl rfl)) (pgs_cons (pg_name (i := 8) scMbr.nd rfl (.inl rfl)) pgs_nil)))
            (pss_one (ps_if (pt_cmpR op_in_seq (pv 8) (pe_fld (pv 0) rfl) (by rfl)) (pss_one (ps_expr (pe_bm PySem.F.plainAttrs_list PySem.F.slot_list_append PySem.F.type_list_append mt_append (pv 4) (pa_cons (pe_tup (pa_cons (pe_op op_add_str (pv 5) (pv 7)) (pa_cons (pv 8) pa_nil))) pa_nil)))) pss_nil))))))))
        (gss_one (gs_ps (ps_set (i := 2) scMbr.nd rfl (.inl rfl) (pv 4))))))))), ?_⟩
    refine ⟨_, rfl, _, _, rfl, rfl, _, _, rfl, by omega, by omega, ⟨_, rfl, iteF ?_⟩⟩
    -- latest
    refine ⟨fun ys σ H' => ys = [] ∧ Same H H' ∧ ∃ pa ts, σ = [some (.ref x), some (.int n), some (.ref pa), none, none, none, none, none, none] ∧ H' pa = some (.lst (ts.map .ref)) ∧ Paired (TsAt cs r H') ts (ltst cs r ns 0), ?_, ?_⟩
    · refine ⟨_, rfl, x, C, dx, _, _, rfl, h1, T.cl, T.nL, h5, pl, _, rfl, .inr (SqT.of h8), rfl, flat_ints _, _, rfl, ?_⟩
      rw [show inV (V.int 0) (ns.map .int) = decide ((0 : Int) ∈ ns) from inV_ints _ _, ltst_zero]
      by_cases h0 : (0 : Int) ∈ ns
      · rw [decide_eq_true h0, if_pos h0]
        refine iteT ⟨by show 2 ≤ sizeLine; decide, fun p hp' => ⟨by show 1 ≤ sizeLine; decide, fun pa hpa => ?_⟩⟩
        refine ⟨rfl, (same_new hp').trans (same_new hpa), pa, [p], rfl, upd_same, .cons ?_ .nil⟩
        exact (same_new hpa) _ _ upd_same
      · rw [decide_eq_false h0, if_neg h0]
        exact iteF ⟨by show 0 ≤ sizeLine; decide, fun pa hpa => ⟨rfl, same_new hpa, pa, [], rfl, upd_same, .nil⟩⟩
    rintro ys σ H0 ⟨rfl, e0, pa, ts, rfl, hpa, hts⟩
    have ebn : ((n : Int) + 1).toNat = n + 1 := by omega
    refine ⟨_, rfl, _, _, rfl, rfl, _, rfl, by omega, by omega, ?_⟩
    rw [ebn]
    refine gfor_it (walk_range (lo := 0) (n := n + 1)) (fun i ys σ H' => Same H H' ∧ ys = (outM cs r en i).map txtV ∧ ∃ pa ts a3 a4 a5 a6 a7 a8, σ = [some (.ref x), some (.int n), some (.ref pa), a3, a4, a5, a6, a7, a8] ∧ H' pa = some (.lst (ts.map .ref)) ∧ Paired (TsAt cs r H') ts (ltst cs r ns i)) ⟨e0, rfl, pa, ts, none, none, none, none, none, none, rfl, hpa, hts⟩ (fun _ _ _ _ _ _ => trivial) ?_ ?_
    · rintro i v ys σ H1 H1' hi ⟨e1, rfl, pa, ts, a3, a4, a5, a6, a7, a8, rfl, hpa, hts⟩ ⟨rfl, rfl⟩
      have hl4 := len_lay4 h4 i
      have hlt : (ltst cs r ns i).length ≤ 4 ^ i := Nat.le_trans (List.length_filter_le _ _) hl4
      have hp4 := pow4 (i := i) (by omega)
      have hout : (outM cs r en i).length ≤ 2 * 4 ^ i := by
        cases i with
        | zero => exact Nat.zero_le _
        | succ i' =>
          rw [outM_txs]
          have a1 := len_txs4 h4 i'
          have a2 := List.length_filter_le (isM cs r en) (txs cs i')
          have a3 : 4 ^ (i' + 1) = 4 * 4 ^ i' := by rw [Nat.pow_succ, Nat.mul_comm]
          omega
      refine ⟨by show 0 ≤ sizeLine; decide, fun pg hpg => ?_⟩
      have ep : Same H1' (upd H1' pg (.lst [])) := same_new hpg
      refine ⟨_, rfl, pa, rfl, ⟨_, SqL.of (ep _ _ hpa)⟩, gfor_it (walk_list (K := K) (a := pa) (xs := ts.map .ref)) (fun j ys σ H' => Same H1' H' ∧ ys = (outM cs r en i).map txtV ++ (((ltst cs r ns i).take j).filter (isM cs r en)).map txtV ∧ ∃ us b5 b6 b7 b8, σ = [some (.ref x), some (.int n), some (.ref pa), some (.int (0 + (i : Nat))), some (.ref pg), b5, b6, b7, b8] ∧ H' pg = some (.lst (us.map .ref)) ∧ Paired (TsAt cs r H') us (((ltst cs r ns i).take j).flatMap (kidL cs r ns))) ?_ (fun j ys σ H' _ p => SqL.of (p.1 _ _ hpa)) ?_ ?_⟩
      · exact ⟨ep, by simp, [], a5, a6, a7, a8, rfl, upd_same, by simpa using Paired.nil⟩
      · rintro j v ys σ H2 H2' hj ⟨e2, rfl, us, b5, b6, b7, b8, rfl, hg2, hus⟩ ⟨rfl, hv⟩
        rw [List.getElem?_map] at hv
        obtain ⟨a, hat, rfl⟩ := Option.map_eq_some_iff.mp hv
        have htl := Paired.length hts
        rw [List.length_map] at hj
        have hjl : j < (ltst cs r ns i).length := by omega
        obtain ⟨a', ha', hta⟩ := paired_get j hts (List.getElem?_eq_getElem hjl)
        rw [hat] at ha'
        cases ha'
        have hxx : (ltst cs r ns i)[j]? = some (ltst cs r ns i)[j] := List.getElem?_eq_getElem hjl
        generalize (ltst cs r ns i)[j] = xx at hta hxx
        have hxl : xx ∈ lay cs i := (List.mem_filter.mp (List.mem_of_getElem? hxx)).1
        obtain ⟨hxo, hxn⟩ := mem_lay.mp hxl
        obtain ⟨q0, q1⟩ := W.run_ok xx 0 (Int.le_refl _) (by omega) hxo
        have em : Same H H2' := e1.trans e2
        have et : (ltst cs r ns i).take (j + 1) = (ltst cs r ns i).take j ++ [xx] := by rw [List.take_add_one, hxx]; rfl
        refine ⟨a, _, rfl, SqT.of (e2 _ _ hta), rfl, _, _, rfl, _, _, rfl, rfl, ?_⟩
        -- the yield
        refine ⟨fun ys σ H' => H' = H2' ∧ ys = (outM cs r en i).map txtV ++ (((ltst cs r ns i).take (j + 1)).filter (isM cs r en)).map txtV ∧ σ = [some (.ref x), some (.int n), some (.ref pa), some (.int (0 + (i : Nat))), some (.ref pg), some (txtV xx), some (.int (run cs r 0 xx)), b7, b8], ?_, ?_⟩
        · refine ⟨_, rfl, _, rfl, x, C, dx, _, _, rfl, em _ _ h1, T.cl, T.nM, h4', pm, _, rfl, .inr (SqT.of (em _ _ t3)), rfl, flat_ints _, _, rfl, ?_⟩
          rw [show inV (V.int (run cs r 0 xx)) (en.map .int) = decide (run cs r 0 xx ∈ en) from inV_ints _ _]
          by_cases hm : run cs r 0 xx ∈ en
          · rw [decide_eq_true hm]
            refine iteT ⟨?_, _, rfl, rfl, ?_, rfl⟩
            · rw [List.length_append, List.length_map, List.length_map, sizeLine_eq]
              have a1 := List.length_filter_le (isM cs r en) ((ltst cs r ns i).take j)
              have a2 : ((ltst cs r ns i).take j).length ≤ (ltst cs r ns i).length := by rw [List.length_take]; omega
              omega
            · rw [et, List.filter_append, List.filter_cons_of_pos (by exact decide_eq_true hm), List.map_append, List.append_assoc]
              rfl
          · rw [decide_eq_false hm]
            refine iteF ⟨rfl, ?_, rfl⟩
            rw [et, List.filter_append, List.filter_cons_of_neg (by show ¬ decide (run cs r 0 xx ∈ en) = true; simpa using hm)]
            simp
        rintro ys σ H3 ⟨rfl, rfl, rfl⟩
        -- the moves
        have hql : (run cs r 0 xx).toNat < r.length := by omega
        obtain ⟨w1, hw1, hrow⟩ := paired_get _ t2 (List.getElem?_eq_getElem hql)
        obtain ⟨hrl, _⟩ := W.row _ (List.getElem_mem hql)
        have hrow2 := em _ _ hrow
        have npg : pg ≠ w1 := ne_of hg2 hrow2 (by intro z; cases z)
        refine ⟨w1, _, hrow2, trivial, fun od => ?_⟩
        have lk : ∀ {b : Addr} {o : HO}, H3 b = some o → (∀ m, o ≠ .dK m) → (upd H3 w1 (.frz od (.dK (rowK cs r[(run cs r 0 xx).toNat])))) b = some o := fun {b o} hb hd => by rw [upd_ne (ne_of hb hrow2 (fun z => hd _ z))]; exact hb
        have hlw : (upd H3 w1 (.frz od (.dK (rowK cs r[(run cs r 0 xx).toNat])))) w1 = some (.frz od (.dK (rowK cs r[(run cs r 0 xx).toNat]))) := upd_same
        have hlg := lk hg2 (fun _ => nofun)
        have hlus : Paired (TsAt cs r (upd H3 w1 (.frz od (.dK (rowK cs r[(run cs r 0 xx).toNat]))))) us (((ltst cs r ns i).take j).flatMap (kidL cs r ns)) := Paired.mono hus fun a x h => lk h (fun _ => nofun)
        have hkl : (rowK cs r[(run cs r 0 xx).toNat]).length = cs.length := by unfold rowK; rw [List.length_map, List.length_zip]; omega
        refine ⟨_, rfl, x, C, dx, _, _, rfl, lk (em _ _ h1) (fun _ => nofun), T.cl, T.nG, h3, _, rfl, pt, _, _, .ref w1, rfl, rfl, SqT.of (lk (em _ _ t1) (fun _ => nofun)), atI_of q0 (by rw [List.getElem?_map, hw1]; rfl), w1, od, _, rfl, hlw, ?_⟩
        generalize hHl : (upd H3 w1 (.frz od (.dK (rowK cs r[(run cs r 0 xx).toNat])))) = Hl at lk hlw hlg hlus
        refine for_it walk_items (fun l σ H' => SameB pg Hl H' ∧ ∃ us' b7 b8, σ = [some (.ref x), some (.int n), some (.ref pa), some (.int (0 + (i : Nat))), some (.ref pg), some (txtV xx), some (.int (run cs r 0 xx)), b7, b8] ∧ H' pg = some (.lst (us'.map .ref)) ∧ Paired (TsAt cs r H') us' (((ltst cs r ns i).take j).flatMap (kidL cs r ns) ++ ((cs.take l).map fun c => xx ++ [c]).filter fun y => decide (run cs r 0 y ∈ ns))) ?_ (fun l σ H' _ p => p.1 _ _ (Ne.symm npg) hlw) ?_ ?_
        · exact ⟨fun b o _ h => h, us, b7, b8, rfl, hlg, by simpa using hlus⟩
        · rintro l v σ H4 H4' hl ⟨e4, us', c7, c8, rfl, hg4, hus4⟩ ⟨T4, kx, gx, rfl, hT4, rfl, ex, ey⟩
          rw [hkl] at hl
          obtain ⟨c, hc⟩ : ∃ c, cs[l]? = some c := ⟨_, List.getElem?_eq_getElem hl⟩
          have hcm := List.mem_of_getElem? hc
          have hat4 := rowK_at hrl hc
          dsimp only at ex ey
          rw [hat4] at ex ey
          cases ex
          cases ey
          have hnx : r[(run cs r 0 xx).toNat].getD l 0 = run cs r 0 (xx ++ [c]) := by
            rw [run_app]
            show _ = (r.getD (run cs r 0 xx).toNat []).getD (cs.idxOf c) 0
            have hidx : cs.idxOf c = l := by
              obtain ⟨g1, g2⟩ := List.getElem?_eq_some_iff.mp hc
              rw [← g2, List.Nodup.idxOf_getElem nd l g1]
            rw [hidx, List.getD_eq_getElem?_getD (l := r), List.getElem?_eq_getElem hql]
            rfl
          rw [hnx]
          have eT : Same H4 (upd H4 T4 (.tup [kV (Sum.inr (lt c)), .int (run cs r 0 (xx ++ [c]))])) := same_new hT4
          have hg5 := eT _ _ hg4
          have e5 : SameB pg Hl (upd H4 T4 (.tup [kV (Sum.inr (lt c)), .int (run cs r 0 (xx ++ [c]))])) := fun b o nb h => eT _ _ (e4 b o nb h)
          have hus5 := Paired.mono hus4 fun a x (h : TsAt cs r H4 a x) => (eT _ _ h : TsAt cs r _ a x)
          refine ⟨T4, _, rfl, SqT.of upd_same, rfl, _, _, rfl, _, _, rfl, rfl, ?_⟩
          generalize (upd H4 T4 (.tup [kV (Sum.inr (lt c)), .int (run cs r 0 (xx ++ [c]))])) = H5 at hg5 e5 hus5
          have nx : ∀ {b : Addr} {o : HO}, H b = some o → b ≠ pg := fun {b o} h z => by
            have h6 := (e1 _ _ h)
            rw [z, hpg] at h6
            cases h6
          have get : ∀ {b : Addr} {o : HO}, H b = some o → (∀ m, o ≠ .dK m) → H5 b = some o := fun {b o} h hd => e5 _ _ (nx h) (lk (em _ _ h) hd)
          refine ⟨_, rfl, _, rfl, x, C, dx, _, _, rfl, get h1 (fun _ => nofun), T.cl, T.nL, h5, pl, _, rfl, .inr (SqT.of (get h8 (fun _ => nofun))), rfl, flat_ints _, _, rfl, ?_⟩
          rw [show inV (V.int (run cs r 0 (xx ++ [c]))) (ns.map .int) = decide (run cs r 0 (xx ++ [c]) ∈ ns) from inV_ints _ _]
          have etc : cs.take (l + 1) = cs.take l ++ [c] := by rw [List.take_add_one, hc]; rfl
          by_cases hm : run cs r 0 (xx ++ [c]) ∈ ns
          · rw [decide_eq_true hm]
            have hlen : us'.length < sizeLine := by
              have a1 := Paired.length hus5
              have a2 := len_kidL cs r ns ((ltst cs r ns i).take j)
              have a3 : ((ltst cs r ns i).take j).length ≤ 4 ^ i := by rw [List.length_take]; omega
              have a4 : ((ltst cs r ns i).take j).length * cs.length ≤ 4 ^ i * 4 := Nat.mul_le_mul a3 h4
              have a5 := List.length_filter_le (fun y => decide (run cs r 0 y ∈ ns)) ((cs.take l).map fun c => xx ++ [c])
              rw [List.length_map, List.length_take] at a5
              rw [List.length_append] at a1
              rw [sizeLine_eq]
              omega
            refine iteT ⟨_, rfl, .inl ⟨rfl, _, SqL.of hg5⟩, _, rfl, _, rfl, _, _, rfl, rfl, ?_, _, rfl, by show 2 ≤ sizeLine; decide, fun tt htt => ?_⟩
            · show (txt xx).length + 1 ≤ sizeLine
              rw [txt_len, sizeLine_eq]
              omega
            have e6 : Same H5 (upd H5 tt (.tup [.str (txt xx ++ lt c), .int (run cs r 0 (xx ++ [c]))])) := same_new htt
            have ntg : tt ≠ pg := fun z => by rw [z, hg5] at htt; cases htt
            have hta6 : TsAt cs r (upd H5 tt (.tup [.str (txt xx ++ lt c), .int (run cs r 0 (xx ++ [c]))])) tt (xx ++ [c]) := by
              show _ = _
              rw [upd_same, show txt xx ++ lt c = txt (xx ++ [c]) from txt_app xx [c]]
              rfl
            refine ⟨pg, _, _, rfl, rfl, e6 _ _ hg5, by rw [List.length_map]; exact hlen, ?_, us' ++ [tt], _, _, rfl, ?_, ?_⟩
            · intro b o nb h
              rw [upd_ne nb]
              exact e6 _ _ (e5 b o nb h)
            · rw [upd_same, List.map_append]
              rfl
            · rw [etc, List.map_append, List.filter_append, ← List.append_assoc]
              have hk6 : ∀ a x, TsAt cs r (upd H5 tt (.tup [.str (txt xx ++ lt c), .int (run cs r 0 (xx ++ [c]))])) a x → TsAt cs r (upd (upd H5 tt (.tup [.str (txt xx ++ lt c), .int (run cs r 0 (xx ++ [c]))])) pg (.lst (us'.map .ref ++ [.ref tt]))) a x := fun a x h => by
                show _ = _
                rw [upd_ne (ne_of h (e6 _ _ hg5) (by intro z; cases z))]
                exact h
              have : ([c].map fun c => xx ++ [c]).filter (fun y => decide (run cs r 0 y ∈ ns)) = [xx ++ [c]] := by
                rw [List.map_singleton, List.filter_cons_of_pos (by exact decide_eq_true hm)]
                rfl
              rw [this]
              exact paired_snoc (Paired.mono hus5 fun a x h => hk6 a x (e6 _ _ h)) (hk6 _ _ hta6)
          · rw [decide_eq_false hm]
            refine iteF ⟨e5, us', _, _, rfl, hg5, ?_⟩
            rw [etc, List.map_append, List.filter_append]
            have : ([c].map fun c => xx ++ [c]).filter (fun y => decide (run cs r 0 y ∈ ns)) = [] := by
              rw [List.map_singleton, List.filter_cons_of_neg (by simpa using hm)]
              rfl
            rw [this, List.append_nil]
            exact hus5
        · rintro σ H4 ⟨e4, us', c7, c8, rfl, hg4, hus4⟩
          rw [hkl, List.take_length] at hus4
          refine ⟨e4 _ _ (Ne.symm npg) hlw, ?_, rfl, us', _, _, _, _, rfl, by rw [upd_ne npg]; exact hg4, ?_⟩
          · intro b o hb
            by_cases hbw : b = w1
            · subst hbw
              rw [upd_same, ← hrow2]
              exact e2 _ _ hb
            · rw [upd_ne hbw]
              have nbg : b ≠ pg := fun z => by rw [z, hpg] at hb; cases hb
              refine e4 b o nbg ?_
              rw [← hHl, upd_ne hbw]
              exact e2 _ _ hb
          · have hkid : ((cs.map fun c => xx ++ [c]).filter fun y => decide (run cs r 0 y ∈ ns)) = kidL cs r ns xx := rfl
            rw [et, List.flatMap_append]
            have h1' : [xx].flatMap (kidL cs r ns) = kidL cs r ns xx := by simp
            rw [h1', ← hkid]
            refine Paired.mono hus4 fun a x h => ?_
            show _ = _
            have hw4 := e4 _ _ (Ne.symm npg) hlw
            rw [upd_ne (ne_of h hw4 (by intro z; cases z))]
            exact h
      · rintro ys σ H2 ⟨e2, rfl, us, b5, b6, b7, b8, rfl, hg2, hus⟩
        have htl := Paired.length hts
        rw [List.length_map, htl, List.take_length] at hus ⊢
        refine ⟨_, rfl, e1.trans e2, ?_, pg, us, _, _, _, _, _, _, rfl, hg2, ?_⟩
        · rw [ltst_mem W hns]
          show _ = (outM cs r en i ++ (lay cs i).filter (isM cs r en)).map txtV
          rw [List.map_append]
        · rw [ltst_succ W hns]
          exact hus
    · rintro ys σ H1 ⟨e1, rfl, pa, ts, a3, a4, a5, a6, a7, a8, rfl, hpa, hts⟩
      show Q _ H1
      rw [outM_txs]
      exact k H1 e1
end
end SS

set_option maxRecDepth 100000
set_option maxHeartbeats 4000000
namespace SS
open PySem L2 SR TL
/-! ### the law's own live states -/
def hitB (fd row : List Int) : Bool := (row.map fun g => decide (g ∈ fd)).any id
def nwL (rows : List (List Int)) (fd : List Int) (i : Nat) : List Int := ((List.range i).filter fun j => !decide (Int.ofNat j ∈ fd) && hitB fd (rows.getD j [])).map Int.ofNat
theorem mem_nwL {rows : List (List Int)} {fd : List Int} {i : Nat} {q : Int} : q ∈ nwL rows fd i ↔ ∃ j : Nat, j < i ∧ q = (j : Int) ∧ q ∉ fd ∧ Hit fd (rows.getD j []) := by
  unfold nwL
  rw [List.mem_map]
  constructor
  · rintro ⟨j, hj, rfl⟩
    obtain ⟨h1, h2⟩ := List.mem_filter.mp hj
    rw [Bool.and_eq_true] at h2
    refine ⟨j, List.mem_range.mp h1, rfl, ?_, (any_dec _ _).mp h2.2⟩
    simpa using h2.1
  · rintro ⟨j, hj, rfl, h1, h2⟩
    refine ⟨j, List.mem_filter.mpr ⟨List.mem_range.mpr hj, ?_⟩, rfl⟩
    rw [Bool.and_eq_true]
    exact ⟨by simpa using h1, (any_dec _ _).mpr h2⟩
theorem outer_step {rows : List (List Int)} {G : Int → Prop} {ends fd : List Int} {i : Nat} (hG : ∀ (a : Nat) row g, rows[a]? = some row → g ∈ row → G g → G (a : Int)) (O : Outer rows G ends i fd) : Outer rows G ends (i + 1) (fd ++ nwL rows fd rows.length) := by
  have hrow : ∀ j : Nat, j < rows.length → rows[j]? = some (rows.getD j []) := fun j hj => by rw [List.getD_eq_getElem?_getD, List.getElem?_eq_getElem hj]; rfl
  refine ⟨⟨?_, fun q hq => ?_, fun q hq => ?_, fun e he => List.mem_append_left _ (O.snd.all e he)⟩, ?_⟩
  · refine List.nodup_append.mpr ⟨O.snd.nd, ?_, fun a ha b hb e => ?_⟩
    · unfold nwL
      exact List.Pairwise.map (R := fun a b => a ≠ b) _ (fun a b hab e => hab (Int.ofNat.inj e)) (List.nodup_range.filter _)
    · obtain ⟨j, _, _, h, _⟩ := mem_nwL.mp hb
      exact h (e ▸ ha)
  · rcases List.mem_append.mp hq with z | z
    · exact O.snd.bd q z
    · obtain ⟨j, hj, rfl, _⟩ := mem_nwL.mp z
      omega
  · rcases List.mem_append.mp hq with z | z
    · exact O.snd.good q z
    · obtain ⟨j, hj, rfl, _, g, hg, hgf⟩ := mem_nwL.mp z
      exact hG j _ g (hrow j hj) hg (O.snd.good g hgf)
  · have stop : Closed rows fd → nwL rows fd rows.length = [] := fun c => by
      cases e : nwL rows fd rows.length with
      | nil => rfl
      | cons q l =>
        have hq : q ∈ nwL rows fd rows.length := by rw [e]; exact List.mem_cons_self
        obtain ⟨j, hj, rfl, hn, hh⟩ := mem_nwL.mp hq
        exact absurd (c j _ (hrow j hj) hh) hn
    by_cases h : nwL rows fd rows.length = []
    · rw [h, List.append_nil]
      refine .inl fun j row hr hh => Classical.byContradiction fun hn => ?_
      have hj := (List.getElem?_eq_some_iff.mp hr).1
      have : ((j : Nat) : Int) ∈ nwL rows fd rows.length := mem_nwL.mpr ⟨j, hj, rfl, hn, by rw [List.getD_eq_getElem?_getD, hr]; exact hh⟩
      rw [h] at this
      cases this
    · rcases O.more with z | z
      · exact absurd (stop z) h
      · refine .inr ?_
        rw [List.length_append]
        have : 0 < (nwL rows fd rows.length).length := List.length_pos_iff.mpr h
        omega
section
variable {P : Program} {w : World} {K : PySem.W.Frag} {mg : Str → Option Value} {base : Heap}
abbrev sLive : Stmt := top 41
abbrev nLive : List Str := ["_law_machine", "_law_found", "_law_turn", "_law_at", "_law_line", "_law_goal"]
theorem scLive : FnScope nLive ["_law_machine"] (defScope sLive) := ⟨rfl, rfl, rfl, by decide +kernel, rfl, by decide +kernel, by decide +kernel⟩
def spLive : Sp := fun vs H Q _ => ∃ (t : Addr) (cs : List Nat) (rows : List (List Int)) (ends : List Int), vs = [.ref t] ∧ Abc cs ∧ WfM cs rows ends ∧ Mach H cs t rows ends ∧
  ∀ (fd : List Int) (p : Addr) (H' : Hp), (∀ q, 0 ≤ q → q < (rows.length : Int) → (q ∈ fd ↔ Leads cs rows ends q)) → fd.length ≤ 40 → H p = none → Same H H' → H' p = some (.lst (fd.map .int)) → Q (.ref p) H'
theorem ok_live {f : Addr} {fd : FuncData} (F : Fun K "_law_live" "_law_live" sLive f fd) (B : Bl mg) : FnOk P w K mg base CX0 1 f fd ["_law_machine"] spLive := by
  refine F.ok scLive (fun vs H Q E h => ?_) (fun cdv A outer s H vs Q E hr h => ?_)
  · obtain ⟨t, cs, rows, ends, rfl, _⟩ := h
    rfl
  · obtain ⟨t, cs, rows, ends, rfl, ha, W, ⟨pr, pe, qs, h1, h2, h3, h4⟩, k⟩ := h
    have nd : cs.Nodup := ris_nodup ha.ris
    refine ⟨_, pss_cons (ps_set (i := 1) scLive.nd rfl (.inr rfl) (pe_callTy call_list_of (by rfl) B.list (by decide +kernel) (pa_cons (pe_ix ix_tup (pv 0) pe_int (fun _ _ => rfl)) pa_nil)))
      (pss_cons (ps_for PassesOwn.never rfl (pi_range1 (by rfl) B.range (pa_cons (pe_callB call_len_seq (by rfl) B.len boot_len (pa_cons (pe_ix ix_tup (pv 0) pe_int (fun _ _ => rfl)) pa_nil)) pa_nil)) (pg_name (i := 2) scLive.nd rfl (.inl rfl))
        (pss_one (ps_set (i := 1) scLive.nd rfl (.inr rfl) (pe_op op_cat (pv 1) (pe_lc (own := [("_law_at", 3), ("_law_line", 4)]) (g := gTup K 2 (gCons (gName 3) (gCons (gName 4) gNil))) (tt := tAnd (tTest (tOp (rIn K true) (tVar 3) (tVar 1))) (tB (tCB (rAny K) (tCons (tLockE (tLc (iVals (tVar 4)) (gName 5) tYes (tOp (rIn K false) (tVar 5) (tVar 1)) [5])) tNil)))) (te := tVar 3) rfl scLive.nd
            (pi_enum (by rfl) B.enumerate (pa_cons (pe_ix ix_tup (pv 0) pe_int (fun _ _ => rfl)) pa_nil)) (blkOk_by (by kernel_rfl)) (fun _ _ _ _ _ => pg_tup rfl (pgs_cons (pg_name (i := 3) scLive.nd rfl (.inl rfl)) (pgs_cons (pg_name (i := 4) scLive.nd rfl (.inl rfl)) pgs_nil)))
            (fun _ _ _ _ _ => pts_one (PW.pt (pw_and (pt_cmpR op_notIn_seq (pv 3) (pv 1) (by rfl)) (pw_and1 (pt_val (pe_callB (cr_any rfl) (by rfl) B.any (by decide +kernel) (pa_cons (pe_lock (pe_lc (own := [("_law_goal", 5)]) (g := gName 5) (tt := tYes) (te := tOp (rIn K false) (tVar 5) (tVar 1)) rfl scLive.nd (pi_values (pv 4)) (blkOk_by (by kernel_rfl))
              (fun _ _ _ _ _ => pg_name (i := 5) scLive.nd rfl (.inl rfl)) (fun _ _ _ _ _ => pts_nil) (fun _ _ _ _ _ => pe_cmpR op_in_seq (pv 5) (pv 1) (by rfl)))) pa_nil)))))))
            (fun _ _ _ _ _ => pv 3))))))
      (pss_one (ps_ret (pv 1)))), ?_⟩
    have hql : qs.length = rows.length := Paired.length h3
    have h5 := W.five
    refine ⟨_, rfl, t, _, _, _, rfl, rfl, SqT.of h1, rfl, pe, _, rfl, .inl (SqL.of h4), fun pf hpf => ?_⟩
    have e0 : Same H (upd H pf (.lst (ends.map .int))) := same_new hpf
    have hcl : cs.length ≤ 1000 := by have := ha.four; omega
    refine ⟨_, rfl, t, _, _, _, rfl, rfl, SqT.of (e0 _ _ h1), rfl, pr, _, rfl, .inl (SqL.of (e0 _ _ h2)), _, rfl, (by rw [List.length_map]; omega), (by rw [List.length_map]; omega), for_it (walk_range (lo := 0)) (fun i σ H' => Same H H' ∧ ∃ pf fd a2 a3 a4 a5, σ = [some (.ref t), some (.ref pf), a2, a3, a4, a5] ∧ H pf = none ∧ H' pf = some (.lst (fd.map .int)) ∧ Outer rows (Leads cs rows ends) ends i fd) ?_ (fun _ _ _ _ _ => trivial) ?_ ?_⟩
    · exact ⟨e0, pf, ends, none, none, none, none, rfl, hpf, upd_same, ⟨W.nd, W.fin, fun q hq => ⟨[], (fun _ h => nomatch h), hq⟩, fun _ h => h⟩, .inr (Nat.zero_le _)⟩
    · rintro i v σ H1 H1' hi ⟨e1, pf, fd, a2, a3, a4, a5, rfl, hpfn, hf, O⟩ ⟨rfl, rfl⟩
      have hfl := O.snd.len
      refine ⟨_, rfl, _, rfl, t, _, _, _, rfl, rfl, SqT.of (e1 _ _ h1), rfl, pr, _, rfl, SqL.of (e1 _ _ h2), fun D hD => lc_S (walk_enum (K := K) (a := pr) (xs := qs.map .ref)) hD (by rw [List.length_map]; omega) (fun j acc _ => acc = (nwL rows fd j).map .int) (fun _ _ _ _ _ _ _ h => h) rfl (fun H' e' => SqL.of (e' _ _ (e1 _ _ h2))) ?_ ?_⟩
      · rintro j v H2 H2' acc Qt Qf hj e2 hd rfl ⟨T, x, y, rfl, hT, rfl, ex, ey⟩ kt kf
        rw [List.length_map] at hj
        cases ex
        dsimp only at ey
        rw [List.getElem?_map] at ey
        obtain ⟨q, hq, rfl⟩ := Option.map_eq_some_iff.mp ey
        have hjr : j < rows.length := by omega
        obtain ⟨q', hq', hrow⟩ := paired_get j h3 (List.getElem?_eq_getElem hjr)
        rw [hq] at hq'
        cases hq'
        have hrj := List.getElem?_eq_getElem hjr
        generalize rows[j] = row at hrow hrj
        have hl := (W.row row (List.mem_of_getElem? hrj)).1
        have hgd : rows.getD j [] = row := by rw [List.getD_eq_getElem?_getD, hrj]; rfl
        have e2T : Same H2 (upd H2 T (.tup [.int (j : Nat), .ref q])) := same_new hT
        have hf3 := e2T _ _ (e2 _ _ hf)
        have hd3 := e2T _ _ (e2 _ _ (e1 _ _ hrow))
        have en : nwL rows fd (j + 1) = if (!decide (Int.ofNat j ∈ fd) && hitB fd row) = true then nwL rows fd j ++ [(j : Int)] else nwL rows fd j := by
          unfold nwL
          rw [List.range_succ, List.filter_append, List.map_append]
          cases hb : (!decide (Int.ofNat j ∈ fd) && hitB fd row) with
          | true =>
            rw [if_pos rfl, List.filter_cons_of_pos (by show (!decide (Int.ofNat j ∈ fd) && hitB fd (rows.getD j [])) = true; rw [hgd]; exact hb)]
            rfl
          | false =>
            rw [if_neg Bool.false_ne_true, List.filter_cons_of_neg (by show ¬ (!decide (Int.ofNat j ∈ fd) && hitB fd (rows.getD j [])) = true; rw [hgd, hb]; exact Bool.false_ne_true)]
            simp
        refine ⟨T, _, rfl, SqT.of upd_same, rfl, _, _, rfl, _, _, rfl, rfl, rfl, ?_⟩
        refine ⟨_, rfl, _, rfl, pf, _, rfl, .inl (SqL.of hf3), rfl, flat_ints _, _, rfl, ?_⟩
        show (if (!inV (.int (j : Nat)) (fd.map .int)) = true then _ else _)
        rw [inV_ints]
        by_cases hm : Int.ofNat j ∈ fd
        · rw [show decide (((j : Nat) : Int) ∈ fd) = true from decide_eq_true hm]
          refine kf _ e2T ?_
          rw [en, if_neg (by rw [show decide (Int.ofNat j ∈ fd) = true from decide_eq_true hm]; simp)]
        · rw [show decide (((j : Nat) : Int) ∈ fd) = false from decide_eq_false hm]
          refine vals_in (K := K) hd3 hl hcl hf3 (fun _ => rfl) (fun _ => rfl) (fun _ => rfl) rfl fun D' H4 e4 hD' => ?_
          refine ⟨D', _, rfl, SqL.of hD', _, rfl, ?_⟩
          show (if hitB fd row = true then _ else _)
          cases hh : hitB fd row with
          | true =>
            refine ⟨_, rfl, kt _ _ (e2T.trans e4) ?_⟩
            rw [en, hh, if_pos (by rw [show decide (Int.ofNat j ∈ fd) = false from decide_eq_false hm]; rfl), List.map_append]
            rfl
          | false =>
            refine kf _ (e2T.trans e4) ?_
            rw [en, hh, if_neg (by simp)]
      · rintro H2 acc e2 hd rfl
        rw [List.length_map, hql] at hd
        have hnl : (nwL rows fd rows.length).length ≤ rows.length := by
          unfold nwL
          rw [List.length_map]
          refine Nat.le_trans (List.length_filter_le _ _) ?_
          rw [List.length_range]
          exact Nat.le_refl _
        refine ⟨pf, D, _, _, rfl, rfl, e2 _ _ hf, hd, ?_, fun p hp => ?_⟩
        · rw [List.length_map, List.length_map, sizeLine_eq]
          omega
        · have hpH : H p = none := e1.free (e2.free hp)
          refine ⟨e1.trans (e2.trans (same_new hp)), p, fd ++ nwL rows fd rows.length, _, _, _, _, rfl, hpH, ?_, outer_step (leads_back W nd) O⟩
          rw [upd_same, List.map_append]
    · rintro σ H1 ⟨e1, pf, fd, a2, a3, a4, a5, rfl, hpfn, hf, O⟩
      have O' : Outer rows (Leads cs rows ends) ends rows.length fd := by
        rw [List.length_map, Int.toNat_natCast, hql] at O
        exact O
      exact ⟨_, rfl, k fd pf H1 (fun q a b => O'.leads W a b) (Nat.le_trans O'.snd.len h5) hpfn e1 hf⟩
/-! ### _law_spot -/
abbrev sSpt : Stmt := top 44
abbrev nSpt : List Str := ["_law_machine", "_law_note", "_law_spot_here", "_law_letter"]
theorem scSpt : FnScope nSpt ["_law_machine", "_law_note"] (defScope sSpt) := ⟨rfl, rfl, rfl, by decide +kernel, rfl, by decide +kernel, by decide +kernel⟩
def spSpt : Sp := fun vs H Q _ => ∃ (t : Addr) (x cs : List Nat) (rows : List (List Int)) (ends : List Int), vs = [.ref t, .str (txt x)] ∧ WfM cs rows ends ∧ Mach H cs t rows ends ∧ (∀ c ∈ x, c ∈ cs) ∧ Q (.int (run cs rows 0 x)) H
theorem ok_spt {f : Addr} {fd : FuncData} (F : Fun K "_law_spot" "_law_spot" sSpt f fd) : FnOk P w K mg base CX0 1 f fd ["_law_machine", "_law_note"] spSpt := by
  refine F.ok scSpt (fun vs H Q E h => ?_) (fun cdv A outer s H vs Q E hr h => ?_)
  · obtain ⟨t, x, cs, rows, ends, rfl, _⟩ := h
    rfl
  · obtain ⟨t, x, cs, rows, ends, rfl, W, ⟨pr, pe, qs, h1, h2, h3, h4⟩, hx, k⟩ := h
    have hu := hu_of hr
    have hone := W.one
    refine ⟨_, pss_cons (ps_set (i := 2) scSpt.nd rfl (.inl rfl) pe_int)
      (pss_cons (ps_for PassesOwn.never rfl (pi_str (pv 1)) (pg_name (i := 3) scSpt.nd rfl (.inl rfl))
        (pss_one (ps_set (i := 2) scSpt.nd rfl (.inl rfl) (pe_dget hu (pe_ix ix_list (pe_ix ix_tup (pv 0) pe_int (fun _ _ => rfl)) (pv 2) (fun _ _ => rfl)) (pv 3) (fun _ _ => rfl)))))
      (pss_one (ps_ret (pv 2)))), ?_⟩
    refine ⟨_, rfl, _, rfl, for_it walk_str (fun i σ H' => H' = H ∧ ∃ a3, σ = [some (.ref t), some (.str (txt x)), some (.int (run cs rows 0 (x.take i))), a3]) ⟨rfl, _, rfl⟩ (fun _ _ _ _ _ => trivial) ?_ ?_⟩
    · rintro i v σ H1 H2 hi ⟨rfl, a3, rfl⟩ ⟨rfl, c, hc, rfl⟩
      have hc' : x[i]? = some c := by simpa [txt] using hc
      have hm : c ∈ x := List.mem_of_getElem? hc'
      obtain ⟨s0, s1⟩ := W.run_ok (x.take i) 0 (Int.le_refl _) (by omega) fun d hd => hx d (List.mem_of_mem_take hd)
      obtain ⟨row, e1, e2, e3, _⟩ := W.nxt_ok s0 s1 (hx c hm)
      obtain ⟨p, hp, hrow⟩ := paired_get _ h3 e1
      refine ⟨_, rfl, t, _, _, _, rfl, rfl, SqT.of h1, rfl, _, rfl, pr, _, _, .ref p, rfl, rfl, SqL.of h2, atI_of s0 (by rw [List.getElem?_map, hp]; rfl), _, rfl, p, .int (nxt cs rows (run cs rows 0 (x.take i)) c), rfl, ?_, rfl, some (ltV c), ?_⟩
      · rw [e3, ← val_row e2 (hx c hm)]
        exact DGet.k (k := Sum.inr (lt c)) hrow
      · have et : x.take (i + 1) = x.take i ++ [c] := by rw [List.take_add_one, hc']; rfl
        rw [et, run_app]
        rfl
    · rintro σ H1 ⟨rfl, a3, rfl⟩
      have hz : (txt x).cps.size = x.length := by simp [txt]
      rw [hz, List.take_length]
      exact ⟨_, rfl, k⟩
/-! ### _law_state -/
abbrev sStt : Stmt := top 45
abbrev nStt : List Str := ["_law_made", "_law_note", "_law_spot_here", "_law_letter"]
theorem scStt : FnScope nStt ["_law_made", "_law_note"] (defScope sStt) := ⟨rfl, rfl, rfl, by decide +kernel, rfl, by decide +kernel, by decide +kernel⟩
def spStt (C : Addr) : Sp := fun vs H Q _ => ∃ (o : Addr) (x cs : List Nat) (r : List (List Int)) (en ns : List Int), vs = [.ref o, .str (txt x)] ∧ LangR C H o cs r en ns ∧ WfM cs r en ∧ (∀ c ∈ x, c ∈ cs) ∧ Q (.int (run cs r 0 x)) H
theorem ok_stt {f C : Addr} {fd : FuncData} (F : Fun K "_law_state" "_law_state" sStt f fd) (G : Lg P w K mg base C) : FnOk P w K mg base CX0 4 f fd ["_law_made", "_law_note"] (spStt C) := by
  obtain ⟨g, gd, mM, mF, mB⟩ := G.mov
  refine F.ok scStt (fun vs H Q E h => ?_) (fun cdv A outer s H vs Q E hr h => ?_)
  · obtain ⟨o, x, cs, r, en, ns, rfl, _⟩ := h
    rfl
  · obtain ⟨o, x, cs, r, en, ns, rfl, L, W, hx, k⟩ := h
    have hone := W.one
    obtain ⟨dx, pt, pm, pl, fs, h1, h2, h3, h4, h5, h6, h7, h8, h9⟩ := L.ex
    refine ⟨_, pss_cons (ps_set (i := 2) scStt.nd rfl (.inl rfl) pe_int)
      (pss_cons (ps_for PassesOwn.never rfl (pi_str (pv 1)) (pg_name (i := 3) scStt.nd rfl (.inl rfl))
        (pss_one (ps_set (i := 2) scStt.nd rfl (.inl rfl) (pe_meth (pv 0) G.tx.cl mM mF hr mB .nil pass0 (pa_cons (pv 2) (pa_cons (pv 3) pa_nil))))))
      (pss_one (ps_ret (pv 2)))), ?_⟩
    refine ⟨_, rfl, _, rfl, for_it walk_str (fun i σ H' => H' = H ∧ ∃ a3, σ = [some (.ref o), some (.str (txt x)), some (.int (run cs r 0 (x.take i))), a3]) ⟨rfl, _, rfl⟩ (fun _ _ _ _ _ => trivial) ?_ ?_⟩
    · rintro i v σ H1 H2 hi ⟨rfl, a3, rfl⟩ ⟨rfl, c, hc, rfl⟩
      have hc' : x[i]? = some c := by simpa [txt] using hc
      have hm : c ∈ x := List.mem_of_getElem? hc'
      obtain ⟨s0, s1⟩ := W.run_ok (x.take i) 0 (Int.le_refl _) (by omega) fun d hd => hx d (List.mem_of_mem_take hd)
      refine ⟨_, rfl, o, dx, fs, rfl, h1, h6 _ (by decide +kernel) (by decide +kernel) (by decide +kernel) (by decide +kernel), _, rfl, _, rfl, o, _, c, cs, r, en, ns, rfl, L, W, s0, s1, rfl, some (ltV c), ?_⟩
      have et : x.take (i + 1) = x.take i ++ [c] := by rw [List.take_add_one, hc']; rfl
      unfold mvV
      rw [if_pos (hx c hm), et, run_app]
      rfl
    · rintro σ H1 ⟨rfl, a3, rfl⟩
      have hz : (txt x).cps.size = x.length := by simp [txt]
      rw [hz, List.take_length]
      exact ⟨_, rfl, k⟩
end
end SS

set_option maxRecDepth 100000
set_option maxHeartbeats 4000000
/-! zip(text, list) -/
namespace SR
open PySem PySem.Spec PyProof.Rows L2
/-- a text and a list side by side, the items in new pairs -/
def ItTL (K : PySem.W.Frag) (z : Str) (b : Addr) : It :=
  ⟨fun i H => ∃ (ys : List V) (c : Nat) (y : V), SqL K H b ys ∧ z.cps[i]? = some c ∧ ys[i]? = some y,
    fun i H v H' => ∃ T c y, v = .ref T ∧ H T = none ∧ H' = upd H T (.tup [.str ⟨#[c]⟩, y]) ∧ z.cps[i]? = some c ∧ ∀ ys, SqL K H b ys → ys[i]? = some y,
    fun i H => ∃ ys : List V, SqL K H b ys ∧ i ≤ z.cps.size ∧ i ≤ ys.length ∧ (i = z.cps.size ∨ i = ys.length)⟩
structure TLApart (z TI TO i1 i2 b : Addr) : Prop where
  sep : ZipSep2 z TI TO i1 i2 [i1] [i2, b]
  bi : b ≠ i2
theorem turnTL {P : Program} {w : World} {K : PySem.W.Frag} {elts : List Expr} {kk : Nat} {tpos : Pos} {b z TI TO i1 i2 : Addr} {x : Str} {t : Tok} (D : TLApart z TI TO i1 i2 b) :
    Turn P w K (.Tuple elts kk tpos) (ItTL K x b) [z, TI, TO, i1, i2] z (fun i h => IsZip h z TI TO .none ∧ IsTupOf2 h TI (.ref i1) (.ref i2) ∧ (∃ x y, IsTupOf2 h TO x y) ∧ h.IsStrIter i1 (strIterType x) x t i ∧ h.IsListIter i2 b i) where
  mem := by simp
  obj := fun i h st c hc => by
    obtain ⟨hz, hTI, ⟨x, y, hTO⟩, ⟨o1, e1, _, d1⟩, ⟨o2, e2, _, d2⟩⟩ := st
    have e' : c = z ∨ c = TI ∨ c = TO ∨ c = i1 ∨ c = i2 := by simpa using hc
    rcases e' with q | q | q | q | q
    · rw [q]; exact ⟨_, hz, fun v q => nomatch q⟩
    · rw [q]; exact ⟨_, hTI, fun v q => nomatch q⟩
    · rw [q]; exact ⟨_, hTO, fun v q => nomatch q⟩
    · rw [q]; exact ⟨o1, e1, fun v q => by rw [d1] at q; cases q⟩
    · rw [q]; exact ⟨o2, e2, fun v q => by rw [d2] at q; cases q⟩
  keep := fun i h h' st k => by
    obtain ⟨hz, hTI, ⟨x, y, hTO⟩, ⟨o1, e1, r1⟩, h2⟩ := st
    exact ⟨k z (by simp) _ hz, k TI (by simp) _ hTI, ⟨x, y, k TO (by simp) _ hTO⟩, ⟨o1, k i1 (by simp) _ e1, r1⟩, h2.at fun o q => k i2 (by simp) o q⟩
  item := by
    intro X hP hw hK hc i pins s σ H E I hf st hg
    subst hP hw hK
    obtain ⟨hz, hTI, ⟨x0, y0, hTO⟩, h1, h2⟩ := st
    obtain ⟨ys, cc, y, hqy, hx, hy⟩ := hg
    obtain ⟨its2, rv2, p2, _⟩ := I.list hqy
    obtain ⟨u2, hu2, ru2⟩ := rv2.get hy
    have hh := I.ok.hd hc
    have hzl : z < s.heap.objs.size := Heap.lt_size hz
    have hlt1 : i < x.cps.size := (Array.getElem?_eq_some_iff.mp hx).1
    have hlt2 : i < its2.toArray.size := by
      have := (List.getElem?_eq_some_iff.mp hu2).1
      simpa using this
    refine wpAny_pyNext_zipD2_item (A := X.A) D.sep (Draws.text (A := X.A.in1) hh i1 x t) (Draws.list (A := X.A.in1) hh i2 b D.bi its2.toArray) hz hTI hTO h1 ⟨h2, p2.isList⟩ hlt1 hlt2 fun x1 x2 h' tk hx1 hx2 z' TO' s1 s2 hT hsz hk => ?_
    obtain ⟨c1, tk1, hc1, rfl⟩ := hx1
    rw [hx] at hc1
    cases hc1
    have hx2' : x2 = u2 := by
      rw [show its2.toArray[i]? = its2[i]? by simp, hu2] at hx2
      exact (Option.some.inj hx2).symm
    subst hx2'
    refine ⟨_, rfl, wpAny_letOwnedTupleGo_zip (s := { s with heap := h', toks := tk }) z' fun h'' z'' sb => ?_⟩
    have hT2 : h''.get? s.heap.objs.size = some { cls := .type "tuple", data := .seq #[.str ⟨#[cc]⟩ tk1, x2] } := (sb.2 _ (Nat.ne_of_gt hzl)).trans hT
    have new : ObjOk X.prog X.w (upd H s.heap.objs.size (.tup [.str ⟨#[cc]⟩, y])) h'' s.heap.objs.size (.tup [.str ⟨#[cc]⟩, y]) := ⟨by show 2 ≤ sizeLine; decide, [.str ⟨#[cc]⟩ tk1, x2], .cons ⟨tk1, rfl⟩ (.cons ru2 .nil), ⟨_, hT2, rfl, _, rfl⟩⟩
    have I1 : Inv X pins σ (upd H s.heap.objs.size (.tup [.str ⟨#[cc]⟩, y])) { s with heap := h'', toks := tk } :=
      I.turnedNew (t' := tk) (ch := [z, TI, TO, i1, i2]) (fun c o hb q => (sb.2 c (fun q' => hb (by simp [q']))).trans (hk c o (fun q' => hb (by simp [q'])) (fun q' => hb (by simp [q'])) (fun q' => hb (by simp [q'])) (fun q' => hb (by simp [q'])) q)) hf (Nat.le_refl _) new
    obtain ⟨o1, e1, r1⟩ := s1
    refine ⟨.ref s.heap.objs.size, _, I1, rfl, ⟨_, cc, y, rfl, I.hok.fresh (Nat.le_refl _), rfl, hx, fun l hl => by rw [I.list_inj hl hqy]; exact hy⟩,
      ⟨z'', (sb.2 _ D.sep.TIz).trans (hk _ _ D.sep.TIz D.sep.TITO D.sep.TIi1 D.sep.TIi2 hTI), ⟨_, _, (sb.2 _ D.sep.TOz).trans TO'⟩, ⟨o1, (sb.2 _ (Ne.symm D.sep.zi1)).trans e1, r1⟩, s2.1.at fun o q => (sb.2 _ (Ne.symm D.sep.zi2)).trans q⟩, fun c hcm => ?_⟩
    have hlt : c < s.heap.objs.size := by
      have e' : c = z ∨ c = TI ∨ c = TO ∨ c = i1 ∨ c = i2 := by simpa using hcm
      rcases e' with rfl | rfl | rfl | rfl | rfl
      · exact hzl
      · exact Heap.lt_size hTI
      · exact Heap.lt_size hTO
      · obtain ⟨_, e1, _⟩ := h1; exact Heap.lt_size e1
      · obtain ⟨_, e2, _⟩ := h2; exact Heap.lt_size e2
    rw [upd_ne (Nat.ne_of_lt hlt)]
    exact (hf c hcm).1
  done := by
    intro X hP hw hK hc i pins s σ H E I hf st hg
    subst hP hw hK
    obtain ⟨hz, hTI, ⟨x0, y0, hTO⟩, h1, h2⟩ := st
    obtain ⟨ys, hqy, l1, l2, ex⟩ := hg
    obtain ⟨its2, rv2, p2, _⟩ := I.list hqy
    have l3 := rv2.length
    have hh := I.ok.hd hc
    exact wpAny_pyNext_zipD2_end (A := X.A) D.sep (Draws.text (A := X.A.in1) hh i1 x t) (Draws.list (A := X.A.in1) hh i2 b D.bi its2.toArray) hz hTI hTO h1 ⟨h2, p2.isList⟩ l1 (by simp; omega) (by simp; omega) fun h' tk hk => ⟨rfl, I.turnedL (t' := tk) (ch := [z, TI, TO, i1, i2]) (fun c o hb q =>
      hk c o (fun q' => hb (by simp [q'])) (fun q' => hb (by simp [q'])) (fun q' => hb (by simp [q'])) (fun q' => hb (by simp [q'])) q) hf⟩
  self := fun A i s Q E st h => wpAny_pyIter_zip st.1 h
def iZipTL (K : PySem.W.Frag) (ta : TA) : TI := fun σ H R => ta σ H fun vs H1 => ∃ z b ys, vs = [.str z, .ref b] ∧ SqL K H1 b ys ∧ R (ItTL K z b) H1
theorem pi_zipTL {X : Cx} {e e2 : Expr} {ta : TA} {p pos tpos : Pos} {elts : List Expr} {kk : Nat} (hg : Gl X "zip") (hm : X.mg "zip" = none) (ha : PA X [e, e2] ta)
    (he : starEach [e, e2] X.env = (false, eval e X.env) :: starEach [e2] X.env := by rfl) (hpl : (backTo pos (starEach [e2] X.env)).any (·.1) = false := by rfl) :
    PI X (.Tuple elts kk tpos) (.Call (.Name "zip" p) [e, e2] [] pos) (iZipTL X.K ta) := by
  refine ⟨fun pins s σ H R I h => ?_⟩
  refine Call_ (ld_blt I hg hm PyProof.Rows.boot_zip (PyProof.Rows.callWith_type1 (thn (ha.run pos pins s σ H _ I h) fun us s2 ⟨vs, H1, I2, r1, q1⟩ => ?_) he hpl))
  obtain ⟨z, b, ys, ex, hqy, q⟩ := q1
  subst ex
  obtain ⟨u1, u2, rfl, ra, rb⟩ := vals2 r1
  obtain ⟨t, rfl⟩ := ra
  cases (show u2 = Value.ref b from rb)
  obtain ⟨its2, rv2, p2, _⟩ := I2.list hqy
  have lb : b < s2.heap.objs.size := p2.lt
  refine zip_begins2 (begins_text z t) (begins_list b its2.toArray) trivial p2.isList fun h' hz hTI hTO h1 h2 hsz hk => wpAny_pyIter_zip hz ?_
  have I3 : Inv X pins σ H1 { s2 with heap := h' } := I2.kept (t' := s2.toks) hk
  have D : TLApart (s2.heap.objs.size + 4) (s2.heap.objs.size + 2) (s2.heap.objs.size + 3) s2.heap.objs.size (s2.heap.objs.size + 1) b := ⟨zip_sep2 (fp1 := []) (fp2 := [b]) (fun _ h => nomatch h) (fun c hc => by rw [List.mem_singleton.mp hc]; exact lb), Nat.ne_of_lt (Nat.lt_succ_of_lt lb)⟩
  refine ⟨s2.heap.objs.size + 4, [s2.heap.objs.size + 4, s2.heap.objs.size + 2, s2.heap.objs.size + 3, s2.heap.objs.size, s2.heap.objs.size + 1], _, _, _, rfl, I3, turnTL (t := t) D, ⟨hz, hTI, ⟨_, _, hTO⟩, ⟨_, h1, rfl, rfl⟩, ⟨_, h2, rfl, rfl⟩⟩, fun c hcm => ?_, q⟩
  have e' : c = s2.heap.objs.size + 4 ∨ c = s2.heap.objs.size + 2 ∨ c = s2.heap.objs.size + 3 ∨ c = s2.heap.objs.size ∨ c = s2.heap.objs.size + 1 := by simpa using hcm
  have hle : s2.heap.objs.size ≤ c := by
    rcases e' with z | z | z | z | z <;> rw [z] <;> first | exact Nat.le_refl _ | exact Nat.le_add_right _ _
  exact I2.fpOk hle (I2.hok.fresh hle)
theorem walkTL {K : PySem.W.Frag} {z : Str} {b : Addr} {ys : List V} {n : Nat} (h1 : z.cps.size = n) (h2 : ys.length = n) : Walk (ItTL K z b) n (fun H => SqL K H b ys) (YPair (fun i => z.cps[i]?.map fun c => .str ⟨#[c]⟩) (fun i => ys[i]?)) := by
  refine ⟨fun i _ hi q => ?_, fun _ q => ⟨ys, q, by omega, by omega, by omega⟩, fun i H v H' _ q y => ?_⟩
  · have q1 : i < z.cps.size := by omega
    have q2 : i < ys.length := by omega
    exact ⟨ys, z.cps[i], ys[i], q, by simp [q1], by simp [q2]⟩
  · obtain ⟨T, c, y, g1, g2, g3, g4, g5⟩ := y
    exact ⟨T, _, y, g1, g2, g3, by dsimp only; rw [g4]; rfl, g5 ys q⟩
end SR

set_option maxRecDepth 100000
set_option maxHeartbeats 4000000
set_option pp.maxSteps 1500
namespace SS
open PySem L2 SR TL
/-! ### each state several times, in drawn order -/
structure Perm0 (N : Nat) (od : List Int) : Prop where
  len : od.length = N
  nd : od.Nodup
  rg : ∀ q ∈ od, 0 ≤ q ∧ q < (N : Int)
  hd : ∃ t, od = 0 :: t
theorem Perm0.all {N : Nat} {od : List Int} (p : Perm0 N od) {g : Int} (g0 : 0 ≤ g) (g1 : g < (N : Int)) : g ∈ od := by
  have := all_of_long N od p.nd p.rg (by have := p.len; omega) g.toNat (by omega)
  rwa [Int.toNat_of_nonneg g0] at this
/-- where a number stands -/
theorem Perm0.idx {N : Nat} {od : List Int} (p : Perm0 N od) {g : Int} (g0 : 0 ≤ g) (g1 : g < (N : Int)) : od[od.idxOf g]? = some g ∧ od.idxOf g < N := by
  have hm := p.all g0 g1
  have hl := List.idxOf_lt_length_of_mem hm
  refine ⟨by rw [List.getElem?_eq_getElem hl, List.getElem_idxOf], by have := p.len; omega⟩
def phi (od : List Int) (L : Nat) (k : Int) : Int := od.getD k.toNat 0 % (L : Int)
def ends2 (od : List Int) (L : Nat) (ends : List Int) (n : Nat) : List Int := ((List.range n).filter fun k => decide (od.getD k 0 % (L : Int) ∈ ends)).map Int.ofNat
/-- a row that leads where the row of k does, to some copy -/
def RowD (cs : List Nat) (rows : List (List Int)) (od : List Int) (tm k : Nat) (row2 : List Int) : Prop := row2.length = cs.length ∧ ∀ (i : Nat) (g : Int), row2[i]? = some g → ∃ b : Int, 0 ≤ b ∧ b < (tm : Int) ∧ g = ((od.idxOf ((rows.getD (od.getD k 0 % (rows.length : Int)).toNat []).getD i 0 + (rows.length : Int) * b) : Nat) : Int)
theorem dup_of {cs : List Nat} {rows rows2 : List (List Int)} {ends od : List Int} {tm : Nat} (W : WfM cs rows ends) (ht : 1 ≤ tm) (h40 : rows.length * tm ≤ 40) (p : Perm0 (rows.length * tm) od) (h2 : rows2.length = rows.length * tm) (hrow : ∀ (k : Nat) row2, rows2[k]? = some row2 → RowD cs rows od tm k row2) :
    WfM cs rows2 (ends2 od rows.length ends (rows.length * tm)) ∧ Dup cs rows ends rows2 (ends2 od rows.length ends (rows.length * tm)) (phi od rows.length) := by
  have h1 := W.one
  have hN : 1 ≤ rows.length * tm := Nat.mul_le_mul h1 ht
  have hL0 : (0 : Int) < (rows.length : Int) := by omega
  have phr : ∀ k : Int, 0 ≤ phi od rows.length k ∧ phi od rows.length k < (rows.length : Int) := fun k => ⟨Int.emod_nonneg _ (by omega), Int.emod_lt_of_pos _ hL0⟩
  -- a goal lies among the numbers
  have goal : ∀ (u b : Int), 0 ≤ u → u < (rows.length : Int) → 0 ≤ b → b < (tm : Int) → 0 ≤ u + (rows.length : Int) * b ∧ u + (rows.length : Int) * b < ((rows.length * tm : Nat) : Int) := fun u b u0 u1 b0 b1 => by
    have a1 : 0 ≤ (rows.length : Int) * b := Int.mul_nonneg (by omega) b0
    have a2 : (rows.length : Int) * b ≤ (rows.length : Int) * ((tm : Int) - 1) := Int.mul_le_mul_of_nonneg_left (by omega) (by omega)
    have a3 : (rows.length : Int) * ((tm : Int) - 1) = ((rows.length * tm : Nat) : Int) - (rows.length : Int) := by
      rw [Int.mul_sub, Int.mul_one, Int.natCast_mul]
    omega
  have cell : ∀ (k i : Nat), i < cs.length → 0 ≤ (rows.getD (od.getD k 0 % (rows.length : Int)).toNat []).getD i 0 ∧ (rows.getD (od.getD k 0 % (rows.length : Int)).toNat []).getD i 0 < (rows.length : Int) := fun k i hi => by
    have m0 : 0 ≤ od.getD k 0 % (rows.length : Int) := Int.emod_nonneg _ (by omega)
    have m1 : od.getD k 0 % (rows.length : Int) < (rows.length : Int) := Int.emod_lt_of_pos _ hL0
    have hl : (od.getD k 0 % (rows.length : Int)).toNat < rows.length := by omega
    obtain ⟨w1, w2⟩ := W.row _ (List.getElem_mem hl)
    have e1 : rows.getD (od.getD k 0 % (rows.length : Int)).toNat [] = rows[(od.getD k 0 % (rows.length : Int)).toNat] := by rw [List.getD_eq_getElem?_getD (l := rows), List.getElem?_eq_getElem hl]; rfl
    rw [e1]
    have hi' : i < (rows[(od.getD k 0 % (rows.length : Int)).toNat]).length := by omega
    rw [List.getD_eq_getElem?_getD, List.getElem?_eq_getElem hi']
    exact w2 _ (List.getElem_mem hi')
  have hmem : ∀ s : Int, s ∈ ends2 od rows.length ends (rows.length * tm) ↔ 0 ≤ s ∧ s < ((rows.length * tm : Nat) : Int) ∧ phi od rows.length s ∈ ends := fun s => by
    unfold ends2
    rw [List.mem_map]
    constructor
    · rintro ⟨k, hk, rfl⟩
      obtain ⟨k1, k2⟩ := List.mem_filter.mp hk
      have := List.mem_range.mp k1
      exact ⟨by simp, by show ((k : Nat) : Int) < _; omega, of_decide_eq_true k2⟩
    · rintro ⟨s0, s1, s2⟩
      refine ⟨s.toNat, List.mem_filter.mpr ⟨List.mem_range.mpr (by omega), decide_eq_true s2⟩, ?_⟩
      show ((s.toNat : Nat) : Int) = s
      exact Int.toNat_of_nonneg s0
  have Wf : WfM cs rows2 (ends2 od rows.length ends (rows.length * tm)) := by
    refine ⟨by omega, by omega, fun row hr => ?_, ?_, fun e he => ?_⟩
    · obtain ⟨k, hk, rfl⟩ := List.getElem_of_mem hr
      obtain ⟨r1, r2⟩ := hrow k _ (List.getElem?_eq_getElem hk)
      refine ⟨r1, fun g hg => ?_⟩
      obtain ⟨i, hi, rfl⟩ := List.getElem_of_mem hg
      obtain ⟨b, b0, b1, e⟩ := r2 i _ (List.getElem?_eq_getElem hi)
      obtain ⟨u0, u1⟩ := cell k i (by omega)
      obtain ⟨g0, g1⟩ := goal _ b u0 u1 b0 b1
      obtain ⟨_, q2⟩ := p.idx g0 g1
      rw [e, h2]
      omega
    · unfold ends2
      exact List.Pairwise.map (R := fun a b => a ≠ b) _ (fun a b hab e => hab (Int.ofNat.inj e)) (List.nodup_range.filter _)
    · rw [h2]
      exact ⟨((hmem e).mp he).1, ((hmem e).mp he).2.1⟩
  refine ⟨Wf, ?_, fun s _ _ => phr s, fun s s0 s1 c hc => ?_, fun s s0 s1 => ?_⟩
  · obtain ⟨t, ht⟩ := p.hd
    unfold phi
    rw [ht]
    show (0 : Int) % _ = 0
    exact Int.zero_emod _
  · have hl : s.toNat < rows2.length := by omega
    obtain ⟨r1, r2⟩ := hrow s.toNat _ (List.getElem?_eq_getElem hl)
    have hi : cs.idxOf c < rows2[s.toNat].length := by rw [r1]; exact List.idxOf_lt_length_of_mem hc
    obtain ⟨b, b0, b1, e⟩ := r2 _ _ (List.getElem?_eq_getElem hi)
    have e1 : nxt cs rows2 s c = rows2[s.toNat][cs.idxOf c] := by
      show (rows2.getD s.toNat []).getD (cs.idxOf c) 0 = _
      rw [List.getD_eq_getElem?_getD, List.getD_eq_getElem?_getD, List.getElem?_eq_getElem hl]
      show (rows2[s.toNat][cs.idxOf c]?).getD 0 = _
      rw [List.getElem?_eq_getElem hi]
      rfl
    obtain ⟨u0, u1⟩ := cell s.toNat (cs.idxOf c) (by omega)
    obtain ⟨g0, g1⟩ := goal _ b u0 u1 b0 b1
    obtain ⟨q1, _⟩ := p.idx g0 g1
    rw [e1, e]
    show phi od rows.length _ = (rows.getD (phi od rows.length s).toNat []).getD (cs.idxOf c) 0
    unfold phi
    rw [Int.toNat_natCast, List.getD_eq_getElem?_getD (l := od) (i := od.idxOf _), q1]
    show (_ + (rows.length : Int) * b) % (rows.length : Int) = _
    rw [Int.add_mul_emod_self_left]
    exact Int.emod_eq_of_lt u0 u1
  · rw [hmem]
    exact ⟨fun h => h.2.2, fun h => ⟨s0, by omega, h⟩⟩
section
variable {P : Program} {w : World} {K : PySem.W.Frag} {mg : Str → Option Value} {base : Heap}
abbrev sDbl : Stmt := top 43
abbrev nDbl : List Str := ["_law_rng_here", "_law_machine", "_law_abc", "_law_rows", "_law_stops", "_law_many", "_law_times", "_law_left", "_law_order", "_law_k", "_law_lines", "_law_one", "_law_goals", "_law_letter", "_law_goal"]
abbrev psDbl : List Str := ["_law_rng_here", "_law_machine"]
theorem scDbl : FnScope nDbl psDbl (defScope sDbl) := ⟨rfl, rfl, rfl, by decide +kernel, rfl, by decide +kernel, by decide +kernel⟩
def spDbl : Sp := fun vs H Q _ => ∃ (r t : Addr) (cs : List Nat) (rows : List (List Int)) (ends : List Int), vs = [.ref r, .ref t] ∧ Abc cs ∧ WfM cs rows ends ∧ rows.length ≤ 5 ∧ H r = some (rngO r) ∧ Mach H cs t rows ends ∧
  ∀ (rows2 : List (List Int)) (ends2 : List Int) (φ : Int → Int) (t2 : Addr) (H' : Hp), WfM cs rows2 ends2 → Dup cs rows ends rows2 ends2 φ → Mach H' cs t2 rows2 ends2 → Same H H' → Q (.ref t2) H'
theorem ok_dbl {f : Addr} {fd : FuncData} (F : Fun K "_law_doubled" "_law_doubled" sDbl f fd) (B : Bl mg) (Bz : mg "zip" = none) (D : Cal P w K mg base "_law_draw" 1 ["_law_rng_here", "_law_many"] spDraw) : FnOk P w K mg base CX0 2 f fd psDbl spDbl := by
  refine F.ok scDbl (fun vs H Q E h => ?_) (fun cdv A outer s H vs Q E hr h => ?_)
  · obtain ⟨r, t, cs, rows, ends, rfl, _⟩ := h
    rfl
  · obtain ⟨r, t, cs, rows, ends, rfl, ha, W, h5, hR, ⟨pr, pe, qs, h1, h2, h3, h4⟩, k⟩ := h
    have hu := hu_of hr
    have nd : cs.Nodup := ris_nodup ha.ris
    refine ⟨_, pss_cons (ps_asg (pv 1) (pg_tup rfl (pgs_cons (pg_name (i := 2) scDbl.nd rfl (.inl rfl)) (pgs_cons (pg_name (i := 3) scDbl.nd rfl (.inr rfl)) (pgs_cons (pg_name (i := 4) scDbl.nd rfl (.inr rfl)) pgs_nil)))))
      (pss_cons (ps_asg (pe_tup (pa_cons (pe_callB call_len_seq (by rfl) B.len boot_len (pa_cons (pv 3) pa_nil)) (pa_cons (pe_op op_add pe_int (pe_cal D hr (pa_cons (pv 0) (pa_cons (pe_op op_fdiv pe_int (pe_callB call_len_seq (by rfl) B.len boot_len (pa_cons (pv 3) pa_nil))) pa_nil)))) pa_nil))) (pg_tup rfl (pgs_cons (pg_name (i := 5) scDbl.nd rfl (.inr rfl)) (pgs_cons (pg_name (i := 6) scDbl.nd rfl (.inr rfl)) pgs_nil))))
      (pss_cons (ps_set (i := 7) scDbl.nd rfl (.inr rfl) (pe_listRg rfl (by rfl) B.list (prg_2 (by rfl) B.range pe_int (pe_op op_mul (pv 5) (pv 6)))))
      (pss_cons (ps_set (i := 8) scDbl.nd rfl (.inr rfl) (pe_op op_cat (pe_lst (pa_cons pe_int pa_nil)) (pe_lc (own := [("_law_k", 9)]) (g := gName 9) (tt := tYes) (te := tBM K "list" rPopAt (tVar 7) (tCons (tCall spDraw [] E0 (tCons (tVar 0) (tCons (tCB (rLenQ K) (tCons (tVar 7) tNil)) tNil))) tNil)) rfl scDbl.nd (pi_range1 (by rfl) B.range (pa_cons (pe_op op_sub (pe_op op_mul (pv 5) (pv 6)) pe_int) pa_nil)) (blkOk_by (by kernel_rfl)) (fun _ _ _ _ _ => pg_name (i := 9) scDbl.nd rfl (.inl rfl)) (fun _ _ _ _ _ => pts_nil) (fun _ _ _ _ _ => pe_bm PySem.F.plainAttrs_list PySem.F.slot_list_pop PySem.F.type_list_pop mt_popAt (pv 7) (pa_cons (pe_cal D hr (pa_cons (pv 0) (pa_cons (pe_callB call_len_seq (by rfl) B.len boot_len (pa_cons (pv 7) pa_nil)) pa_nil))) pa_nil)))))
      (pss_cons (ps_set (i := 10) scDbl.nd rfl (.inl rfl) (pe_lst pa_nil))
      (pss_cons (ps_for PassesOwn.never rfl (pi_list (pv 8)) (pg_name (i := 11) scDbl.nd rfl (.inr rfl))
        (pss_cons (ps_setLc (i := 12) (own := [("_law_letter", 13)]) (g := gName 13) (tt := tYes) (te := tOp (rI0 fun i j => .int (i + j)) (tDGet (tOp (rIxL K) (tVar 3) (tOp (rI (fun _ j => 0 < j) fun i j => .int (i % j)) (tVar 11) (tVar 5))) (tVar 13)) (tOp (rI CMul fun i j => .int (i * j)) (tVar 5) (tCall spDraw [] E0 (tCons (tVar 0) (tCons (tVar 6) tNil))))) rfl scDbl.nd rfl rfl (sw_true rfl rfl rfl (by decide +kernel)) (pi_str (pv 2)) (blkOk_by (by kernel_rfl)) (fun _ _ _ _ _ => pg_name (i := 13) scDbl.nd rfl (.inl rfl)) (fun _ _ _ _ _ => pts_nil) (fun _ _ _ _ _ => pe_op op_add (pe_dget hu (pe_ix ix_list (pv 3) (pe_op op_mod (pv 11) (pv 5)) (fun _ _ => rfl)) (pv 13) (fun _ _ => rfl)) (pe_op op_mul (pv 5) (pe_cal D hr (pa_cons (pv 0) (pa_cons (pv 6) pa_nil))))))
      (pss_one (ps_expr (pe_bm PySem.F.plainAttrs_list PySem.F.slot_list_append PySem.F.type_list_append mt_append (pv 10) (pa_cons (pe_callTy (call_dictP rfl) (by rfl) B.dict (by decide +kernel) (pa_cons (pe_lc (own := [("_law_letter", 13), ("_law_goal", 14)]) (g := gTup K 2 (gCons (gName 13) (gCons (gName 14) gNil))) (tt := tYes) (te := tTup (tCons (tVar 13) (tCons (tBM K "list" (rIndex K) (tVar 8) (tCons (tVar 14) tNil)) tNil))) rfl scDbl.nd (pi_zipTL (by rfl) Bz (pa_cons (pv 2) (pa_cons (pv 12) pa_nil))) (blkOk_by (by kernel_rfl)) (fun _ _ _ _ _ => pg_tup rfl (pgs_cons (pg_name (i := 13) scDbl.nd rfl (.inl rfl)) (pgs_cons (pg_name (i := 14) scDbl.nd rfl (.inl rfl)) pgs_nil))) (fun _ _ _ _ _ => pts_nil) (fun _ _ _ _ _ => pe_tup (pa_cons (pv 13) (pa_cons (pe_bm PySem.F.plainAttrs_list PySem.F.slot_list_index PySem.F.type_list_index mt_index (pv 8) (pa_cons (pv 14) pa_nil)) pa_nil)))) pa_nil)) pa_nil))))))
      (pss_one (ps_ret (pe_tup (pa_cons (pv 2) (pa_cons (pv 10) (pa_cons (pe_lc (own := [("_law_k", 9), ("_law_one", 11)]) (g := gTup K 2 (gCons (gName 9) (gCons (gName 11) gNil))) (tt := tTest (tOp (rIn K false) (tOp (rI (fun _ j => 0 < j) fun i j => .int (i % j)) (tVar 11) (tVar 5)) (tVar 4))) (te := tVar 9) rfl scDbl.nd (pi_enum (by rfl) B.enumerate (pa_cons (pv 8) pa_nil)) (blkOk_by (by kernel_rfl)) (fun _ _ _ _ _ => pg_tup rfl (pgs_cons (pg_name (i := 9) scDbl.nd rfl (.inl rfl)) (pgs_cons (pg_name (i := 11) scDbl.nd rfl (.inl rfl)) pgs_nil))) (fun _ _ _ _ _ => pts_one (pt_cmpR op_in_seq (pe_op op_mod (pv 11) (pv 5)) (pv 4) (by rfl))) (fun _ _ _ _ _ => pv 9)) pa_nil))))))))))), ?_⟩
    have hone := W.one
    have hc4 := ha.four
    have hql : qs.length = rows.length := Paired.length h3
    refine ⟨_, rfl, t, _, rfl, SqT.of h1, rfl, _, _, rfl, _, _, rfl, _, _, rfl, rfl, ?_⟩
    have hdv : 0 < (40 : Int) / ((qs.map V.ref).length : Nat) ∧ (40 : Int) / ((qs.map V.ref).length : Nat) < 1000 := by
      rw [List.length_map, hql]
      have : rows.length = 1 ∨ rows.length = 2 ∨ rows.length = 3 ∨ rows.length = 4 ∨ rows.length = 5 := by omega
      rcases this with h | h | h | h | h <;> rw [h] <;> decide
    refine ⟨_, rfl, pr, _, rfl, .inl (SqL.of h2), _, rfl, _, rfl, pr, _, rfl, .inl (SqL.of h2), _, _, rfl, rfl, ⟨by rw [List.length_map]; omega, by rw [List.length_map]; omega⟩, r, _, rfl, hdv.1, hdv.2, hR, fun d H1 d0 d1 e1 => ?_⟩
    rw [List.length_map, hql] at d1
    obtain ⟨tm, etm, ht1, h40⟩ : ∃ tm : Nat, 1 + d = (tm : Int) ∧ 1 ≤ tm ∧ rows.length * tm ≤ 40 := by
      refine ⟨(1 + d).toNat, by omega, by omega, ?_⟩
      have : rows.length = 1 ∨ rows.length = 2 ∨ rows.length = 3 ∨ rows.length = 4 ∨ rows.length = 5 := by omega
      rcases this with h | h | h | h | h <;> rw [h] at d1 ⊢ <;> omega
    have htm : tm ≤ 40 := Nat.le_trans (Nat.le_mul_of_pos_left tm hone) h40
    refine ⟨_, _, rfl, rfl, by show 2 ≤ sizeLine; decide, fun tp htp => ?_⟩
    have e2 : Same H1 (upd H1 tp (.tup [.int ((qs.map V.ref).length : Nat), .int (1 + d)])) := same_new htp
    refine ⟨tp, _, rfl, SqT.of upd_same, rfl, _, _, rfl, _, _, rfl, rfl, ?_⟩
    generalize (upd H1 tp (.tup [.int ((qs.map V.ref).length : Nat), .int (1 + d)])) = H2 at e2
    have e02 := e1.trans e2
    rw [List.length_map, hql]
    simp only [etm]
    have emul : ((rows.length : Nat) : Int) * (tm : Int) = ((rows.length * tm : Nat) : Int) := by rw [Int.natCast_mul]
    have hN1 : 1 ≤ rows.length * tm := Nat.mul_le_mul hone ht1
    generalize hNN : rows.length * tm = N at *
    -- left
    refine ⟨_, rfl, _, rfl, _, _, rfl, rfl, .inl ⟨by omega, by omega⟩, _, _, rfl, rfl, ?_⟩
    rw [emul]
    refine ⟨RgOk.of_le (by decide) (by omega) (by decide) (by omega), fun l hl => ?_⟩
    have erg : rgV 1 (N : Int) = (((List.range (N - 1)).map fun i : Nat => (1 : Int) + (i : Int)).map V.int) := by
      unfold rgV
      rw [List.map_map, show ((N : Int) - 1).toNat = N - 1 by omega]
      rfl
    rw [erg]
    have hlH : H l = none := e02.free hl
    -- order
    refine ⟨by show 1 ≤ sizeLine; decide, fun p0 hp0 => ?_⟩
    refine ⟨_, rfl, _, rfl, _, _, rfl, rfl, .inl ⟨by omega, by omega⟩, _, _, rfl, rfl, _, rfl, ?_⟩
    rw [emul]
    have nl0 : l ≠ p0 := ne_of_none upd_same hp0
    have hp0H : H p0 = none := (e02.trans (same_new hl)).free hp0
    refine ⟨by omega, by omega, fun D hD => lc_range (lo := 0) (n := ((N : Int) - 1).toNat) (fun i H' => Same H2 H' ∧ H' p0 = some (.lst [.int 0]) ∧ ∃ got left : List Int, H' l = some (.lst (left.map .int)) ∧ H' D = some (.lst (got.map .int)) ∧ (got ++ left).Perm ((List.range (N - 1)).map fun i : Nat => (1 : Int) + (i : Int)) ∧ got.length = i) ?_ ?_ ?_⟩
    · have nlD : l ≠ D := ne_of_none (by rw [upd_ne nl0]; exact upd_same) hD
      have n0D : p0 ≠ D := ne_of_none upd_same hD
      refine ⟨((same_new hl).trans (same_new hp0)).trans (same_new hD), by rw [upd_ne n0D, upd_same], [], _, by rw [upd_ne nlD, upd_ne nl0, upd_same], upd_same, List.Perm.refl _, rfl⟩
    · rintro i H3 hi ⟨e3, h0, got, left, g1, g2, hp, hg⟩
      have nlD : l ≠ D := ne_of_none (by rw [upd_ne nl0]; exact upd_same) hD
      have n0D : p0 ≠ D := ne_of_none upd_same hD
      have hDH2 : H2 D = none := ((same_new hl).trans (same_new hp0)).free hD
      have hlen : got.length + left.length = N - 1 := by
        have := hp.length_eq
        simpa using this
      refine ⟨rfl, _, rfl, .inl ⟨rfl, _, SqL.of g1⟩, _, rfl, _, rfl, l, _, rfl, .inl (SqL.of g1), r, _, rfl, (by simp only [List.length_map]; omega), (by simp only [List.length_map]; omega), e3 _ _ (e02 _ _ hR), fun dd H4 d0 d1 e4 => ?_⟩
      have hd : dd.toNat < left.length := by simp only [List.length_map] at d1; omega
      refine ⟨l, _, dd, dd.toNat, .int left[dd.toNat], rfl, rfl, e4 _ _ g1, (by omega), (by simp only [List.length_map] at d1; omega), ?_, (by simp [hd]), got.map V.int, ?_, ?_, ?_⟩
      · simp only [List.length_map] at d1 ⊢
        exact seqIx d0 d1
      · rw [upd_ne (Ne.symm nlD)]; exact e4 _ _ g2
      · rw [List.length_map, sizeLine_eq]; omega
      · refine ⟨same_upd (same_upd (e3.trans e4) hl) hDH2, by rw [upd_ne n0D, upd_ne (Ne.symm nl0)]; exact e4 _ _ h0, got ++ [left[dd.toNat]], left.eraseIdx dd.toNat, ?_, ?_, ?_, ?_⟩
        · rw [upd_ne nlD, upd_same]
          exact congrArg (fun z => some (HO.lst z)) (map_eraseIdx V.int left dd.toNat)
        · rw [upd_same, List.map_append]; rfl
        · refine List.Perm.trans ?_ hp
          rw [List.append_assoc]
          exact List.Perm.append_left got (erase_perm _ _ _ (List.getElem?_eq_getElem hd))
        · rw [List.length_append, hg]; rfl
    · rintro H3 ⟨e3, h0, got, left, g1, g2, hp, hg⟩
      have hDH2 : H2 D = none := ((same_new hl).trans (same_new hp0)).free hD
      have hleft : left = [] := by
        have := hp.length_eq
        rw [List.length_append, List.length_map, List.length_range, hg] at this
        exact List.length_eq_zero_iff.mp (by omega)
      subst hleft
      rw [List.append_nil] at hp
      have pm : Perm0 N (0 :: got) := by
        have hmem : ∀ q, q ∈ got ↔ 1 ≤ q ∧ q < (N : Int) := fun q => by
          rw [hp.mem_iff, List.mem_map]
          constructor
          · rintro ⟨i, hi, rfl⟩
            have := List.mem_range.mp hi
            omega
          · rintro ⟨a, b⟩
            exact ⟨(q - 1).toNat, List.mem_range.mpr (by omega), by omega⟩
        refine ⟨by rw [List.length_cons, hg]; omega, List.nodup_cons.mpr ⟨fun h => ?_, ?_⟩, fun q hq => ?_, got, rfl⟩
        · have := (hmem 0).mp h
          omega
        · refine hp.nodup_iff.mpr (List.Pairwise.map (R := fun a b => a ≠ b) _ (fun a b hab e => hab (by omega)) List.nodup_range)
        · rcases List.mem_cons.mp hq with z | z
          · rw [z]; omega
          · have := (hmem q).mp z
            omega
      refine ⟨p0, D, _, _, rfl, rfl, h0, g2, by rw [List.length_map, hg, sizeLine_eq]; show 1 + _ ≤ _; omega, fun po hpo => ?_⟩
      have e4 : Same H3 (upd H3 po (.lst ([.int 0] ++ got.map .int))) := same_new hpo
      have hod : (upd H3 po (.lst ([.int 0] ++ got.map .int))) po = some (.lst ((0 :: got).map .int)) := upd_same
      generalize (upd H3 po (.lst ([.int 0] ++ got.map .int))) = H4 at e4 hod
      have e34 : Same H2 H4 := e3.trans e4
      have e04 : Same H H4 := e02.trans e34
      generalize hodl : (0 :: got) = od at pm hod
      clear hp g1 g2 h0 hodl
      -- lines
      refine ⟨by show 0 ≤ sizeLine; decide, fun pL hpL => ?_⟩
      have hpLH : H pL = none := e04.free hpL
      have e5 : Same H4 (upd H4 pL (.lst [])) := same_new hpL
      have hol := pm.len
      refine ⟨_, rfl, po, rfl, ⟨_, SqL.of (e5 _ _ hod)⟩, for_it (walk_list (K := K) (a := po) (xs := od.map .int)) (fun i σ H' => Same H4 H' ∧ ∃ (us : List Addr) (rws : List (List Int)) (a11 a12 : Option V), σ = [some (.ref r), some (.ref t), some (.str (txt cs)), some (.ref pr), some (.ref pe), some (.int rows.length), some (.int tm), some (.ref l), some (.ref po), none, some (.ref pL), a11, a12, none, none] ∧ H' pL = some (.lst (us.map .ref)) ∧ Paired (RowAt H' cs) us rws ∧ rws.length = i ∧ ∀ (k : Nat) row2, rws[k]? = some row2 → RowD cs rows od tm k row2) ?_ (fun i σ H' _ p => SqL.of (p.1 _ _ hod)) ?_ ?_⟩
      · exact ⟨e5, [], [], none, none, rfl, upd_same, .nil, rfl, fun k row2 h => by simp at h⟩
      · rintro i v σ H5 H5' hi ⟨e6, us, rws, a11, a12, rfl, hL5, hus, hrl, hrd⟩ ⟨rfl, hv⟩
        rw [List.getElem?_map] at hv
        obtain ⟨o, ho, rfl⟩ := Option.map_eq_some_iff.mp hv
        rw [List.length_map] at hi
        have hog : od.getD i 0 = o := by rw [List.getD_eq_getElem?_getD, ho]; rfl
        have e05 : Same H H5' := e04.trans e6
        have hm0 : 0 ≤ o % (rows.length : Int) := Int.emod_nonneg _ (by omega)
        have hm1 : o % (rows.length : Int) < (rows.length : Int) := Int.emod_lt_of_pos _ (by omega)
        have hz : (txt cs).cps.size = cs.length := by simp [txt]
        have hrk : (o % (rows.length : Int)).toNat < rows.length := by omega
        -- goals
        refine ⟨_, rfl, _, rfl, fun Dg hDg => lc_S walk_str hDg (by rw [hz]; omega) (fun j acc _ => ∃ gs : List Int, acc = gs.map .int ∧ gs.length = j ∧ ∀ (m : Nat) (g : Int), gs[m]? = some g → ∃ b : Int, 0 ≤ b ∧ b < (tm : Int) ∧ g = (rows.getD (o % (rows.length : Int)).toNat []).getD m 0 + (rows.length : Int) * b) (fun _ _ _ _ _ _ _ h => h) ⟨[], rfl, rfl, fun m g h => by simp at h⟩ (fun _ _ => trivial) ?_ ?_⟩
        · rintro j v H6 H6' acc Qt Qf hj e7 hd ⟨gs, rfl, hgl, hgs⟩ ⟨rfl, c, hc, rfl⟩ kt kf
          have hc' : cs[j]? = some c := by simpa [txt] using hc
          have hcm := List.mem_of_getElem? hc'
          obtain ⟨row, q1, q2, q3, _⟩ := W.nxt_ok hm0 hm1 hcm
          obtain ⟨pp, hpp, hrow⟩ := paired_get _ h3 q1
          have e06 := e05.trans e7
          have hidx : cs.idxOf c = j := by
            obtain ⟨x1, x2⟩ := List.getElem?_eq_some_iff.mp hc'
            rw [← x2, List.Nodup.idxOf_getElem nd j x1]
          have hcell : row.getD (cs.idxOf c) 0 = (rows.getD (o % (rows.length : Int)).toNat []).getD j 0 := by
            rw [hidx, List.getD_eq_getElem?_getD (l := rows), q1]
            rfl
          refine ⟨rfl, _, rfl, _, rfl, _, rfl, _, _, rfl, rfl, by show (0 : Int) < _; omega, pr, _, _, .ref pp, rfl, rfl, SqL.of (e06 _ _ h2), atI_of hm0 (by rw [List.getElem?_map, hpp]; rfl), _, rfl, pp, .int (row.getD (cs.idxOf c) 0), rfl, ?_, ?_⟩
          · rw [← val_row q2 hcm]
            exact DGet.k (k := Sum.inr (lt c)) (e06 _ _ hrow)
          refine ⟨_, rfl, _, rfl, _, rfl, r, _, rfl, by omega, by omega, e06 _ _ hR, fun b H7 b0 b1 e8 => ⟨_, _, rfl, rfl, .inl ⟨by omega, by omega⟩, _, _, rfl, rfl, kt _ _ e8 ⟨gs ++ [row.getD (cs.idxOf c) 0 + (rows.length : Int) * b], by rw [List.map_append]; rfl, by simp [hgl], fun m g hm => ?_⟩⟩⟩
          by_cases hmj : m < gs.length
          · rw [List.getElem?_append_left hmj] at hm
            exact hgs m g hm
          · have hmm : m = gs.length := by
              have := (List.getElem?_eq_some_iff.mp hm).1
              simp at this
              omega
            rw [hmm, List.getElem?_append_right (Nat.le_refl _), Nat.sub_self] at hm
            have : g = row.getD (cs.idxOf c) 0 + (rows.length : Int) * b := (Option.some.inj hm).symm
            refine ⟨b, b0, b1, ?_⟩
            rw [this, hcell, hmm, hgl]
        · rintro H6 acc e7 hd ⟨gs, rfl, hgl, hgs⟩
          rw [hz] at hgl
          have e46 : Same H4 H6 := e6.trans e7
          have hrange : ∀ (m : Nat) (g : Int), gs[m]? = some g → 0 ≤ g ∧ g < (N : Int) := fun m g hm => by
            obtain ⟨b, b0, b1, e⟩ := hgs m g hm
            have hml : m < cs.length := by
              have := (List.getElem?_eq_some_iff.mp hm).1
              omega
            obtain ⟨w1, w2⟩ := W.row _ (List.getElem_mem hrk)
            have e1 : rows.getD (o % (rows.length : Int)).toNat [] = rows[(o % (rows.length : Int)).toNat] := by rw [List.getD_eq_getElem?_getD (l := rows), List.getElem?_eq_getElem hrk]; rfl
            have hu0 : 0 ≤ (rows.getD (o % (rows.length : Int)).toNat []).getD m 0 ∧ (rows.getD (o % (rows.length : Int)).toNat []).getD m 0 < (rows.length : Int) := by
              rw [e1, List.getD_eq_getElem?_getD, List.getElem?_eq_getElem (by omega)]
              exact w2 _ (List.getElem_mem (by omega))
            have a1 : 0 ≤ (rows.length : Int) * b := Int.mul_nonneg (by omega) b0
            have a2 : (rows.length : Int) * b ≤ (rows.length : Int) * ((tm : Int) - 1) := Int.mul_le_mul_of_nonneg_left (by omega) (by omega)
            have a3 : (rows.length : Int) * ((tm : Int) - 1) = (N : Int) - (rows.length : Int) := by
              rw [Int.mul_sub, Int.mul_one, emul]
            omega
          -- the line
          refine ⟨_, rfl, .inl ⟨rfl, _, SqL.of (e7 _ _ hL5)⟩, _, rfl, _, rfl, _, Dg, _, rfl, SqL.of hd, fun Dd hDd => lc_S (walkTL (K := K) (z := txt cs) (b := Dg) (ys := gs.map .int) (n := cs.length) hz (by rw [List.length_map]; exact hgl)) hDd (by omega) (fun j acc H' => ∃ (ts : List Addr), acc = ts.map .ref ∧ Paired (PrAt H') ts ((cs.take j).zip ((gs.take j).map fun g => ((od.idxOf g : Nat) : Int)))) ?_ ?_ (fun H' e' => SqL.of (e' _ _ hd)) ?_ ?_⟩
          · rintro j acc acc' H7 H7' hd7 sb ⟨ts, h1', h2'⟩
            exact ⟨ts, h1', Paired.mono h2' fun a b h => sb _ _ (ne_lst hd7 h fun _ => nofun) h⟩
          · exact ⟨[], rfl, .nil⟩
          · rintro j v H7 H7' acc Qt Qf hj e8 hd7 ⟨ts, rfl, hts⟩ ⟨T7, kx, gx, rfl, hT7, rfl, ex, ey⟩ kt kf
            obtain ⟨c, hc⟩ : ∃ c, cs[j]? = some c := ⟨_, List.getElem?_eq_getElem hj⟩
            obtain ⟨g, hg⟩ : ∃ g, gs[j]? = some g := ⟨_, List.getElem?_eq_getElem (by omega)⟩
            have ez : (txt cs).cps[j]? = some c := by simpa [txt] using hc
            dsimp only at ex ey
            rw [ez] at ex
            rw [List.getElem?_map, hg] at ey
            cases ex
            cases ey
            obtain ⟨g0, g1⟩ := hrange j g hg
            obtain ⟨i1, i2⟩ := pm.idx g0 g1
            have eT : Same H7 (upd H7 T7 (.tup [.str ⟨#[c]⟩, .int g])) := same_new hT7
            have e9 := e8.trans eT
            refine ⟨T7, _, rfl, SqT.of upd_same, rfl, _, _, rfl, _, _, rfl, rfl, rfl, ?_⟩
            generalize (upd H7 T7 (.tup [.str ⟨#[c]⟩, .int g])) = H8 at eT e9
            refine ⟨_, rfl, _, rfl, .inl ⟨rfl, _, SqL.of (e9 _ _ (e46 _ _ hod))⟩, _, rfl, po, _, .int g, od.idxOf g, .int g, rfl, rfl, SqL.of (e9 _ _ (e46 _ _ hod)), rfl, flat_ints _, by rw [List.getElem?_map, i1]; rfl, by simp [eqV], fun m z' hm hz' => ?_, by show 2 ≤ sizeLine; decide, fun tt htt => ?_⟩
            · rw [List.getElem?_map] at hz'
              obtain ⟨q', hq', rfl⟩ := Option.map_eq_some_iff.mp hz'
              have : q' ≠ g := fun e => by
                have hml := (List.getElem?_eq_some_iff.mp hq').1
                have e2' := (List.getElem?_eq_some_iff.mp hq').2
                have hh := List.Nodup.idxOf_getElem pm.nd m hml
                rw [e2', e] at hh
                omega
              simpa [eqV] using this
            · refine kt _ _ (eT.trans (same_new htt)) ⟨ts ++ [tt], by rw [List.map_append]; rfl, ?_⟩
              have et : (cs.take (j + 1)).zip ((gs.take (j + 1)).map fun g => ((od.idxOf g : Nat) : Int)) = (cs.take j).zip ((gs.take j).map fun g => ((od.idxOf g : Nat) : Int)) ++ [(c, ((od.idxOf g : Nat) : Int))] := by
                rw [List.take_add_one, List.take_add_one, hc, hg, List.map_append, List.zip_append (by rw [List.length_map, List.length_take, List.length_take]; omega)]
                rfl
              rw [et]
              exact paired_snoc (Paired.mono hts fun a b h => (eT.trans (same_new htt)) _ _ h) upd_same
          · rintro H7 acc e8 hd7 ⟨ts, rfl, hts⟩
            rw [List.take_length, List.take_of_length_le (by omega)] at hts
            have hl7 : (gs.map fun g => ((od.idxOf g : Nat) : Int)).length = cs.length := by rw [List.length_map]; exact hgl
            refine ⟨_, ts, rowK cs (gs.map fun g => ((od.idxOf g : Nat) : Int)), rfl, SqL.of hd7, pairs_of_row hts, fun pq hpq => ?_⟩
            rw [mergeK_nil (rowK_nodup hl7 nd)]
            have e9 : Same H7 (upd H7 pq (.dK (rowK cs (gs.map fun g => ((od.idxOf g : Nat) : Int))))) := same_new hpq
            have hrq : RowAt (upd H7 pq (.dK (rowK cs (gs.map fun g => ((od.idxOf g : Nat) : Int))))) cs pq (gs.map fun g => ((od.idxOf g : Nat) : Int)) := upd_same
            generalize (upd H7 pq (.dK (rowK cs (gs.map fun g => ((od.idxOf g : Nat) : Int))))) = H8 at e9 hrq
            have e58 : Same H5' H8 := (e7.trans e8).trans e9
            have hL8 := e58 _ _ hL5
            have hul := Paired.length hus
            refine ⟨pL, _, _, rfl, rfl, hL8, by rw [List.length_map, hul, hrl, sizeLine_eq]; omega, ?_⟩
            have kp : ∀ a row, RowAt H8 cs a row → RowAt (upd H8 pL (.lst (us.map .ref ++ [.ref pq]))) cs a row := fun a row h => by
              show _ = _
              rw [upd_ne (ne_of h hL8 (by intro z; cases z))]
              exact h
            refine ⟨same_upd (e6.trans e58) hpL, us ++ [pq], rws ++ [gs.map fun g => ((od.idxOf g : Nat) : Int)], _, _, rfl, by rw [upd_same, List.map_append]; rfl, paired_snoc (Paired.mono hus fun a b h => kp _ _ (e58 _ _ h)) (kp _ _ hrq), by simp [hrl], fun m row2 hm => ?_⟩
            by_cases hmj : m < rws.length
            · rw [List.getElem?_append_left hmj] at hm
              exact hrd m row2 hm
            · have hmm : m = rws.length := by
                have := (List.getElem?_eq_some_iff.mp hm).1
                simp at this
                omega
              rw [hmm, List.getElem?_append_right (Nat.le_refl _), Nat.sub_self] at hm
              have er : row2 = gs.map fun g => ((od.idxOf g : Nat) : Int) := (Option.some.inj hm).symm
              rw [er, hmm, hrl]
              refine ⟨hl7, fun m' g' hm' => ?_⟩
              rw [List.getElem?_map] at hm'
              obtain ⟨g, hg, rfl⟩ := Option.map_eq_some_iff.mp hm'
              obtain ⟨b, b0, b1, e⟩ := hgs m' g hg
              exact ⟨b, b0, b1, by rw [hog, ← e]⟩
      · rintro σ H5 ⟨e6, us, rws, a11, a12, rfl, hL5, hus, hrl, hrd⟩
        rw [List.length_map, hol] at hrl
        have e05 : Same H H5 := e04.trans e6
        refine ⟨_, rfl, _, rfl, _, rfl, po, _, rfl, SqL.of (e6 _ _ hod), fun De hDe => lc_S (walk_enum (K := K) (a := po) (xs := od.map .int)) hDe (by rw [List.length_map]; omega) (fun j acc _ => acc = (ends2 od rows.length ends j).map .int) (fun _ _ _ _ _ _ _ h => h) rfl (fun H' e' => SqL.of (e' _ _ (e6 _ _ hod))) ?_ ?_⟩
        · rintro j v H6 H6' acc Qt Qf hj e7 hd rfl ⟨T7, kx, gx, rfl, hT7, rfl, ex, ey⟩ kt kf
          rw [List.length_map] at hj
          cases ex
          dsimp only at ey
          rw [List.getElem?_map] at ey
          obtain ⟨o, ho, rfl⟩ := Option.map_eq_some_iff.mp ey
          have hog : od.getD j 0 = o := by rw [List.getD_eq_getElem?_getD, ho]; rfl
          have eT : Same H6 (upd H6 T7 (.tup [.int (j : Nat), .int o])) := same_new hT7
          have e9 := e05.trans (e7.trans eT)
          have en : ends2 od rows.length ends (j + 1) = if o % (rows.length : Int) ∈ ends then ends2 od rows.length ends j ++ [(j : Int)] else ends2 od rows.length ends j := by
            unfold ends2
            rw [List.range_succ, List.filter_append, List.map_append]
            by_cases hb : o % (rows.length : Int) ∈ ends
            · rw [if_pos hb, List.filter_cons_of_pos (by show decide (od.getD j 0 % (rows.length : Int) ∈ ends) = true; rw [hog]; exact decide_eq_true hb)]
              rfl
            · rw [if_neg hb, List.filter_cons_of_neg (by show ¬ decide (od.getD j 0 % (rows.length : Int) ∈ ends) = true; rw [hog]; simpa using hb)]
              simp
          refine ⟨T7, _, rfl, SqT.of upd_same, rfl, _, _, rfl, _, _, rfl, rfl, rfl, ?_⟩
          refine ⟨_, rfl, _, rfl, _, _, rfl, rfl, by show (0 : Int) < _; omega, _, rfl, pe, _, rfl, .inl (SqL.of (e9 _ _ h4)), rfl, flat_ints _, _, rfl, ?_⟩
          rw [show inV (V.int (o % (rows.length : Int))) (ends.map .int) = decide (o % (rows.length : Int) ∈ ends) from inV_ints _ _]
          by_cases hb : o % (rows.length : Int) ∈ ends
          · rw [decide_eq_true hb]
            refine iteT ⟨_, rfl, kt _ _ eT ?_⟩
            rw [en, if_pos hb, List.map_append]
            rfl
          · rw [decide_eq_false hb]
            refine iteF (kf _ eT ?_)
            rw [en, if_neg hb]
        · rintro H6 acc e7 hd rfl
          rw [List.length_map, hol] at hd
          refine ⟨by show 3 ≤ sizeLine; decide, fun t2 ht2 => ?_⟩
          have e8 : Same H6 (upd H6 t2 (.tup [.str (txt cs), .ref pL, .ref De])) := same_new ht2
          rw [← hNN] at hrl pm h40 hd
          obtain ⟨Wf, Dp⟩ := dup_of W ht1 h40 pm hrl hrd
          exact k rws _ _ t2 _ Wf Dp ⟨pL, De, us, upd_same, e8 _ _ (e7 _ _ hL5), Paired.mono hus fun a b h => e8 _ _ (e7 _ _ h), e8 _ _ hd⟩ ((e05.trans e7).trans e8)
end
end SS

set_option maxRecDepth 100000
set_option maxHeartbeats 4000000
set_option pp.maxSteps 1500
namespace SS
open PySem L2 SR TL
theorem u65 {k : Nat} {A : Around} (r : Room k A) : A.units + 65 < cLine := by have := r.un; omega
/-! ### lists of flags, shown -/
def boolsD (bs : List Bool) : PyData := .list (bs.map .bool)
theorem bools_all : ∀ bs : List Bool, PyData.showableAll (bs.map .bool) = true ∧ PyData.hasDictAll (bs.map .bool) = false ∧ PyData.depthAll (bs.map .bool) = 0 ∧ PyData.leavesShortAll 8 (bs.map .bool) = true ∧ PyData.weightAll (bs.map .bool) = bs.length
  | [] => by simp [PyData.showableAll, PyData.hasDictAll, PyData.depthAll, PyData.leavesShortAll, PyData.weightAll]
  | b :: bs => by
    obtain ⟨h1, h2, h3, h4, h5⟩ := bools_all bs
    rw [List.map_cons]
    refine ⟨?_, ?_, ?_, ?_, ?_⟩
    · simp [PyData.showableAll, PyData.showable, h1]
    · simp [PyData.hasDictAll, PyData.hasDict, h2]
    · simp [PyData.depthAll, PyData.depth, h3]
    · simp [PyData.leavesShortAll, PyData.leavesShort, h4]
    · simp only [PyData.weightAll, PyData.weight, h5, List.length_cons]
      omega
theorem bools_ok (bs : List Bool) (h : bs.length ≤ 100000) : (boolsD bs).showable = true ∧ (boolsD bs).hasDict = false ∧ (boolsD bs).depth ≤ 64 ∧ (boolsD bs).shown.length ≤ sizeLine := by
  obtain ⟨h1, h2, h3, h4, h5⟩ := bools_all bs
  refine ⟨by simpa [boolsD, PyData.showable] using h1, by simpa [boolsD, PyData.hasDict] using h2, ?_, PyData.shown_fits (B := 8) (by decide) (by decide) (by simpa [boolsD, PyData.leavesShort] using h4) ?_⟩
  · unfold boolsD
    rw [PyData.depth, h3]
    decide
  · unfold boolsD
    rw [PyData.weight, h5]
    have : (2 : Nat) ^ 20 = 1048576 := by decide
    omega
def bT (b : Bool) : Str := if b then "True" else "False"
theorem shownAll_bools : ∀ bs : List Bool, PyData.shownAll (bs.map .bool) = bs.map bT
  | [] => rfl
  | b :: bs => by
    rw [List.map_cons, PyData.shownAll, shownAll_bools bs, List.map_cons]
    cases b <;> rfl
theorem cps_app (a b : Str) : (a ++ b).cps.toList = a.cps.toList ++ b.cps.toList := by
  show (a.cps ++ b.cps).toList = _
  simp
theorem join_cons (t u : Str) (ts : List Str) : Str.join ", " (t :: u :: ts) = t ++ ", " ++ Str.join ", " (u :: ts) := by
  simp [Str.join]
theorem join_bools : ∀ (bs cs : List Bool), bs.length = cs.length → (Str.join ", " (bs.map bT)).cps.toList = (Str.join ", " (cs.map bT)).cps.toList → bs = cs
  | [], [], _, _ => rfl
  | [], _ :: _, h, _ => by simp at h
  | _ :: _, [], h, _ => by simp at h
  | [b], [c], _, e => by
    cases b <;> cases c <;> first | rfl | (revert e; decide +kernel)
  | [_], _ :: _ :: _, h, _ => by simp at h
  | _ :: _ :: _, [_], h, _ => by simp at h
  | b :: b2 :: bs, c :: c2 :: cs, h, e => by
    have hl : (b2 :: bs).length = (c2 :: cs).length := by simpa using h
    rw [List.map_cons, List.map_cons, List.map_cons, List.map_cons, join_cons, join_cons, cps_app, cps_app, cps_app, cps_app] at e
    have e2 : ∀ (x y : List Nat), (bT b).cps.toList ++ (Str.ofString ", ").cps.toList ++ x = (bT c).cps.toList ++ (Str.ofString ", ").cps.toList ++ y → b = c ∧ x = y := by
      intro x y e
      have k1 : (bT true).cps.toList ++ (Str.ofString ", ").cps.toList = [84, 114, 117, 101, 44, 32] := by decide +kernel
      have k2 : (bT false).cps.toList ++ (Str.ofString ", ").cps.toList = [70, 97, 108, 115, 101, 44, 32] := by decide +kernel
      cases b <;> cases c
      · exact ⟨rfl, List.append_cancel_left e⟩
      · rw [k1, k2] at e
        injection e with e1 _
        exact absurd e1 (by decide)
      · rw [k1, k2] at e
        injection e with e1 _
        exact absurd e1 (by decide)
      · exact ⟨rfl, List.append_cancel_left e⟩
    obtain ⟨rfl, e3⟩ := e2 _ _ e
    rw [join_bools (b2 :: bs) (c2 :: cs) hl (by rw [List.map_cons, List.map_cons]; exact e3)]
theorem bools_inj {bs cs : List Bool} (h : bs.length = cs.length) (e : (boolsD bs).shown = (boolsD cs).shown) : bs = cs := by
  unfold boolsD at e
  rw [PyData.shown, PyData.shown, shownAll_bools, shownAll_bools, listText_eq_join, listText_eq_join] at e
  have e2 := congrArg (fun z : Str => z.cps.toList) e
  rw [cps_app, cps_app, cps_app, cps_app, List.append_assoc, List.append_assoc] at e2
  exact join_bools bs cs h (List.append_cancel_right (List.append_cancel_left e2))
theorem addA_ints_len {α : Type} [DecidableEq α] (gs : List α) : (addA [] gs).length ≤ gs.length := by
  have key : ∀ (gs L : List α), (addA L gs).length ≤ L.length + gs.length := by
    intro gs
    induction gs with
    | nil => intro L; exact Nat.le_refl _
    | cons g gs ih =>
      intro L
      refine Nat.le_trans (ih _) ?_
      by_cases h : g ∈ L
      · rw [if_pos h, List.length_cons]; omega
      · rw [if_neg h, List.length_append, List.length_cons]; simp; omega
  have := key gs []
  simpa using this
theorem leaf_ints (xs : List Int) : SeqAt.shaped (.list (xs.map .int)) = true := leaf_list fun d hd => by
  obtain ⟨i, _, rfl⟩ := List.mem_map.mp hd
  exact leaf_int i
section
variable {P : Program} {w : World} {K : PySem.W.Frag} {mg : Str → Option Value} {base : Heap}
abbrev sWlk : Stmt := top 46
abbrev nWlk : List Str := ["_law_made", "_law_machine", "_law_notes", "_law_live_here", "_law_order", "_law_note", "_law_spot_here", "_law_own", "_law_told"]
abbrev psWlk : List Str := ["_law_made", "_law_machine", "_law_notes"]
theorem scWlk : FnScope nWlk psWlk (defScope sWlk) := ⟨rfl, rfl, rfl, by decide +kernel, rfl, by decide +kernel, by decide +kernel⟩
def spWlk (C : Addr) : Sp := fun vs H Q _ => ∃ (x t pn : Addr) (cs : List Nat) (rows : List (List Int)) (ends : List Int) (n : Nat), vs = [.ref x, .ref t, .ref pn] ∧ Abc cs ∧ WfM cs rows ends ∧ rows.length ≤ 5 ∧ LangAt 5 C H x cs rows ends ∧ Mach H cs t rows ends ∧ 4 ≤ n ∧ n ≤ 6 ∧ H pn = some (.lst ((txs cs n).map txtV)) ∧ ∀ H', Same H H' → Q (.bl true) H'
theorem ok_wlk {f C : Addr} {fd : FuncData} (F : Fun K "_law_walks_right" "_law_walks_right" sWlk f fd) (B : Bl mg) (G : Lg P w K mg base C) (Lv : Cal P w K mg base "_law_live" 1 ["_law_machine"] spLive) (Sp' : Cal P w K mg base "_law_spot" 1 ["_law_machine", "_law_note"] spSpt) (St' : Cal P w K mg base "_law_state" 4 ["_law_made", "_law_note"] (spStt C)) : FnG P w K mg base 5 f fd psWlk (spWlk C) := by
  obtain ⟨fC, fdC, GC, cA, cF, bC⟩ := G.con
  obtain ⟨fE, dE, eM, eF, eB⟩ := G.mem
  obtain ⟨fL, dL, lM, lF, lB⟩ := G.liv
  obtain ⟨fN, dN, nF, nA, nI, nB⟩ := G.len
  have T := G.tx
  refine okG F scWlk (fun vs H Q E h => ?_) (fun cdv A outer s H vs Q E hr hgd h => ?_)
  · obtain ⟨x, t, pn, cs, rows, ends, n, rfl, _⟩ := h
    rfl
  · obtain ⟨x, t, pn, cs, rows, ends, n, rfl, ha, W, h5, LA, Mc, n4, n6, hn, k⟩ := h
    have hr1 := hr.mono (by decide : 1 ≤ 4)
    have hr2 := hr.mono (by decide : 2 ≤ 4)
    have hr3 := hr.mono (by decide : 3 ≤ 4)
    have hu5 := u65 hr
    obtain ⟨rw', en', ns, L, W', al, Le, hns, hnr⟩ := LA.ex
    obtain ⟨dx, pt, pm, pl, fs, h1, h2, h3, h4, h5', h6, h7, h8, h9⟩ := L.ex
    obtain ⟨pr, pe, qs, m1, m2, m3, m4⟩ := Mc.ex
    have nd : cs.Nodup := ris_nodup ha.ris
    have hrl : rw'.length ≤ 5 := Nat.le_trans (least_len Le) h5
    have hone := W.one
    have hone' := W'.one
    have hnm : ∀ nm : Str, ¬ nm = "own_signs" → ¬ nm = "goals" → ¬ nm = "member_list" → ¬ nm = "live_list" → fs.lookup nm = none := h6
    refine ⟨_, pss_cons (ps_par (i := 3) (j := 4) (by rfl) scWlk.nd rfl rfl (by decide) rfl rfl (pa_cons (pe_cal Lv hr1 (pa_cons (pv 1) pa_nil)) (pa_cons (pe_lst pa_nil) pa_nil)) (by rfl))
      (pss_cons (ps_for PassesOwn.never rfl (pi_list (pv 2)) (pg_name (i := 5) scWlk.nd rfl (.inl rfl))
        (pss_cons (ps_par (i := 6) (j := 7) (by rfl) scWlk.nd rfl rfl (by decide) rfl rfl (pa_cons (pe_cal St' hr (pa_cons (pv 0) (pa_cons (pv 5) pa_nil))) (pa_cons (pe_cal Sp' hr1 (pa_cons (pv 1) (pa_cons (pv 5) pa_nil))) pa_nil)) (by rfl))
      (C8.pss_cut (ps_if (pt_cmpR op_notIn_seq (pv 6) (pv 4) (by rfl))
        (pss_one (ps_expr (pe_bm PySem.F.plainAttrs_list PySem.F.slot_list_append PySem.F.type_list_append mt_append (pv 4) (pa_cons (pv 6) pa_nil)))) pss_nil)
      (pss_cons (ps_set (i := 8) scWlk.nd rfl (.inl rfl) (pe_lst (pa_cons (pe_meth (pv 0) T.cl eM eF hr3 eB .nil pass0 (pa_cons (pv 6) pa_nil)) (pa_cons (pe_meth (pv 0) T.cl lM lF hr3 lB .nil pass0 (pa_cons (pv 6) pa_nil)) (pa_cons (pe_cmpR (op_inOwn GC hr2 cA cF bC pass0) (pv 5) (pv 0) (by rfl)) pa_nil)))))
      (pss_one (ps_if (pt_cmpR op_ne (pe_callB (call_reprD hgd hu5) (by rfl) B.repr (by decide +kernel) (pa_cons (pv 8) pa_nil)) (pe_callB (call_reprD hgd hu5) (by rfl) B.repr (by decide +kernel) (pa_cons (pe_lst (pa_cons (pe_cmpR op_in_seq (pv 7) (pe_ix ix_tup (pv 1) pe_int (fun _ _ => rfl)) (by rfl)) (pa_cons (pe_cmpR op_in_seq (pv 7) (pv 3) (by rfl)) (pa_cons (pe_cmpR op_in_seq (pv 7) (pe_ix ix_tup (pv 1) pe_int (fun _ _ => rfl)) (by rfl)) pa_nil)))) pa_nil)) (nomark _))
        (pss_one (ps_ret pe_bl)) pss_nil))))))
      (pss_one (ps_ret (pe_cmpR (op_eqD hr.units) (pv 4) (pe_listRg rfl (by rfl) B.list (prg_1 (by rfl) B.range (pe_callB (call_ownLen (FnG.of nF) hr2 hgd nA nI nB) (by rfl) B.len boot_len (pa_cons (pv 0) pa_nil)))) (nomark _))))), ?_⟩
    refine ⟨_, rfl, t, cs, rows, ends, rfl, ha, W, Mc, fun fd pf H1 hfd hfl hpf e1 hf => ?_⟩
    refine ⟨by show 0 ≤ sizeLine; decide, fun po hpo => ⟨_, _, rfl, ?_⟩⟩
    have e2 : Same H1 (upd H1 po (.lst [])) := same_new hpo
    have hpoH : H po = none := e1.free hpo
    have hlen : (txs cs n).length ≤ 10000 := by
      have a1 := len_txs4 ha.four n
      have a2 : 4 ^ n ≤ 4 ^ 6 := Nat.pow_le_pow_right (by decide) n6
      have a3 : (4 : Nat) ^ 6 = 4096 := by decide
      omega
    refine ⟨_, rfl, pn, rfl, ⟨_, SqL.of ((e1.trans e2) _ _ hn)⟩, for_it (walk_list (K := K) (a := pn) (xs := (txs cs n).map txtV)) (fun i σ H' => Same H1 H' ∧ ∃ a5 a6 a7 a8, σ = [some (.ref x), some (.ref t), some (.ref pn), some (.ref pf), some (.ref po), a5, a6, a7, a8] ∧ H' po = some (.lst ((addA [] (((txs cs n).take i).map (run cs rw' 0))).map .int))) ?_ (fun i σ H' _ p => SqL.of ((e1.trans p.1) _ _ hn)) ?_ ?_⟩
    · exact ⟨e2, none, none, none, none, rfl, upd_same⟩
    · rintro i v σ H2 H2' hi ⟨e3, a5, a6, a7, a8, rfl, ho⟩ ⟨rfl, hv⟩
      rw [List.getElem?_map] at hv
      obtain ⟨z, hz, rfl⟩ := Option.map_eq_some_iff.mp hv
      obtain ⟨hzo, hzl⟩ := mem_txs.mp (List.mem_of_getElem? hz)
      have em : Same H H2' := e1.trans e3
      have Lm := L.mono em
      obtain ⟨q0, q1⟩ := W'.run_ok z 0 (Int.le_refl _) (by omega) hzo
      obtain ⟨o0, o1⟩ := W.run_ok z 0 (Int.le_refl _) (by omega) hzo
      refine ⟨_, rfl, _, rfl, x, z, cs, rw', en', ns, rfl, Lm, W', hzo, _, rfl, _, rfl, t, z, cs, rows, ends, rfl, W, Mc.mono em, hzo, _, _, rfl, ?_⟩
      -- order
      have et : (txs cs n).take (i + 1) = (txs cs n).take i ++ [z] := by rw [List.take_add_one, hz]; rfl
      have ea : addA [] (((txs cs n).take (i + 1)).map (run cs rw' 0)) = if run cs rw' 0 z ∈ addA [] (((txs cs n).take i).map (run cs rw' 0)) then addA [] (((txs cs n).take i).map (run cs rw' 0)) else addA [] (((txs cs n).take i).map (run cs rw' 0)) ++ [run cs rw' 0 z] := by
        rw [et, List.map_append]
        show addA [] (_ ++ [run cs rw' 0 z]) = _
        rw [addA_snoc]
      refine ⟨fun σ' H' => Same H1 H' ∧ σ' = [some (.ref x), some (.ref t), some (.ref pn), some (.ref pf), some (.ref po), some (txtV z), some (.int (run cs rw' 0 z)), some (.int (run cs rows 0 z)), a8] ∧ H' po = some (.lst ((addA [] (((txs cs n).take (i + 1)).map (run cs rw' 0))).map .int)), ?_, ?_⟩
      · refine ⟨_, rfl, _, rfl, po, _, rfl, .inl (SqL.of ho), rfl, flat_ints _, _, rfl, ?_⟩
        show (if (!inV (.int (run cs rw' 0 z)) ((addA [] (((txs cs n).take i).map (run cs rw' 0))).map .int)) = true then _ else _)
        rw [inV_ints]
        by_cases hm : run cs rw' 0 z ∈ addA [] (((txs cs n).take i).map (run cs rw' 0))
        · rw [decide_eq_true hm]
          rw [if_pos hm] at ea
          exact iteF ⟨e3, rfl, by rw [ea]; exact ho⟩
        · rw [decide_eq_false hm]
          rw [if_neg hm] at ea
          have hal := addA_ints_len (((txs cs n).take i).map (run cs rw' 0))
          rw [List.length_map, List.length_take] at hal
          refine iteT ⟨_, rfl, .inl ⟨rfl, _, SqL.of ho⟩, _, rfl, po, _, _, rfl, rfl, ho, by rw [List.length_map, sizeLine_eq]; omega, same_upd e3 hpo, rfl, ?_⟩
          rw [upd_same, ea, List.map_append]
          rfl
      rintro σ3 H3 ⟨e4, rfl, ho3⟩
      have em3 : Same H H3 := e1.trans e4
      have Lm3 := L.mono em3
      -- told
      refine ⟨_, rfl, x, dx, fs, rfl, em3 _ _ h1, hnm _ (by decide +kernel) (by decide +kernel) (by decide +kernel) (by decide +kernel), _, rfl, x, _, cs, rw', en', ns, rfl, Lm3, q0, q1, ?_⟩
      refine ⟨_, rfl, x, dx, fs, rfl, em3 _ _ h1, hnm _ (by decide +kernel) (by decide +kernel) (by decide +kernel) (by decide +kernel), _, rfl, x, _, cs, rw', en', ns, rfl, Lm3, q0, q1, ?_⟩
      refine ⟨_, rfl, _, rfl, x, dx, fs, rfl, em3 _ _ h1, x, _, cs, rw', en', ns, rfl, ha, Lm3, W', .inr ⟨z, rfl, hzo, by omega, fun H4 e5 => ⟨_, rfl, ?_⟩⟩⟩
      have em4 : Same H H4 := em3.trans e5
      refine ⟨by show 3 ≤ sizeLine; decide, fun ptl hptl => ?_⟩
      have b1 : decide (run cs rw' 0 z ∈ en') = decide (run cs rows 0 z ∈ ends) := decide_eq_decide.mpr (al.1 z hzo)
      have b2 : decide (run cs rw' 0 z ∈ ns) = decide (run cs rows 0 z ∈ fd) := decide_eq_decide.mpr (by rw [hns _ q0 q1, live_iff al hzo, hfd _ o0 o1])
      rw [show (if false = true then !decide (run cs rw' 0 z ∈ en') else decide (run cs rw' 0 z ∈ en')) = decide (run cs rw' 0 z ∈ en') from rfl, b1, b2]
      have e6 : Same H4 (upd H4 ptl (.lst [.bl (decide (run cs rows 0 z ∈ ends)), .bl (decide (run cs rows 0 z ∈ fd)), .bl (decide (run cs rows 0 z ∈ ends))])) := same_new hptl
      have htl : (upd H4 ptl (.lst [.bl (decide (run cs rows 0 z ∈ ends)), .bl (decide (run cs rows 0 z ∈ fd)), .bl (decide (run cs rows 0 z ∈ ends))])) ptl = _ := upd_same
      refine ⟨_, rfl, ptl, boolsD [decide (run cs rows 0 z ∈ ends), decide (run cs rows 0 z ∈ fd), decide (run cs rows 0 z ∈ ends)], rfl, .lst (SqL.of htl) (.cons (.bl _) (.cons (.bl _) (.cons (.bl _) .nil))), (bools_ok _ (by show 3 ≤ 100000; decide)).1, (bools_ok _ (by show 3 ≤ 100000; decide)).2.1, (bools_ok _ (by show 3 ≤ 100000; decide)).2.2.1, (bools_ok _ (by show 3 ≤ 100000; decide)).2.2.2, ?_⟩
      generalize (upd H4 ptl (.lst [.bl (decide (run cs rows 0 z ∈ ends)), .bl (decide (run cs rows 0 z ∈ fd)), .bl (decide (run cs rows 0 z ∈ ends))])) = H5 at e6 htl
      have em5 : Same H H5 := em4.trans e6
      have e15 : Same H1 H5 := (e4.trans e5).trans e6
      refine ⟨_, rfl, _, rfl, t, _, _, _, rfl, rfl, SqT.of (em5 _ _ m1), rfl, pe, _, rfl, .inl (SqL.of (em5 _ _ m4)), rfl, flat_ints _, ?_⟩
      refine ⟨_, rfl, _, rfl, pf, _, rfl, .inl (SqL.of (e15 _ _ hf)), rfl, flat_ints _, ?_⟩
      refine ⟨_, rfl, _, rfl, t, _, _, _, rfl, rfl, SqT.of (em5 _ _ m1), rfl, pe, _, rfl, .inl (SqL.of (em5 _ _ m4)), rfl, flat_ints _, by show 3 ≤ sizeLine; decide, fun p2 hp2 => ?_⟩
      have e7 := same_new (o := .lst [V.bl (inV (.int (run cs rows 0 z)) (ends.map .int)), V.bl (inV (.int (run cs rows 0 z)) (fd.map .int)), V.bl (inV (.int (run cs rows 0 z)) (ends.map .int))]) hp2
      have hp2' : (upd H5 p2 (.lst [V.bl (inV (.int (run cs rows 0 z)) (ends.map .int)), V.bl (inV (.int (run cs rows 0 z)) (fd.map .int)), V.bl (inV (.int (run cs rows 0 z)) (ends.map .int))])) p2 = some (.lst [.bl (decide (run cs rows 0 z ∈ ends)), .bl (decide (run cs rows 0 z ∈ fd)), .bl (decide (run cs rows 0 z ∈ ends))]) := by rw [upd_same, inV_ints, inV_ints]
      refine ⟨p2, boolsD [decide (run cs rows 0 z ∈ ends), decide (run cs rows 0 z ∈ fd), decide (run cs rows 0 z ∈ ends)], rfl, .lst (SqL.of hp2') (.cons (.bl _) (.cons (.bl _) (.cons (.bl _) .nil))), (bools_ok _ (by show 3 ≤ 100000; decide)).1, (bools_ok _ (by show 3 ≤ 100000; decide)).2.1, (bools_ok _ (by show 3 ≤ 100000; decide)).2.2.1, (bools_ok _ (by show 3 ≤ 100000; decide)).2.2.2, rfl, _, rfl, ?_⟩
      refine ite2 (fun z' => absurd z' (by
        show ¬ (!decide (V.str _ = V.str _)) = true
        simp)) (fun _ => ?_)
      exact ⟨e15.trans e7, _, _, _, _, rfl, (e15.trans e7 : Same H1 _) |> fun _ => ((e5.trans e6).trans e7) _ _ ho3⟩
    · rintro σ H2 ⟨e3, a5, a6, a7, a8, rfl, ho⟩
      rw [List.length_map, List.take_length, least_order nd ha.one W' Le al n (by omega)] at ho
      have em : Same H H2 := e1.trans e3
      refine ⟨_, rfl, _, rfl, x, dx, fs, rfl, em _ _ h1, x, cs, rw', en', ns, rfl, L.mono em, _, rfl, by omega, by omega, _, rfl, RgOk.of_le (by decide) (by omega) (by decide) (by omega), fun p hp => ?_⟩
      have e4 := same_new (o := .lst (rgV 0 (rw'.length : Nat))) hp
      have erg : rgV 0 ((rw'.length : Nat) : Int) = ((List.range rw'.length).map Int.ofNat).map V.int := by
        unfold rgV
        rw [List.map_map, show (((rw'.length : Nat) : Int) - 0).toNat = rw'.length by omega]
        refine List.map_congr_left fun i _ => ?_
        show V.int (0 + (i : Int)) = V.int (Int.ofNat i)
        rw [Int.zero_add]
        rfl
      have hp' : (upd H2 p (.lst (rgV 0 (rw'.length : Nat)))) p = some (.lst (((List.range rw'.length).map Int.ofNat).map V.int)) := by rw [upd_same, erg]
      refine ⟨.list (((List.range rw'.length).map Int.ofNat).map .int), .list (((List.range rw'.length).map Int.ofNat).map .int), .lst (SqL.of (e4 _ _ ho)) (dp_map (fun i => .int i) _), .lst (SqL.of hp') (dp_map (fun i => .int i) _), leaf_ints _, leaf_ints _, ?_⟩
      rw [SeqAt.eqv_refl _ (SeqAt.canLay_of_shaped (leaf_ints _))]
      exact k _ (em.trans e4)
end
end SS

set_option maxRecDepth 100000
set_option maxHeartbeats 4000000
set_option pp.maxSteps 1500
namespace SR
open PySem PySem.Spec PyProof.Rows L2
/-- a op1 b op2 c op3 d -/
def tChain3 (r r' r'' : R2) (ta tb tc td : TE) : TE := fun σ H Q => ta σ H fun x H1 => tb σ H1 fun y H2 => r x y H2 fun z H3 => ∃ k, z = .bl k ∧
  (if k = true then tc σ H3 fun w' H4 => r' y w' H4 fun z' H5 => ∃ k', z' = .bl k' ∧ (if k' = true then td σ H5 fun v' H6 => r'' w' v' H6 Q else Q (.bl false) H5) else Q (.bl false) H3)
theorem pe_chain3 {X : Cx} {a b c d : Expr} {ta tb tc td : TE} {pos : Pos} {op op' op'' : CmpOp} {r r' r'' : R2} (ho : OpR X (compareOp op) r) (ho' : OpR X (compareOp op') r') (ho'' : OpR X (compareOp op'') r'') (ha : PE X a ta) (hb : PE X b tb) (hc : PE X c tc) (hd : PE X d td)
    (hm : lastMarks [op, op', op''] [b, c, d] = false := by with_unfolding_all rfl) : PE X (.Compare a [op, op', op''] [b, c, d] pos) (tChain3 r r' r'' ta tb tc td) := by
  refine ⟨fun pins s σ H Q I h => ?_⟩
  refine Compare_chain (thn (ha.run pins s σ H _ I h) fun v s1 ⟨x, H1, I1, r1, q1⟩ => chain_link (thn (hb.run pins s1 σ H1 _ I1 q1) fun u s2 ⟨y, H2, I2, r2, q2⟩ =>
    thn (ho pins s2 σ H2 x y v u _ I2 r1 r2 q2) fun d s3 ⟨z, H3, I3, r3, k, e, q3⟩ => ?_)) hm
  subst e
  cases r3
  refine wpAny_truthy_bool ?_
  cases k with
  | false => exact ite_ff ⟨.bl false, H3, I3, rfl, q3⟩
  | true =>
    refine ite_tt (chain_link (thn (hc.run pins s3 σ H3 _ I3 q3) fun w' s4 ⟨z', H4, I4, r4, q4⟩ => thn (ho' pins s4 σ H4 y z' u w' _ I4 r2 r4 q4) fun d' s5 ⟨z5, H5, I5, r5, k', e', q5⟩ => ?_))
    subst e'
    cases r5
    refine wpAny_truthy_bool ?_
    cases k' with
    | false => exact ite_ff ⟨.bl false, H5, I5, rfl, q5⟩
    | true => exact ite_tt (chain_last (thn (hd.run pins s5 σ H5 _ I5 q5) fun w'' s6 ⟨z6, H6, I6, r6, q6⟩ => ho'' pins s6 σ H6 z' z6 w' w'' Q I6 r4 r6 q6))
end SR
namespace SS
open PySem L2 SR TL
theorem full_txs (cs : List Nat) (n : Nat) : Full cs n (txs cs n) := ⟨fun x hx => mem_txs.mp hx, fun x hx hl => mem_txs.mpr ⟨hx, hl⟩⟩
/-- what is shown of a state -/
def shS (cs : List Nat) (r : List (List Int)) (en : List Int) (k : Nat) (s : Nat) : Str := (boolsD (trc cs r en (txs cs k) (s : Int))).shown
theorem same_len {α : Type} [DecidableEq α] {a b : List α} (ha : a.Nodup) (hb : b.Nodup) (h : ∀ x, x ∈ a ↔ x ∈ b) : a.length = b.length := by
  have key : ∀ (a b : List α), a.Nodup → (∀ x ∈ a, x ∈ b) → a.length ≤ b.length := by
    intro a
    induction a with
    | nil => intro b _ _; exact Nat.zero_le _
    | cons x a ih =>
      intro b nd hs
      obtain ⟨n1, n2⟩ := List.nodup_cons.mp nd
      have hx := hs x List.mem_cons_self
      have := ih (b.erase x) n2 fun y hy => (List.mem_erase_of_ne (fun e : y = x => n1 (by rw [← e]; exact hy))).mpr (hs y (List.mem_cons_of_mem _ hy))
      rw [List.length_erase_of_mem hx] at this
      have hp := List.length_pos_of_mem hx
      rw [List.length_cons]
      omega
  exact Nat.le_antisymm (key a b ha fun x hx => (h x).mp hx) (key b a hb fun x hx => (h x).mpr hx)
section
variable {P : Program} {w : World} {K : PySem.W.Frag} {mg : Str → Option Value} {base : Heap}
/-- the class's constant -/
structure LgM (K : PySem.W.Frag) (C : Addr) : Prop where
  mx : ∃ mc u, ClX.CRead K C mc ∧ ClX.CVal K C mc "MAX_STATES" (.int 6) u
abbrev sApt : Stmt := top 47
abbrev nApt : List Str := ["_law_made", "_law_abc", "_law_shown", "_law_spot_here", "_law_flags", "_law_note", "_law_at", "_law_letter"]
abbrev psApt : List Str := ["_law_made", "_law_abc"]
theorem scApt : FnScope nApt psApt (defScope sApt) := ⟨rfl, rfl, rfl, by decide +kernel, rfl, by decide +kernel, by decide +kernel⟩
def spApt (C : Addr) : Sp := fun vs H Q _ => ∃ (x : Addr) (cs : List Nat) (rows : List (List Int)) (ends : List Int), vs = [.ref x, .str (txt cs)] ∧ Abc cs ∧ rows.length ≤ 5 ∧ LangAt 5 C H x cs rows ends ∧ ∀ H', Same H H' → Q (.bl true) H'
theorem ok_apt {f C : Addr} {fd : FuncData} (F : Fun K "_law_apart" "_law_apart" sApt f fd) (B : Bl mg) (G : Lg P w K mg base C) (GM : LgM K C) (Te : Cal P w K mg base "_law_texts" 1 ["_law_abc", "_law_cap"] spTexts) : FnG P w K mg base 4 f fd psApt (spApt C) := by
  obtain ⟨fE, dE, eM, eF, eB⟩ := G.mem
  obtain ⟨fM, dM, mM, mF, mB⟩ := G.mov
  obtain ⟨fN, dN, nF, nA, nI, nB⟩ := G.len
  obtain ⟨mc, mu, cR, cV⟩ := GM.mx
  have T := G.tx
  refine okG F scApt (fun vs H Q E h => ?_) (fun cdv A outer s H vs Q E hr hgd h => ?_)
  · obtain ⟨x, cs, rows, ends, rfl, _⟩ := h
    rfl
  · obtain ⟨x, cs, rows, ends, rfl, ha, h5, LA, k⟩ := h
    have hr1 := hr.mono (by decide : 1 ≤ 3)
    have hr2 := hr.mono (by decide : 2 ≤ 3)
    have hu5 := u65 hr
    obtain ⟨rw', en', ns, L, W', al, Le, hns, hnr⟩ := LA.ex
    obtain ⟨dx, pt, pm, pl, fs, h1, h2, h3, h4, h5', h6, h7, h8, h9⟩ := L.ex
    have nd : cs.Nodup := ris_nodup ha.ris
    have hrl : rw'.length ≤ 5 := Nat.le_trans (least_len Le) h5
    have hone' := W'.one
    refine ⟨_, pss_cons (ps_set (i := 2) scApt.nd rfl (.inl rfl) (pe_lst pa_nil))
      (pss_cons (ps_for PassesOwn.never rfl (pi_range1 (by rfl) B.range (pa_cons (pe_callB (call_ownLen (FnG.of nF) hr2 hgd nA nI nB) (by rfl) B.len boot_len (pa_cons (pv 0) pa_nil)) pa_nil)) (pg_name (i := 3) scApt.nd rfl (.inl rfl))
        (pss_cons (ps_set (i := 4) scApt.nd rfl (.inl rfl) (pe_lst pa_nil))
      (pss_cons (ps_for PassesOwn.never rfl (pi_list (pe_cal Te hr1 (pa_cons (pv 1) (pa_cons (pe_ifExp (pt_cmpR op_lt (pe_callB call_len_str (by rfl) B.len boot_len (pa_cons (pv 1) pa_nil)) pe_int (nomark _)) pe_int pe_int) pa_nil)))) (pg_name (i := 5) scApt.nd rfl (.inl rfl))
        (pss_cons (ps_set (i := 6) scApt.nd rfl (.inl rfl) (pv 3))
      (pss_cons (ps_for PassesOwn.never rfl (pi_str (pv 5)) (pg_name (i := 7) scApt.nd rfl (.inl rfl))
        (pss_one (ps_set (i := 6) scApt.nd rfl (.inl rfl) (pe_meth (pv 0) T.cl mM mF hr mB .nil pass0 (pa_cons (pv 6) (pa_cons (pv 7) pa_nil))))))
      (pss_one (ps_expr (pe_bm PySem.F.plainAttrs_list PySem.F.slot_list_append PySem.F.type_list_append mt_append (pv 4) (pa_cons (pe_meth (pv 0) T.cl eM eF hr eB .nil pass0 (pa_cons (pv 6) pa_nil)) pa_nil)))))))
      (pss_one (ps_expr (pe_bm PySem.F.plainAttrs_list PySem.F.slot_list_append PySem.F.type_list_append mt_append (pv 2) (pa_cons (pe_callB (call_reprD hgd hu5) (by rfl) B.repr (by decide +kernel) (pa_cons (pv 4) pa_nil)) pa_nil)))))))
      (pss_one (ps_ret (pe_chain3 op_eq op_le op_eq (pe_callB cr_lenK (by rfl) B.len boot_len (pa_cons (pe_callTy (cr_setK rfl) (by rfl) B.set (by decide +kernel) (pa_cons (pv 2) pa_nil)) pa_nil)) (pe_callB (call_ownLen (FnG.of nF) hr2 hgd nA nI nB) (by rfl) B.len boot_len (pa_cons (pv 0) pa_nil)) (ClX.pe_cval (pe_glob (v := .ref C) rfl T.mgC rfl)) pe_int)))), ?_⟩
    refine ⟨by show 0 ≤ sizeLine; decide, fun ps hps => ?_⟩
    have e1 : Same H (upd H ps (.lst [])) := same_new hps
    refine ⟨_, rfl, x, dx, fs, rfl, e1 _ _ h1, x, cs, rw', en', ns, rfl, L.mono e1, _, rfl, by omega, by omega, _, rfl, by omega, by omega, ?_⟩
    rw [Int.toNat_natCast]
    obtain ⟨kk, hkk⟩ : ∃ kk : Nat, kk = if cs.length < 3 then 5 else 4 := ⟨_, rfl⟩
    have hk4 : 4 ≤ kk ∧ kk ≤ 5 := by
      by_cases h : cs.length < 3
      · rw [if_pos h] at hkk; omega
      · rw [if_neg h] at hkk; omega
    have hlen : (txs cs kk).length ≤ 10000 := by
      have a1 := len_txs4 ha.four kk
      have a2 : 4 ^ kk ≤ 4 ^ 5 := Nat.pow_le_pow_right (by decide) hk4.2
      have a3 : (4 : Nat) ^ 5 = 1024 := by decide
      omega
    refine for_it (walk_range (lo := 0) (n := rw'.length)) (fun i σ H' => Same H H' ∧ ∃ a3 a4 a5 a6 a7, σ = [some (.ref x), some (.str (txt cs)), some (.ref ps), a3, a4, a5, a6, a7] ∧ H' ps = some (.lst (((List.range i).map (shS cs rw' en' kk)).map .str))) ⟨e1, none, none, none, none, none, rfl, upd_same⟩ (fun _ _ _ _ _ => trivial) ?_ ?_
    · rintro i v σ H1 H1' hi ⟨em, a3, a4, a5, a6, a7, rfl, hs1⟩ ⟨rfl, rfl⟩
      refine ⟨by show 0 ≤ sizeLine; decide, fun pf hpf => ?_⟩
      have e2 : Same H1' (upd H1' pf (.lst [])) := same_new hpf
      have hpfH : H pf = none := em.free hpf
      refine ⟨_, rfl, _, rfl, _, rfl, ?_, _, _, rfl, rfl, _, rfl, ?_⟩
      · rw [txt_len, sizeLine_eq]
        have := ha.four
        omega
      rw [txt_len]
      refine ite2 (fun hd => ⟨cs, kk, by rw [hkk, if_pos (by have := of_decide_eq_true hd; omega)]; rfl, ha, by omega, fun p H2 hp e3 hn => ?_⟩) (fun hd => ⟨cs, kk, by rw [hkk, if_neg (fun z => hd (decide_eq_true (by omega)))]; rfl, ha, by omega, fun p H2 hp e3 hn => ?_⟩)
      all_goals
        have npf : p ≠ pf := fun z => by rw [z, upd_same] at hp; cases hp
        have hpf2 := e3 _ _ (upd_same (H := H1') (a := pf) (o := .lst []))
        refine ⟨p, rfl, ⟨_, SqL.of hn⟩, for_it (walk_list (K := K) (a := p) (xs := (txs cs kk).map txtV)) (fun j σ H' => Same H1' H' ∧ H' p = some (.lst ((txs cs kk).map txtV)) ∧ ∃ a5 a6 a7, σ = [some (.ref x), some (.str (txt cs)), some (.ref ps), some (.int (0 + (i : Nat))), some (.ref pf), a5, a6, a7] ∧ H' pf = some (.lst ((trc cs rw' en' ((txs cs kk).take j) (i : Int)).map .bl))) ⟨e2.trans e3, hn, a5, a6, a7, rfl, hpf2⟩ (fun j σ H' _ p => SqL.of p.2.1) ?_ ?_⟩
        · rintro j v σ H3 H3' hj ⟨e4, hn3, b5, b6, b7, rfl, hf3⟩ ⟨rfl, hv⟩
          rw [List.getElem?_map] at hv
          obtain ⟨z, hz, rfl⟩ := Option.map_eq_some_iff.mp hv
          obtain ⟨hzo, hzl⟩ := mem_txs.mp (List.mem_of_getElem? hz)
          have em3 : Same H H3' := em.trans e4
          have Lm := L.mono em3
          have hi0 : (0 : Int) + ((i : Nat) : Int) = (i : Int) := Int.zero_add _
          refine ⟨_, rfl, _, rfl, _, rfl, for_it walk_str (fun m σ H' => H' = H3' ∧ ∃ a7, σ = [some (.ref x), some (.str (txt cs)), some (.ref ps), some (.int (0 + (i : Nat))), some (.ref pf), some (txtV z), some (.int (run cs rw' (i : Int) (z.take m))), a7]) ⟨rfl, b7, by rw [show run cs rw' (i : Int) (z.take 0) = 0 + (i : Int) by rw [hi0]; rfl]; rfl⟩ (fun _ _ _ _ _ => trivial) ?_ ?_⟩
          · rintro m v σ H4 H5 hm ⟨rfl, c7, rfl⟩ ⟨rfl, c, hc, rfl⟩
            have hc' : z[m]? = some c := by simpa [txt] using hc
            have hmz : c ∈ z := List.mem_of_getElem? hc'
            obtain ⟨s0, s1⟩ := W'.run_ok (z.take m) (i : Int) (by omega) (by omega) fun d hd => hzo d (List.mem_of_mem_take hd)
            refine ⟨_, rfl, x, dx, fs, rfl, em3 _ _ h1, h6 _ (by decide +kernel) (by decide +kernel) (by decide +kernel) (by decide +kernel), _, rfl, _, rfl, x, _, c, cs, rw', en', ns, rfl, Lm, W', s0, s1, rfl, some (ltV c), ?_⟩
            have et : z.take (m + 1) = z.take m ++ [c] := by rw [List.take_add_one, hc']; rfl
            unfold mvV
            rw [if_pos (hzo c hmz), et, run_app]
            rfl
          · rintro σ H4 ⟨rfl, c7, rfl⟩
            have hzz : (txt z).cps.size = z.length := by simp [txt]
            rw [hzz, List.take_length]
            obtain ⟨s0, s1⟩ := W'.run_ok z (i : Int) (by omega) (by omega) hzo
            refine ⟨_, rfl, .inl ⟨rfl, _, SqL.of hf3⟩, _, rfl, x, dx, fs, rfl, em3 _ _ h1, h6 _ (by decide +kernel) (by decide +kernel) (by decide +kernel) (by decide +kernel), _, rfl, x, _, cs, rw', en', ns, rfl, Lm, s0, s1, pf, _, _, rfl, rfl, hf3, ?_, ?_⟩
            · rw [List.length_map]
              unfold trc
              rw [List.length_map, List.length_take, sizeLine_eq]
              omega
            · refine ⟨same_upd e4 hpf, by rw [upd_ne npf]; exact hn3, _, _, _, rfl, ?_⟩
              have et : (txs cs kk).take (j + 1) = (txs cs kk).take j ++ [z] := by rw [List.take_add_one, hz]; rfl
              rw [upd_same, et]
              unfold trc
              rw [List.map_append, List.map_append]
              rfl
        · rintro σ H3 ⟨e4, hn3, b5, b6, b7, rfl, hf3⟩
          rw [List.length_map, List.take_length] at hf3
          have hs3 := e4 _ _ hs1
          have htl : (trc cs rw' en' (txs cs kk) (i : Int)).length ≤ 100000 := by
            unfold trc
            rw [List.length_map]
            omega
          obtain ⟨o1, o2, o3, o4⟩ := bools_ok _ htl
          refine ⟨_, rfl, .inl ⟨rfl, _, SqL.of hs3⟩, _, rfl, pf, boolsD (trc cs rw' en' (txs cs kk) (i : Int)), rfl, .lst (SqL.of hf3) (dp_map (fun b => .bl b) _), o1, o2, o3, o4, ps, _, _, rfl, rfl, hs3, by rw [List.length_map, List.length_map, List.length_range, sizeLine_eq]; omega, ?_⟩
          refine ⟨same_upd (em.trans e4) hps, _, _, _, _, _, rfl, ?_⟩
          rw [upd_same, List.range_succ, List.map_append, List.map_append]
          rfl
    · rintro σ H1 ⟨em, a3, a4, a5, a6, a7, rfl, hs1⟩
      have shn : ((List.range rw'.length).map (shS cs rw' en' kk)).Nodup := by
        refine List.pairwise_map.mpr (List.Pairwise.imp_of_mem (fun {a b} ha' hb' hab e => hab ?_) List.nodup_range)
        have a1 := List.mem_range.mp ha'
        have b1 := List.mem_range.mp hb'
        have e2 := bools_inj (by unfold trc; rw [List.length_map, List.length_map]) e
        have e3 := (trc_iff (full_txs cs kk)).mp e2
        have e4 := least_apart nd Le al (p := (a : Int)) (q := (b : Int)) (by omega) (by omega) (by omega) (by omega) (e3.mono (by omega))
        omega
      have hks : ((List.range rw'.length).map (shS cs rw' en' kk)).map V.str = (((List.range rw'.length).map (shS cs rw' en' kk)).map fun z => (Sum.inr z : Key)).map kV := by
        rw [List.map_map, List.map_map, List.map_map]
        rfl
      rw [hks] at hs1
      refine ⟨_, rfl, _, .inl ⟨ps, rfl, .inl (SqL.of hs1)⟩, by rw [List.length_map, List.length_map, List.length_range]; omega, fun pq l hpq hnd hl hle => ⟨pq, l, rfl, upd_same, _, rfl, x, dx, fs, rfl, (em.trans (same_new hpq)) _ _ h1, x, cs, rw', en', ns, rfl, L.mono (em.trans (same_new hpq)), _, rfl, by omega, by omega, rfl, _, rfl, ?_⟩⟩
      have hll : l.length = rw'.length := by
        rw [same_len hnd (List.Pairwise.map (R := fun a b => a ≠ b) _ (fun a b hab e => hab (Sum.inr.inj e)) shn) hl, List.length_map, List.length_map, List.length_range]
      rw [show decide (V.int ((l.length : Nat) : Int) = V.int ((rw'.length : Nat) : Int)) = true from decide_eq_true (by rw [hll])]
      refine iteT ⟨C, mc, _, mu, rfl, cR, cV, _, _, rfl, rfl, _, rfl, ?_⟩
      rw [show decide (((rw'.length : Nat) : Int) ≤ 6) = true from decide_eq_true (by omega)]
      exact iteT ⟨rfl, k _ (em.trans (same_new hpq))⟩
end
end SS

set_option maxRecDepth 100000
set_option maxHeartbeats 4000000
set_option pp.maxSteps 1500
namespace SS
open PySem L2 SR TL
def txtsD (xs : List (List Nat)) : PyData := .list (xs.map fun x => .str (txt x))
theorem leaf_txt {x : List Nat} (h : ∀ c ∈ x, c < 123) : Leaf (.str (txt x)) := ⟨by
    show PyData.strOk (txt x) = true
    unfold PyData.strOk
    rw [show (txt x).cps.all (fun x => decide (x < 1114112)) = x.all (fun x => decide (x < 1114112)) by simp [txt], List.all_eq_true]
    intro c hc
    have hm := h c hc
    exact decide_eq_true (by omega), by simp [PyData.depth]⟩
theorem leaf_txts {xs : List (List Nat)} (h : ∀ x ∈ xs, ∀ c ∈ x, c < 123) : SeqAt.shaped (txtsD xs) = true := leaf_list fun d hd => by
  obtain ⟨x, hx, rfl⟩ := List.mem_map.mp hd
  exact leaf_txt (h x hx)
def rLenS : List V → Hp → VK → Prop := fun xs H Q => ∃ z : Str, xs = [.str z] ∧ z.length ≤ sizeLine ∧ Q (.int z.length) H
/-- the keywords of members, in the order of the parameters -/
def gMb {α : Type} : List α → List α → List α
  | [], [m, l] => [l, m]
  | _, _ => []
section
variable {P : Program} {w : World} {K : PySem.W.Frag} {mg : Str → Option Value} {base : Heap}
structure MbC (P : Program) (w : World) (K : PySem.W.Frag) (mg : Str → Option Value) (base : Heap) (C : Addr) : Prop where
  ex : ∃ f fd, GFn P w K mg base 2 f fd psMbr (spMbr C) ∧ mg "members" = some (.ref f) ∧ PySem.W.keepIn K (.ref f) = true ∧ Binds K fd psMbr [] ∧ KBn K fd psMbr 0 ["most", "language"] gMb gMb
abbrev sMbR : Stmt := top 48
abbrev nMbR : List Str := ["_law_made", "_law_machine", "_law_notes", "_law_size", "_law_due", "_law_note", "_law_firsts"]
abbrev psMbR : List Str := ["_law_made", "_law_machine", "_law_notes"]
theorem scMbR : FnScope nMbR psMbR (defScope sMbR) := ⟨rfl, rfl, rfl, by decide +kernel, rfl, by decide +kernel, by decide +kernel⟩
def spMbR (C : Addr) : Sp := fun vs H Q _ => ∃ (x t pn : Addr) (cs : List Nat) (rows : List (List Int)) (ends : List Int) (n : Nat), vs = [.ref x, .ref t, .ref pn] ∧ Abc cs ∧ WfM cs rows ends ∧ rows.length ≤ 5 ∧ LangAt 5 C H x cs rows ends ∧ Mach H cs t rows ends ∧ n = (if cs.length < 3 then 6 else 4) ∧ H pn = some (.lst ((txs cs n).map txtV)) ∧ ∀ H', Same H H' → Q (.bl true) H'
theorem ok_mbR {f C : Addr} {fd : FuncData} (F : Fun K "_law_members_right" "_law_members_right" sMbR f fd) (B : Bl mg) (G : Lg P w K mg base C) (Mb : MbC P w K mg base C) (Be : Cal P w K mg base "_law_belongs" 1 ["_law_machine", "_law_note"] spBelongs) (Lt : Cal P w K mg base "least_text" 6 ["language"] (spLtx C)) : FnG P w K mg base 7 f fd psMbR (spMbR C) := by
  obtain ⟨fX, dX, xF, xM, xK, xB, xN⟩ := Mb.ex
  obtain ⟨pE, gE, dE, PE', GE, bE⟩ := G.emp
  have T := G.tx
  refine okG F scMbR (fun vs H Q E h => ?_) (fun cdv A outer s H vs Q E hr hgd h => ?_)
  · obtain ⟨x, t, pn, cs, rows, ends, n, rfl, _⟩ := h
    rfl
  · obtain ⟨x, t, pn, cs, rows, ends, n, rfl, ha, W, h5, LA, Mc, hnn, hn, k⟩ := h
    have hr1 := hr.mono (by decide : 1 ≤ 6)
    have hr2 := hr.mono (by decide : 2 ≤ 6)
    have hr5 := hr.mono (by decide : 5 ≤ 6)
    obtain ⟨rw', en', ns, L, W', al, Le, hns, hnr⟩ := LA.ex
    obtain ⟨dx, pt, pm, pl, fs, h1, h2, h3, h4, h5', h6, h7, h8, h9⟩ := L.ex
    obtain ⟨pr, pe, qs, m1, m2, m3, m4⟩ := Mc.ex
    have nd : cs.Nodup := ris_nodup ha.ris
    have hrl : rw'.length ≤ 5 := Nat.le_trans (least_len Le) h5
    have hone := W.one
    refine ⟨_, pss_cons (ps_for PassesOwn.never rfl (pi_range1 (by rfl) B.range (pa_cons (pe_ifExp (pt_cmpR op_lt (pe_callB call_len_str (by rfl) B.len boot_len (pa_cons (pe_ix ix_tup (pv 1) pe_int (fun _ _ => rfl)) pa_nil)) pe_int (nomark _)) pe_int pe_int) pa_nil)) (pg_name (i := 3) scMbR.nd rfl (.inr rfl))
        (pss_cons (ps_setLc (i := 4) (own := [("_law_note", 5)]) (g := gName 5) (tt := tAnd (tTest (tOp (rI0 fun i j => .bl (decide (i ≤ j))) (tCB rLenS (tCons (tVar 5) tNil)) (tVar 3))) (tB (tCall spBelongs [] E0 (tCons (tVar 1) (tCons (tVar 5) tNil))))) (te := tVar 5) rfl scMbR.nd rfl rfl (sw_true rfl rfl rfl (by decide +kernel)) (pi_list (pv 2)) (blkOk_by (by kernel_rfl)) (fun _ _ _ _ _ => pg_name (i := 5) scMbR.nd rfl (.inl rfl)) (fun _ _ _ _ _ => pts_one (PW.pt (pw_and (pt_cmpR op_le (pe_callB call_len_str (by rfl) B.len boot_len (pa_cons (pv 5) pa_nil)) (pv 3) (nomark _)) (pw_and1 (pt_val (pe_cal Be hr1 (pa_cons (pv 1) (pa_cons (pv 5) pa_nil)))))))) (fun _ _ _ _ _ => pv 5))
      (pss_one (ps_if (PW.pt (pw_or (pt_cmpR (op_neD hr.units) (pe_listG (pgen_call xF hr2 (by rfl) xM xK xB .nil (pa_cons (pv 0) (pa_cons (pv 3) pa_nil))) passG0 noStop0 hr5 (by rfl) B.list (by decide +kernel)) (pv 4) (nomark _)) (pw_or1 (pt_cmpR (op_neD hr.units) (pe_listG (pgen_callK0 xF hr2 (by rfl) xM xK xN (pk_cons (pv 3) (pk_cons (pv 0) pk_nil))) passG0 noStop0 hr5 (by rfl) B.list (by decide +kernel)) (pv 4) (nomark _)))))
        (pss_one (ps_ret pe_bl)) pss_nil))))
      (pss_cons (ps_setLc (i := 6) (own := [("_law_note", 5)]) (g := gName 5) (tt := tB (tCall spBelongs [] E0 (tCons (tVar 1) (tCons (tVar 5) tNil)))) (te := tVar 5) rfl scMbR.nd rfl rfl (sw_true rfl rfl rfl (by decide +kernel)) (pi_list (pv 2)) (blkOk_by (by kernel_rfl)) (fun _ _ _ _ _ => pg_name (i := 5) scMbR.nd rfl (.inl rfl)) (fun _ _ _ _ _ => pts_one (pt_val (pe_cal Be hr1 (pa_cons (pv 1) (pa_cons (pv 5) pa_nil))))) (fun _ _ _ _ _ => pv 5))
      (pss_one (ps_ret (pe_and (pe_cmpR op_eq (pe_cal Lt hr (pa_cons (pv 0) pa_nil)) (pe_ix ix_list (pe_op op_cat (pv 6) (pe_lst (pa_cons pe_non pa_nil))) pe_int (fun _ _ => rfl)) (nomark _)) (pe_one (pe_cmpR op_eq (pe_callB call_repr_bl (by rfl) B.repr (by decide +kernel) (pa_cons (pe_prop (pv 0) T.cl PE' GE hr2 bE .nil pass0 (by rfl)) pa_nil)) (pe_callB call_repr_bl (by rfl) B.repr (by decide +kernel) (pa_cons (pe_cmpR (op_eqD hr.units) (pv 6) (pe_lst pa_nil) (nomark _)) pa_nil)) (nomark _))))))), ?_⟩
    have n46 : 4 ≤ n ∧ n ≤ 6 := by
      by_cases h : cs.length < 3
      · rw [if_pos h] at hnn; omega
      · rw [if_neg h] at hnn; omega
    have hlen : (txs cs n).length ≤ 10000 := by
      have a1 := len_txs4 ha.four n
      have a2 : 4 ^ n ≤ 4 ^ 6 := Nat.pow_le_pow_right (by decide) n46.2
      have a3 : (4 : Nat) ^ 6 = 4096 := by decide
      omega
    have low : ∀ (m : Nat), ∀ x ∈ txs cs m, ∀ c ∈ x, c < 123 := fun m x hx c hc => (ha.abc c ((mem_txs.mp hx).1 c hc)).2
    have lowf : ∀ (m : Nat) (p : List Nat → Bool), ∀ x ∈ (txs cs m).filter p, ∀ c ∈ x, c < 123 := fun m p x hx => low m x (List.mem_filter.mp hx).1
    -- member texts of the machine
    have mm : ∀ m, (txs cs m).filter (isM cs rw' en') = (txs cs m).filter (isM cs rows ends) := fun m => List.filter_congr fun x hx => decide_eq_decide.mpr (al.1 x (mem_txs.mp hx).1)
    refine ⟨_, rfl, t, _, _, _, rfl, rfl, SqT.of m1, rfl, _, rfl, by rw [txt_len, sizeLine_eq]; have := ha.four; omega, _, _, rfl, rfl, _, rfl, ?_⟩
    rw [txt_len]
    refine ite2 (fun hd => ⟨((n : Nat) : Int), by rw [hnn, if_pos (by have := of_decide_eq_true hd; omega)]; rfl, by omega, by omega, ?_⟩) (fun hd => ⟨((n : Nat) : Int), by rw [hnn, if_neg (fun z => hd (decide_eq_true (by omega)))]; rfl, by omega, by omega, ?_⟩)
    all_goals
      rw [Int.toNat_natCast]
      refine for_it (walk_range (lo := 0) (n := n)) (fun i σ H' => Same H H' ∧ ∃ a3 a4 a5 a6, σ = [some (.ref x), some (.ref t), some (.ref pn), a3, a4, a5, a6]) ⟨Same.refl _, none, none, none, none, rfl⟩ (fun _ _ _ _ _ => trivial) ?_ ?_
      · rintro i v σ H1 H1' hi ⟨em, a3, a4, a5, a6, rfl⟩ ⟨rfl, rfl⟩
        refine ⟨_, rfl, pn, rfl, ⟨_, SqL.of (em _ _ hn)⟩, fun D hD => lc_S (walk_list (K := K) (a := pn) (xs := (txs cs n).map txtV)) hD (by rw [List.length_map]; omega) (fun j acc _ => acc = ((((txs cs n).take j).filter fun x => decide (x.length ≤ i) && isM cs rows ends x)).map txtV) (fun _ _ _ _ _ _ _ h => h) rfl (fun H' e' => SqL.of (e' _ _ (em _ _ hn))) ?_ ?_⟩
        · rintro j v H2 H2' acc Qt Qf hj e2 hd2 rfl ⟨rfl, hv⟩ kt kf
          rw [List.getElem?_map] at hv
          obtain ⟨z, hz, rfl⟩ := Option.map_eq_some_iff.mp hv
          obtain ⟨hzo, hzl⟩ := mem_txs.mp (List.mem_of_getElem? hz)
          have et : (txs cs n).take (j + 1) = (txs cs n).take j ++ [z] := by rw [List.take_add_one, hz]; rfl
          have em2 := em.trans e2
          refine ⟨rfl, _, rfl, _, rfl, by rw [txt_len, sizeLine_eq]; omega, _, rfl, _, _, rfl, rfl, _, rfl, ?_⟩
          rw [txt_len]
          have hdl : decide (((z.length : Nat) : Int) ≤ 0 + ((i : Nat) : Int)) = decide (z.length ≤ i) := decide_eq_decide.mpr (by omega)
          rw [hdl]
          by_cases hzi : z.length ≤ i
          · rw [decide_eq_true hzi]
            refine ⟨_, rfl, _, rfl, t, z, cs, rows, ends, rfl, W, Mc.mono em2, hzo, _, rfl, ?_⟩
            by_cases hm : run cs rows 0 z ∈ ends
            · rw [decide_eq_true hm]
              refine ⟨_, rfl, kt _ _ (Same.refl _) ?_⟩
              rw [et, List.filter_append, List.filter_cons_of_pos (by simp [hzi, isM, hm]), List.map_append]
              rfl
            · rw [decide_eq_false hm]
              refine kf _ (Same.refl _) ?_
              rw [et, List.filter_append, List.filter_cons_of_neg (by simp [hzi, isM, hm])]
              simp
          · rw [decide_eq_false hzi]
            refine kf _ (Same.refl _) ?_
            rw [et, List.filter_append, List.filter_cons_of_neg (by simp [hzi])]
            simp
        · rintro H2 acc e2 hd2 rfl
          rw [List.length_map, List.take_length] at hd2
          have edue : ((txs cs n).filter fun x => decide (x.length ≤ i) && isM cs rows ends x) = (txs cs i).filter (isM cs rows ends) := by
            obtain ⟨d, rfl⟩ : ∃ d, n = i + d := ⟨n - i, by omega⟩
            rw [← txs_filter cs i d, List.filter_filter]
            exact List.filter_congr fun x _ => by rw [Bool.and_comm]
          rw [edue] at hd2
          have em2 := em.trans e2
          have hii : (0 : Int) + ((i : Nat) : Int) = (i : Int) := Int.zero_add _
          refine ⟨_, rfl, _, rfl, x, i, cs, rw', en', ns, by show [V.ref x, V.int (0 + (i : Int))] ++ [] = _; rw [hii]; rfl, by omega, ha, L.mono em2, W', hns, fun H3 e3 p3 hp3 => ?_⟩
          rw [mm]
          have e4 := same_new (o := .lst (((txs cs i).filter (isM cs rows ends)).map txtV)) hp3
          have g4 : (upd H3 p3 (.lst (((txs cs i).filter (isM cs rows ends)).map txtV))) p3 = _ := upd_same
          generalize (upd H3 p3 (.lst (((txs cs i).filter (isM cs rows ends)).map txtV))) = H4 at e4 g4
          have e24 : Same H2 H4 := e3.trans e4
          refine ⟨_, rfl, txtsD ((txs cs i).filter (isM cs rows ends)), txtsD ((txs cs i).filter (isM cs rows ends)), .lst (SqL.of g4) (dp_map (fun x => .str _) _), .lst (SqL.of (e24 _ _ hd2)) (dp_map (fun x => .str _) _), leaf_txts (lowf i _), leaf_txts (lowf i _), _, rfl, ?_⟩
          rw [SeqAt.eqv_refl _ (SeqAt.canLay_of_shaped (leaf_txts (lowf i _)))]
          refine ⟨_, rfl, _, rfl, rfl, x, i, cs, rw', en', ns, by show [V.ref x, V.int (0 + (i : Int))] = _; rw [hii], by omega, ha, L.mono (em2.trans e24), W', hns, fun H5 e5 p5 hp5 => ?_⟩
          rw [mm]
          have e6 := same_new (o := .lst (((txs cs i).filter (isM cs rows ends)).map txtV)) hp5
          have g6 : (upd H5 p5 (.lst (((txs cs i).filter (isM cs rows ends)).map txtV))) p5 = _ := upd_same
          generalize (upd H5 p5 (.lst (((txs cs i).filter (isM cs rows ends)).map txtV))) = H6 at e6 g6
          have e26 : Same H2 H6 := (e24.trans e5).trans e6
          refine ⟨_, rfl, txtsD ((txs cs i).filter (isM cs rows ends)), txtsD ((txs cs i).filter (isM cs rows ends)), .lst (SqL.of g6) (dp_map (fun x => .str _) _), .lst (SqL.of (e26 _ _ hd2)) (dp_map (fun x => .str _) _), leaf_txts (lowf i _), leaf_txts (lowf i _), _, rfl, ?_⟩
          rw [SeqAt.eqv_refl _ (SeqAt.canLay_of_shaped (leaf_txts (lowf i _)))]
          exact iteF ⟨em2.trans e26, _, _, _, _, rfl⟩
      · rintro σ H1 ⟨em, a3, a4, a5, a6, rfl⟩
        refine ⟨_, rfl, pn, rfl, ⟨_, SqL.of (em _ _ hn)⟩, fun D hD => lc_S (walk_list (K := K) (a := pn) (xs := (txs cs n).map txtV)) hD (by rw [List.length_map]; omega) (fun j acc _ => acc = (((txs cs n).take j).filter (isM cs rows ends)).map txtV) (fun _ _ _ _ _ _ _ h => h) rfl (fun H' e' => SqL.of (e' _ _ (em _ _ hn))) ?_ ?_⟩
        · rintro j v H2 H2' acc Qt Qf hj e2 hd2 rfl ⟨rfl, hv⟩ kt kf
          rw [List.getElem?_map] at hv
          obtain ⟨z, hz, rfl⟩ := Option.map_eq_some_iff.mp hv
          obtain ⟨hzo, hzl⟩ := mem_txs.mp (List.mem_of_getElem? hz)
          have et : (txs cs n).take (j + 1) = (txs cs n).take j ++ [z] := by rw [List.take_add_one, hz]; rfl
          have em2 := em.trans e2
          refine ⟨rfl, _, rfl, _, rfl, t, z, cs, rows, ends, rfl, W, Mc.mono em2, hzo, _, rfl, ?_⟩
          by_cases hm : run cs rows 0 z ∈ ends
          · rw [decide_eq_true hm]
            refine ⟨_, rfl, kt _ _ (Same.refl _) ?_⟩
            rw [et, List.filter_append, List.filter_cons_of_pos (by exact decide_eq_true hm), List.map_append]
            rfl
          · rw [decide_eq_false hm]
            refine kf _ (Same.refl _) ?_
            rw [et, List.filter_append, List.filter_cons_of_neg (by show ¬ decide _ = true; simpa using hm)]
            simp
        · rintro H2 acc e2 hd2 rfl
          rw [List.length_map, List.take_length] at hd2
          have em2 := em.trans e2
          refine ⟨_, rfl, x, cs, rw', en', ns, n, rfl, ha, L.mono em2, W', by omega, by omega, fun H3 e3 => ?_⟩
          have hfm : (txs cs n).find? (isM cs rw' en') = (txs cs n).find? (isM cs rows ends) := find_map_congr fun x hx => decide_eq_decide.mpr (al.1 x (mem_txs.mp hx).1)
          rw [hfm]
          refine ⟨_, rfl, by show 1 ≤ sizeLine; decide, fun p3 hp3 => ?_⟩
          have e4 := same_new (o := .lst [V.non]) hp3
          have g4 : (upd H3 p3 (.lst [V.non])) p3 = some (.lst [V.non]) := upd_same
          generalize (upd H3 p3 (.lst [V.non])) = H4 at e4 g4
          have e24 := e3.trans e4
          have hfl : ((txs cs n).filter (isM cs rows ends)).length ≤ 10000 := Nat.le_trans (List.length_filter_le _ _) hlen
          refine ⟨D, p3, _, _, rfl, rfl, e24 _ _ hd2, g4, by rw [List.length_map, sizeLine_eq]; show _ + 1 ≤ _; omega, fun p5 hp5 => ?_⟩
          have e6 := same_new (o := .lst (((txs cs n).filter (isM cs rows ends)).map txtV ++ [V.non])) hp5
          have g6 : (upd H4 p5 (.lst (((txs cs n).filter (isM cs rows ends)).map txtV ++ [V.non]))) p5 = some (.lst (((txs cs n).filter (isM cs rows ends)).map txtV ++ [V.non])) := upd_same
          generalize (upd H4 p5 (.lst (((txs cs n).filter (isM cs rows ends)).map txtV ++ [V.non]))) = H6 at e6 g6
          have e26 : Same H2 H6 := e24.trans e6
          have em6 : Same H H6 := em2.trans e26
          have hat : atI (((txs cs n).filter (isM cs rows ends)).map txtV ++ [V.non]) 0 = some (optT ((txs cs n).find? (isM cs rows ends))) := by
            refine atI_of (Int.le_refl _) ?_
            show (_ : List V)[0]? = _
            rw [← List.head?_filter]
            cases (txs cs n).filter (isM cs rows ends) with
            | nil => rfl
            | cons a l => rfl
          refine ⟨p5, _, _, _, rfl, rfl, SqL.of g6, hat, ?_⟩
          have sc : scal (optT ((txs cs n).find? (isM cs rows ends))) (optT ((txs cs n).find? (isM cs rows ends))) = true := by
            cases (txs cs n).find? (isM cs rows ends) <;> rfl
          refine ⟨sc, _, rfl, ?_⟩
          rw [show decide (optT ((txs cs n).find? (isM cs rows ends)) = optT ((txs cs n).find? (isM cs rows ends))) = true from decide_eq_true rfl]
          refine ⟨_, rfl, x, dx, fs, rfl, em6 _ _ h1, x, cs, rw', en', ns, rfl, L.mono em6, fun H7 e7 => ?_⟩
          refine ⟨_, rfl, _, rfl, by show 0 ≤ sizeLine; decide, fun p8 hp8 => ?_⟩
          have e8 := same_new (o := .lst []) hp8
          have e28 : Same H2 (upd H7 p8 (.lst [])) := (e26.trans e7).trans e8
          refine ⟨txtsD ((txs cs n).filter (isM cs rows ends)), txtsD [], .lst (SqL.of (e28 _ _ hd2)) (dp_map (fun x => .str _) _), .lst (SqL.of upd_same) .nil, leaf_txts (lowf n _), leaf_txts (fun _ h => nomatch h), _, rfl, rfl, ?_⟩
          have hemp : decide (ns = []) = (txtsD ((txs cs n).filter (isM cs rows ends))).eqv (txtsD []) := by
            have e1 : (txtsD ((txs cs n).filter (isM cs rows ends))).eqv (txtsD []) = decide ((txs cs n).filter (isM cs rows ends) = []) := by
              cases (txs cs n).filter (isM cs rows ends) with
              | nil => simp [txtsD, PyData.eqv, PyData.eqvAll]
              | cons a l => simp [txtsD, PyData.eqv, PyData.eqvAll]
            rw [e1]
            refine decide_eq_decide.mpr ?_
            rw [empty_iff al W'.one hns hnr, List.filter_eq_nil_iff]
            constructor
            · intro h y hy hm
              exact h ⟨y, (mem_txs.mp hy).1, of_decide_eq_true hm⟩
            · intro h hl
              obtain ⟨y, hy, hm, hyl⟩ := leads_short W (Int.le_refl _) (by omega) hl
              exact h y (mem_txs.mpr ⟨hy, by omega⟩) (decide_eq_true hm)
          rw [hemp, show ∀ z : V, decide (z = z) = true from fun z => decide_eq_true rfl]
          exact k _ (em2.trans e28)
end
end SS

set_option maxRecDepth 100000
set_option maxHeartbeats 4000000
set_option pp.maxSteps 1500
namespace SS
open PySem L2 SR TL
def rIsN : R2 := fun x y H Q => y = .non ∧ Q (.bl (decide (x = .non))) H
section
variable {P : Program} {w : World} {K : PySem.W.Frag} {mg : Str → Option Value} {base : Heap}
abbrev sVal : Stmt := top 49
abbrev nVal : List Str := ["_law_made", "_law_abc", "_law_other", "_law_letter", "_law_some", "_law_one", "_law_spot_here"]
abbrev psVal : List Str := ["_law_made", "_law_abc"]
theorem scVal : FnScope nVal psVal (defScope sVal) := ⟨rfl, rfl, rfl, by decide +kernel, rfl, by decide +kernel, by decide +kernel⟩
def spVal (C : Addr) : Sp := fun vs H Q _ => ∃ (x : Addr) (cs : List Nat) (rows : List (List Int)) (ends : List Int), vs = [.ref x, .str (txt cs)] ∧ Abc cs ∧ rows.length ≤ 5 ∧ LangAt 5 C H x cs rows ends ∧ ∀ H', Same H H' → Q (.bl true) H'
theorem ok_val {f C : Addr} {fd : FuncData} (F : Fun K "_law_values_right" "_law_values_right" sVal f fd) (B : Bl mg) (G : Lg P w K mg base C) : FnG P w K mg base 4 f fd psVal (spVal C) := by
  obtain ⟨fC, fdC, GC, cA, cF, bC⟩ := G.con
  obtain ⟨fM, dM, mM, mF, mB⟩ := G.mov
  obtain ⟨fN, dN, nF, nA, nI, nB⟩ := G.len
  obtain ⟨pS, gS, dS, PS', GS, bS⟩ := G.sgn
  have T := G.tx
  refine okG F scVal (fun vs H Q E h => ?_) (fun cdv A outer s H vs Q E hr hgd h => ?_)
  · obtain ⟨x, cs, rows, ends, rfl, _⟩ := h
    rfl
  · obtain ⟨x, cs, rows, ends, rfl, ha, h5, LA, k⟩ := h
    have hr1 := hr.mono (by decide : 1 ≤ 3)
    have hr2 := hr.mono (by decide : 2 ≤ 3)
    obtain ⟨rw', en', ns, L, W', al, Le, hns, hnr⟩ := LA.ex
    obtain ⟨dx, pt, pm, pl, fs, h1, h2, h3, h4, h5', h6, h7, h8, h9⟩ := L.ex
    have hrl : rw'.length ≤ 5 := Nat.le_trans (least_len Le) h5
    have hc4 := ha.four
    refine ⟨_, pss_cons (ps_set (i := 2) scVal.nd rfl (.inr rfl) (pe_ix ix_list (pe_lc (own := [("_law_letter", 3)]) (g := gName 3) (tt := tTest (tOp (rNotInSg) (tVar 3) (tVar 1))) (te := tVar 3) rfl scVal.nd (pi_str pe_str) (blkOk_by (by kernel_rfl)) (fun _ _ _ _ _ => pg_name (i := 3) scVal.nd rfl (.inl rfl)) (fun _ _ _ _ _ => pts_one (pt_cmpR op_notIn_sign (pv 3) (pv 1) (by rfl))) (fun _ _ _ _ _ => pv 3)) pe_int (fun _ _ => rfl)))
      (pss_cons (ps_set (i := 4) scVal.nd rfl (.inl rfl) (pe_lst (pa_cons pe_non (pa_cons pe_int (pa_cons pe_bl (pa_cons pe_int (pa_cons pe_str (pa_cons pe_str (pa_cons (pv 2) (pa_cons (pe_op op_add_str (pv 1) (pv 2)) (pa_cons (pe_lst (pa_cons pe_str pa_nil)) (pa_cons (pe_tup pa_nil) (pa_cons (pe_tup (pa_cons pe_str pa_nil)) (pa_cons (pe_lst pa_nil) (pa_cons pe_dnewK (pa_cons pe_str pa_nil))))))))))))))))
      (pss_cons (ps_if (pt_val (pe_callB (cr_any rfl) (by rfl) B.any (by decide +kernel) (pa_cons (pe_lc (own := [("_law_one", 5)]) (g := gName 5) (tt := tYes) (te := tOp (rOwnIn false C (spCnA C) E0) (tVar 5) (tVar 0)) rfl scVal.nd (pi_list (pv 4)) (blkOk_by (by kernel_rfl)) (fun _ _ _ _ _ => pg_name (i := 5) scVal.nd rfl (.inl rfl)) (fun _ _ _ _ _ => pts_nil) (fun _ _ _ _ _ => pe_cmpR (op_inOwn GC hr2 cA cF bC pass0) (pv 5) (pv 0) (by rfl))) pa_nil)))
        (pss_one (ps_ret pe_bl)) pss_nil)
      (pss_one (ps_ret (pe_and (pe_callB (cr_all rfl) (by rfl) B.all (by decide +kernel) (pa_cons (pe_lc (own := [("_law_spot_here", 6)]) (g := gName 6) (tt := tYes) (te := tOp (rIsN) (tMeth C "move" (spMov C) [] E0 (tVar 0) (tCons (tVar 6) (tCons (tVar 2) tNil))) (tC .non)) rfl scVal.nd (pi_range1 (by rfl) B.range (pa_cons (pe_callB (call_ownLen (FnG.of nF) hr2 hgd nA nI nB) (by rfl) B.len boot_len (pa_cons (pv 0) pa_nil)) pa_nil)) (blkOk_by (by kernel_rfl)) (fun _ _ _ _ _ => pg_name (i := 6) scVal.nd rfl (.inl rfl)) (fun _ _ _ _ _ => pts_nil) (fun _ _ _ _ _ => pe_cmpR op_isN (pe_meth (pv 0) T.cl mM mF hr mB .nil pass0 (pa_cons (pv 6) (pa_cons (pv 2) pa_nil))) pe_non (nomark _))) pa_nil)) (pe_one (pe_cmpR op_eq (pe_prop (pv 0) T.cl PS' GS hr2 bS .nil pass0 (by rfl)) (pv 1) (nomark _)))))))), ?_⟩
    obtain ⟨d, ds, ed, dn, d0, d1⟩ := spare_ex ha.four
    have hz : (Str.ofString "abcdefghijklmnopqrstuvwxyz").cps.size = 26 := by decide +kernel
    refine ⟨_, rfl, fun D hD => lc_S walk_str hD (by rw [hz]; decide) (fun i acc _ => acc = ((abc26.take i).filter fun c => decide (c ∉ cs)).map ltV) (fun _ _ _ _ _ _ _ h => h) rfl (fun _ _ => trivial) ?_ ?_⟩
    · rintro i x H3 H3' acc Qt Qf hi e3 hd rfl ⟨rfl, c, hc, rfl⟩ kt kf
      have hc' : abc26[i]? = some c := by
        have e := abc_codes
        show ((List.range 26).map (· + 97))[i]? = some c
        rw [← e, Array.getElem?_toList]
        exact hc
      have et : abc26.take (i + 1) = abc26.take i ++ [c] := by rw [List.take_add_one, hc']; rfl
      refine ⟨rfl, _, rfl, _, rfl, c, _, rfl, rfl, _, rfl, ?_⟩
      rw [txt_codes]
      by_cases hm : c ∈ cs
      · rw [decide_eq_true hm]
        refine kf _ (Same.refl _) ?_
        rw [et, List.filter_append, List.map_append]
        simp [hm]
      · rw [decide_eq_false hm]
        refine ⟨_, rfl, kt _ _ (Same.refl _) ?_⟩
        rw [et, List.filter_append, List.map_append]
        simp [hm, ltV, lt]
    · rintro H1 acc e1 hd rfl
      rw [hz, show abc26.take 26 = abc26 from rfl, ed] at hd
      refine ⟨D, _, _, ltV d, rfl, rfl, SqL.of hd, atI_of (Int.le_refl _) rfl, ?_⟩
      -- the odd values
      refine ⟨_, rfl, _, rfl, _, rfl, _, _, rfl, rfl, (by rw [txt_len, sizeLine_eq]; show _ + 1 ≤ _; omega), by show 1 ≤ sizeLine; decide, fun p1 n1 => ⟨by show 0 ≤ sizeLine; decide, fun p2 n2 => ⟨by show 1 ≤ sizeLine; decide, fun p3 n3 => ⟨by show 0 ≤ sizeLine; decide, fun p4 n4 => ?_⟩⟩⟩⟩
      intro p5 n5
      refine ⟨by show 14 ≤ sizeLine; decide, fun p6 n6 => ?_⟩
      have q1 : Same H1 _ := same_new (o := .lst [V.str (Str.ofString "a")]) n1
      have q2 := same_new (o := .tup []) n2
      have q3 := same_new (o := .tup [V.str (Str.ofString "a")]) n3
      have q4 := same_new (o := .lst []) n4
      have q5 := same_new (o := .dK []) n5
      have g1 := upd_same (H := H1) (a := p1) (o := .lst [V.str (Str.ofString "a")])
      generalize (upd H1 p1 (.lst [V.str (Str.ofString "a")])) = Ha at *
      have g2 := upd_same (H := Ha) (a := p2) (o := .tup [])
      generalize (upd Ha p2 (.tup [])) = Hb at *
      have g3 := upd_same (H := Hb) (a := p3) (o := .tup [V.str (Str.ofString "a")])
      generalize (upd Hb p3 (.tup [V.str (Str.ofString "a")])) = Hc at *
      have g4 := upd_same (H := Hc) (a := p4) (o := .lst [])
      generalize (upd Hc p4 (.lst [])) = Hd at *
      have g5 := upd_same (H := Hd) (a := p5) (o := .dK [])
      generalize (upd Hd p5 (.dK [])) = He at *
      obtain ⟨some', hsome⟩ : ∃ some' : List V, some' = [.non, .int 5, .bl true, .int 0, .str (Str.ofString "A"), .str (Str.ofString " "), ltV d, .str (txt cs ++ lt d), .ref p1, .ref p2, .ref p3, .ref p4, .ref p5, .str (Str.ofString "1")] := ⟨_, rfl⟩
      have q6 := same_new (o := .lst some') n6
      have g6 := upd_same (H := He) (a := p6) (o := .lst some')
      have odd : ∀ v ∈ some', Odd He cs v := by
        rw [hsome]
        have nl : ∀ c, c < 97 → c ∉ cs := fun c hc hm => by have := ha.abc c hm; omega
        intro v hv
        simp only [List.mem_cons, List.not_mem_nil, or_false] at hv
        rcases hv with rfl | rfl | rfl | rfl | rfl | rfl | rfl | rfl | rfl | rfl | rfl | rfl | rfl | rfl
        · exact .inl (.inl rfl)
        · exact .inl (.inr (.inl ⟨_, rfl⟩))
        · exact .inl (.inr (.inr (.inl ⟨_, rfl⟩)))
        · exact .inl (.inr (.inl ⟨_, rfl⟩))
        · exact .inr ⟨[65], 65, rfl, by decide, nl _ (by decide), by decide⟩
        · exact .inr ⟨[32], 32, rfl, by decide, nl _ (by decide), by decide⟩
        · exact .inr ⟨[d], d, rfl, by simp, dn, by show 1 ≤ 10; decide⟩
        · exact .inr ⟨cs ++ [d], d, by rw [← txt_app]; rfl, by simp, dn, by rw [List.length_append]; show _ + 1 ≤ 10; omega⟩
        · exact .inl (.inr (.inr (.inr ⟨p1, rfl, .inl ⟨_, q5 _ _ (q4 _ _ (q3 _ _ (q2 _ _ g1)))⟩⟩)))
        · exact .inl (.inr (.inr (.inr ⟨p2, rfl, .inr (.inl ⟨_, q5 _ _ (q4 _ _ (q3 _ _ g2))⟩)⟩)))
        · exact .inl (.inr (.inr (.inr ⟨p3, rfl, .inr (.inl ⟨_, q5 _ _ (q4 _ _ g3)⟩)⟩)))
        · exact .inl (.inr (.inr (.inr ⟨p4, rfl, .inl ⟨_, q5 _ _ g4⟩⟩)))
        · exact .inl (.inr (.inr (.inr ⟨p5, rfl, .inr (.inr ⟨_, g5⟩)⟩)))
        · exact .inr ⟨[49], 49, rfl, by decide, nl _ (by decide), by decide⟩
      have em6 : Same H (upd He p6 (.lst some')) := e1.trans ((((q1.trans q2).trans q3).trans q4).trans (q5.trans q6))
      have hlen : some'.length = 14 := by rw [hsome]; rfl
      have hsv : some' = [.non, .int 5, .bl true, .int 0, .str (Str.ofString "A"), .str (Str.ofString " "), ltV d, .str (txt cs ++ lt d), .ref p1, .ref p2, .ref p3, .ref p4, .ref p5, .str (Str.ofString "1")] := hsome
      rw [← hsome]
      generalize (upd He p6 (.lst some')) = H6 at q6 g6 em6
      refine ⟨_, rfl, p6, rfl, ⟨_, SqL.of g6⟩, fun D2 hD2 => lc_S (walk_list (K := K) (a := p6) (xs := some')) hD2 (by rw [hlen]; decide) (fun i acc _ => acc = ((some'.take i).map fun _ => false).map V.bl) (fun _ _ _ _ _ _ _ h => h) rfl (fun H' e' => SqL.of (e' _ _ g6)) ?_ ?_⟩
      · rintro i v H7 H7' acc Qt Qf hi e7 hd7 rfl ⟨rfl, hv⟩ kt kf
        have hm := List.mem_of_getElem? hv
        have em7 := em6.trans e7
        refine ⟨rfl, _, rfl, _, rfl, x, dx, fs, rfl, em7 _ _ h1, x, v, cs, rw', en', ns, rfl, ha, L.mono em7, W', .inl ⟨(odd v hm).mono (q6.trans e7), fun H8 e8 => ⟨_, rfl, kt _ _ e8 ?_⟩⟩⟩
        rw [List.take_add_one, hv, List.map_append, List.map_append]
        rfl
      · rintro H7 acc e7 hd7 rfl
        have em7 := em6.trans e7
        refine ⟨D2, _, rfl, SqL.of hd7, _, rfl, ?_⟩
        have hany : ((some'.take some'.length).map fun _ => false).any id = false := by
          rw [List.any_eq_false]
          intro b hb
          obtain ⟨_, _, rfl⟩ := List.mem_map.mp hb
          exact Bool.false_ne_true
        rw [hany]
        refine iteF ?_
        refine ⟨_, rfl, x, dx, fs, rfl, em7 _ _ h1, x, cs, rw', en', ns, rfl, L.mono em7, _, rfl, by omega, by omega, _, rfl, by omega, by omega, fun D3 hD3 => ?_⟩
        rw [Int.toNat_natCast]
        refine lc_S (walk_range (lo := 0) (n := rw'.length)) hD3 (by omega) (fun i acc _ => acc = ((List.range i).map fun _ => true).map V.bl) (fun _ _ _ _ _ _ _ h => h) rfl (fun _ _ => trivial) ?_ ?_
        · rintro i v H8 H8' acc Qt Qf hi e8 hd8 rfl ⟨rfl, rfl⟩ kt kf
          have em8 := em7.trans e8
          refine ⟨rfl, _, rfl, x, dx, fs, rfl, em8 _ _ h1, h6 _ (by decide +kernel) (by decide +kernel) (by decide +kernel) (by decide +kernel), _, rfl, _, rfl, x, 0 + (i : Nat), d, cs, rw', en', ns, rfl, L.mono em8, W', by omega, by omega, rfl, ?_⟩
          unfold mvV
          rw [if_neg dn]
          refine kt _ _ (Same.refl _) ?_
          rw [List.range_succ, List.map_append, List.map_append]
          rfl
        · rintro H8 acc e8 hd8 rfl
          have em8 := em7.trans e8
          refine ⟨D3, _, rfl, SqL.of hd8, _, rfl, ?_⟩
          have hall : ((List.range rw'.length).map fun _ => true).all id = true := by
            rw [List.all_eq_true]
            intro b hb
            obtain ⟨_, _, rfl⟩ := List.mem_map.mp hb
            rfl
          rw [hall]
          refine ⟨_, rfl, x, dx, fs, rfl, em8 _ _ h1, x, cs, rw', en', ns, rfl, L.mono em8, _, rfl, rfl, ?_⟩
          rw [show decide (V.str (txt cs) = V.str (txt cs)) = true from decide_eq_true rfl]
          exact k _ em8
end
end SS

set_option maxRecDepth 100000
set_option maxHeartbeats 4000000
namespace SR
open PySem PySem.Spec PyProof.Rows L2
open PySem.SeqAt
section
variable {prog : Program} {w : World} {A : Around} {E : Value → Shared → Prop} {s : Shared} {K : PySem.W.Frag} {x C L f : Addr} {h₀ : Heap} {m : Str → Option Value} {ox : Obj} {od : Option Obj}
theorem ne_K2 {b tb : Value} {Q : Value → Shared → Prop} (hu : A.units + 1 < cLine) (F : Fr h₀ L s.heap m) (X₀ : K.In h₀) (I : PySem.W.InstAt s.heap x ox C od) (hb : PySem.W.Looks (model prog w) s.heap (typeOf b) tb) (hnf : PySem.W.notFirst K C tb = true)
    (hn : PySem.W.findIn K (.ref C) "__ne__" = some (some (.builtin "object.__ne__"))) (hsub : PySem.W.subIn K (.ref C) (.type "object") = some true)
    (hs : PySem.W.findIn K (.ref C) "__eq__" = some (some (.ref f))) (hf : PySem.W.isFn K (.ref f) = true)
    (h : wpAny (model prog w) A.in1 (call (.ref f) [.ref x, b]) (fun v s' => ∃ r, v = .bool r ∧ Q (.bool (!r)) s') E s) : wpAny (model prog w) A (richCompare .NotEq (.ref x) b) Q E s := by
  have X := X₀.keeps F.keep
  have one : wpAny (model prog w) A (tryCompare (.ref x) "__ne__" b) (fun r s' => ∃ v, r = some v ∧ Q v s') E s := by
    unfold tryCompare
    refine wpAny_bind (ifBound_ne X I hn (wpAny_call (codeAny_call_builtin slot_ne_object.plain PySem.F.cmpEntry_ne (check_ne X I hsub (PySem.F.cmpArgs_ne _ _) (body_ne (A := A.in1) X I hs hf hu (wpAny_mono h (fun v s' hv => ?_) fun _ _ e => e))))))
    obtain ⟨r, rfl, hq⟩ := hv
    exact ⟨r, rfl, wpAny_pure ⟨_, rfl, hq⟩⟩
  unfold richCompare
  simp only [oneThing_ref]
  refine wpAny_holding (wpAny_bind (wpAny_cRoomFor (Nat.lt_of_succ_lt hu) ?_))
  refine wpAny_bind (I.type.here (wpAny_bind (hb.here ?_)))
  split
  · rename_i q
    have e : PySem.W.subIn K tb (.ref C) = some false := by
      rcases Bool.or_eq_true_iff.mp hnf with e | e
      · rw [beq_iff_eq.mp e] at q; simp at q
      · exact beq_iff_eq.mp e
    refine wpAny_bind ((PySem.W.looks_subIn X e).here ?_)
    simp only [Bool.false_eq_true, if_false]
    refine wpAny_bind (wpAny_mono one (fun r s' z => ?_) fun _ _ e => e)
    obtain ⟨v, rfl, hq⟩ := z
    exact wpAny_pure hq
  · refine wpAny_bind (wpAny_pure ?_)
    simp only [Bool.false_eq_true, if_false]
    refine wpAny_bind (wpAny_mono one (fun r s' z => ?_) fun _ _ e => e)
    obtain ⟨v, rfl, hq⟩ := z
    exact wpAny_pure hq
end
section
variable {X : Cx}
/-- o != x, x a thing of a built-in type -/
def rNeFwd (C : Addr) (sp : Sp) : R2 := fun x y H Q => ∃ a dx fs T, x = .ref a ∧ H a = some (.ins C dx fs) ∧ Odd H y T ∧ sp [.ref a, y] H (fun v H' => ∃ r, v = .bl r ∧ Q (.bl (!r)) H') E0
theorem op_neFwd {n : Nat} {C f : Addr} {fd : FuncData} {ps : List Str} {sp : Sp} (O : OddC X.K C) (F : FnG X.prog X.w X.K X.mg X.base n f fd ps sp) (hr : Room (n + 1) X.A) (hgd : X.A.guards = some [])
    (hn : PySem.W.findIn X.K (.ref C) "__ne__" = some (some (.builtin "object.__ne__"))) (hsub : PySem.W.subIn X.K (.ref C) (.type "object") = some true)
    (hs : PySem.W.findIn X.K (.ref C) "__eq__" = some (some (.ref f))) (hf : PySem.W.isFn X.K (.ref f) = true) (hb : Binds X.K fd ps []) : OpR X (compareOp .NotEq) (rNeFwd C sp) := by
  intro pins s σ H x y v u Q I rx ry h
  obtain ⟨a, dx, fs, T, rfl, ha, od', hq⟩ := h
  cases rx
  obtain ⟨mA, J, _⟩ := ins_get I.hok ha
  obtain ⟨od, J, _⟩ := J.look
  obtain ⟨m, hF⟩ := I.fr
  have sb : Sub X n X.A.in1 := Sub.in1 ⟨hr, rfl⟩
  show wpAny (model X.prog X.w) X.A (richCompare .NotEq (.ref a) u) (EP X pins σ Q) X.xe s
  refine ne_K2 (tb := .type T) sb.room.units0 hF I.ok.mod.kin J ?_ ?_ hn hsub hs hf (wpAny_mono (own_run (vs := [.ref a, y]) F sb hgd hb I (.cons rfl (.cons ry .nil)) hq) (fun z s' hz => ?_) fun _ _ e => e)
  · obtain ⟨P, Z, p, _⟩ := kit_of I ry (od'.tyx (K := X.K))
    exact Z.ty _ _ I.kIn p
  · unfold PySem.W.notFirst
    rw [O.to T od'.mem]
    simp
  · obtain ⟨b', H', I', rb, r, rfl, hQ⟩ := hz
    cases rb
    exact ⟨r, rfl, .bl (!r), H', I', rfl, hQ⟩
end
end SR
namespace SS
open PySem L2 SR TL
section
variable {cs : List Nat} {rows rows2 rw' : List (List Int)} {ends es en' : List Int}
theorem Eqv.perm (p : ∀ s, s ∈ es ↔ s ∈ ends) {r : Nat} {a b : Int} : Eqv cs rows es r a b ↔ Eqv cs rows ends r a b :=
  ⟨fun h x hx hl => by rw [← p, ← p]; exact h x hx hl, fun h x hx hl => by rw [p, p]; exact h x hx hl⟩
theorem Cover.perm {m : Nat} {fd : List Int} (p : ∀ s, s ∈ es ↔ s ∈ ends) (c : Cover m cs rows ends fd) : Cover m cs rows es fd := by
  obtain ⟨rs, h1, h2, h3⟩ := c
  exact ⟨rs, h1, h2, fun q hq => by
    obtain ⟨s, hs, h⟩ := h3 q hq
    exact ⟨s, hs, fun n => (Eqv.perm p).mpr (h n)⟩⟩
theorem Least.perm {m : Nat} (p : ∀ s, s ∈ es ↔ s ∈ ends) (L : Least m cs rows es rw' en') : Least m cs rows ends rw' en' := by
  obtain ⟨fd, κ, r, ks, O, k, h, bi, f, be, e1, e2⟩ := L
  refine ⟨fd, κ, r, ks, O, fun a ha b hb => (k a ha b hb).trans (Eqv.perm p), h, bi, f, be, e1, e2.trans ?_⟩
  unfold ends'
  congr 1
  exact List.filter_congr fun a _ => decide_eq_decide.mpr (p _)
theorem WfM.perm (W : WfM cs rows ends) (p : es.Perm ends) : WfM cs rows es :=
  ⟨W.one, W.five, W.row, p.nodup_iff.mpr W.nd, fun e he => W.fin e (p.mem_iff.mp he)⟩
theorem LangAt.perm {m : Nat} {C : Addr} {H : Hp} {x : Addr} (L : LangAt m C H x cs rows es) (p : ∀ s, s ∈ es ↔ s ∈ ends) : LangAt m C H x cs rows ends := by
  obtain ⟨rw', en', ns, L1, W, al, Le, h⟩ := L.ex
  exact ⟨rw', en', ns, L1, W, ⟨fun x hx => (al.1 x hx).trans (p _), al.2⟩, Le.perm p, h⟩
/-- a second language of the same texts -/
theorem LangAt.turn {m m2 : Nat} {C : Addr} {H H2 : Hp} {x y : Addr} {ends2 : List Int} (A : LangAt m C H x cs rows ends) (B : LangAt m2 C H2 y cs rows2 ends2) (h : ∀ z : List Nat, (∀ c ∈ z, c ∈ cs) → (run cs rows2 0 z ∈ ends2 ↔ run cs rows 0 z ∈ ends)) : LangAt m C H2 y cs rows ends := by
  obtain ⟨rA, eA, nA, LA, WA, alA, LeA, hA⟩ := A.ex
  obtain ⟨rB, eB, nB, LB, WB, alB, LeB, hB⟩ := B.ex
  obtain ⟨rfl, rfl⟩ := least_unique LeA LeB fun z hz => (h z hz).symm
  exact ⟨_, _, nB, LB, WB, alA, LeA, hB⟩
/-- what is no list stands -/
def SameN (H H' : Hp) : Prop := ∀ b o, H b = some o → (∀ xs, o ≠ .lst xs) → H' b = some o
theorem LangAt.nl {m : Nat} {C : Addr} {H H' : Hp} {x : Addr} (e : SameN H H') (L : LangAt m C H x cs rows ends) : LangAt m C H' x cs rows ends := by
  obtain ⟨rw', en', ns, L1, h⟩ := L.ex
  obtain ⟨dx, pt, pm, pl, fs, h1, h2, h3, h4, h5, h6, ⟨⟨qs, t1, t2⟩, t3⟩, h8, h9⟩ := L1.ex
  exact ⟨rw', en', ns, ⟨dx, pt, pm, pl, fs, e _ _ h1 (fun _ => nofun), h2, h3, h4, h5, h6, ⟨⟨qs, e _ _ t1 (fun _ => nofun), Paired.mono t2 fun a b g => e _ _ g (fun _ => nofun)⟩, e _ _ t3 (fun _ => nofun)⟩, e _ _ h8 (fun _ => nofun), h9⟩, h⟩
end
end SS

set_option maxRecDepth 100000
set_option maxHeartbeats 4000000
set_option pp.maxSteps 1500
namespace SS
open PySem L2 SR TL
theorem sum_lt : ∀ l : List Nat, ((l.map lt).map (·.length)).sum = l.length := by
  intro l
  induction l with
  | nil => rfl
  | cons c l ih =>
    show (lt c).length + ((l.map lt).map (·.length)).sum = l.length + 1
    rw [ih]
    show 1 + l.length = l.length + 1
    omega
section
variable {P : Program} {w : World} {K : PySem.W.Frag} {mg : Str → Option Value} {base : Heap}
/-! ### _law_right -/
abbrev sRight : Stmt := top 50
abbrev nRight : List Str := ["_law_rng_here", "_law_abc", "_law_machine", "_law_wide", "_law_notes", "_law_some", "_law_one", "_law_lines", "_law_stops", "_law_line", "_law_made"]
abbrev psRight : List Str := ["_law_rng_here"]
theorem scRight : FnScope nRight psRight (defScope sRight) := ⟨rfl, rfl, rfl, by decide +kernel, rfl, by decide +kernel, by decide +kernel⟩
def spRight : Sp := fun vs H Q _ => ∃ (r : Addr), vs = [.ref r] ∧ H r = some (rngO r) ∧ ∀ H', Same H H' → Q (.bl true) H'
def rDictD : List V → Hp → VK → Prop := fun xs H Q => ∃ (a : Addr) (kvs : List (Key × V)), xs = [.ref a] ∧ Rd H a (.dK kvs) ∧ ∀ p, H p = none → Q (.ref p) (upd H p (.dK kvs))
structure Law (P : Program) (w : World) (K : PySem.W.Frag) (mg : Str → Option Value) (base : Heap) (C : Addr) : Prop where
  dr : Cal P w K mg base "_law_draw" 1 ["_law_rng_here", "_law_many"] spDraw
  le : Cal P w K mg base "_law_letters" 2 ["_law_rng_here", "_law_many"] spLetters
  cl : Cal P w K mg base "_law_class" 2 ["_law_rng_here", "_law_cap", "_law_abc"] spClass
  db : Cal P w K mg base "_law_doubled" 2 psDbl spDbl
  te : Cal P w K mg base "_law_texts" 1 ["_law_abc", "_law_cap"] spTexts
  wl : CalG P w K mg base "_law_walks_right" 5 psWlk (spWlk C)
  ap : CalG P w K mg base "_law_apart" 4 psApt (spApt C)
  mb : CalG P w K mg base "_law_members_right" 7 psMbR (spMbR C)
  va : CalG P w K mg base "_law_values_right" 4 psVal (spVal C)
theorem ok_right {f C : Addr} {fd : FuncData} (F : Fun K "_law_right" "_law_right" sRight f fd) (B : Bl mg) (G : Lg P w K mg base C) (Nq : PySem.W.findIn K (.ref C) "__ne__" = some (some (.builtin "object.__ne__")) ∧ PySem.W.subIn K (.ref C) (.type "object") = some true) (M : Law P w K mg base C) : FnG P w K mg base 8 f fd ["_law_rng_here"] spRight := by
  obtain ⟨fI, fdI, MkI, GI, bI⟩ := G.mak
  obtain ⟨fQ, dQ, qF, qA, qI, qB⟩ := G.eql
  obtain ⟨fR, dR, rF, rA, rI, rB⟩ := G.rep
  obtain ⟨nq1, nq2⟩ := Nq
  refine okG F scRight (fun vs H Q E h => ?_) (fun cdv A outer s H vs Q E hr hgd h => ?_)
  · obtain ⟨r, rfl, _⟩ := h
    rfl
  · obtain ⟨r, rfl, hR, k⟩ := h
    have hr1 := hr.mono (by decide : 1 ≤ 7)
    have hr2 := hr.mono (by decide : 2 ≤ 7)
    have hr3 := hr.mono (by decide : 3 ≤ 7)
    have hr4 := hr.mono (by decide : 4 ≤ 7)
    have hr5 := hr.mono (by decide : 5 ≤ 7)
    refine ⟨_, pss_cons (ps_set (i := 1) scRight.nd rfl (.inl rfl) (pe_join pe_str (pe_callB cr_sortedS (by rfl) B.sorted (by decide +kernel) (pa_cons (pe_cal M.le hr2 (pa_cons (pv 0) (pa_cons (pe_op op_add pe_int (pe_cal M.dr hr1 (pa_cons (pv 0) (pa_cons pe_int pa_nil)))) pa_nil))) pa_nil))))
      (pss_cons (ps_set (i := 2) scRight.nd rfl (.inl rfl) (pe_cal M.cl hr2 (pa_cons (pv 0) (pa_cons pe_int (pa_cons (pv 1) pa_nil)))))
      (pss_cons (ps_set (i := 3) scRight.nd rfl (.inl rfl) (pe_cal M.db hr2 (pa_cons (pv 0) (pa_cons (pv 2) pa_nil))))
      (pss_cons (ps_set (i := 4) scRight.nd rfl (.inl rfl) (pe_cal M.te hr1 (pa_cons (pv 1) (pa_cons (pe_ifExp (pt_cmpR op_lt (pe_callB call_len_str (by rfl) B.len boot_len (pa_cons (pv 1) pa_nil)) pe_int (nomark _)) pe_int pe_int) pa_nil))))
      (pss_cons (ps_set (i := 5) scRight.nd rfl (.inl rfl) (pe_lst pa_nil))
      (pss_cons (ps_for PassesOwn.never rfl (pi_tup (pe_tup (pa_cons (pv 2) (pa_cons (pv 3) pa_nil)))) (pg_name (i := 6) scRight.nd rfl (.inl rfl))
        (pss_cons (ps_par (i := 7) (j := 8) (by rfl) scRight.nd rfl rfl (by decide) rfl rfl (pa_cons (pe_lc (own := [("_law_line", 9)]) (g := gName 9) (tt := tYes) (te := tCB rDictD (tCons (tVar 9) tNil)) rfl scRight.nd (pi_list (pe_ix ix_tup (pv 6) pe_int (fun _ _ => rfl))) (blkOk_by (by kernel_rfl)) (fun _ _ _ _ _ => pg_name (i := 9) scRight.nd rfl (.inl rfl)) (fun _ _ _ _ _ => pts_nil) (fun _ _ _ _ _ => pe_callTy call_dictD (by rfl) B.dict (by decide +kernel) (pa_cons (pv 9) pa_nil))) (pa_cons (pe_revL (pe_callTy call_list_of (by rfl) B.list (by decide +kernel) (pa_cons (pe_ix ix_tup (pv 6) pe_int (fun _ _ => rfl)) pa_nil))) pa_nil)) (by rfl))
      (pss_cons (ps_expr (pe_bm PySem.F.plainAttrs_list PySem.F.slot_list_append PySem.F.type_list_append mt_append (pv 5) (pa_cons (pe_make MkI GI hr5 (by rfl) G.tx.mgC bI .nil pass0 (pa_cons (pv 1) (pa_cons (pe_ix ix_list (pe_lst (pa_cons (pv 7) (pa_cons (pe_callTy call_tuple_of (by rfl) B.tuple (by decide +kernel) (pa_cons (pv 7) pa_nil)) pa_nil))) (pe_cal M.dr hr1 (pa_cons (pv 0) (pa_cons pe_int pa_nil))) (fun _ _ => rfl)) (pa_cons (pe_ix ix_list (pe_lst (pa_cons (pv 8) (pa_cons (pe_callTy call_tuple_of (by rfl) B.tuple (by decide +kernel) (pa_cons (pv 8) pa_nil)) pa_nil))) (pe_cal M.dr hr1 (pa_cons (pv 0) (pa_cons pe_int pa_nil))) (fun _ _ => rfl)) pa_nil)))) pa_nil)))
      (pss_cons (ps_expr (pe_dclear (pe_ix ix_list (pv 7) pe_int (fun _ _ => rfl))))
      (pss_one (ps_expr (pe_bm PySem.F.plainAttrs_list PySem.F.slot_list_append PySem.F.type_list_append mt_append (pv 8) (pa_cons pe_int pa_nil))))))))
      (pss_cons (ps_for PassesOwn.never rfl (pi_list (pv 5)) (pg_name (i := 10) scRight.nd rfl (.inl rfl))
        (pss_cons (ps_if (PW.pt (pw_or (pt_not (pt_val (pe_calG M.wl hr5 hgd (pa_cons (pv 10) (pa_cons (pv 2) (pa_cons (pv 4) pa_nil)))))) (pw_or1 (pt_not (pt_val (pe_calG M.ap hr4 hgd (pa_cons (pv 10) (pa_cons (pv 1) pa_nil))))))))
        (pss_one (ps_ret pe_bl)) pss_nil)
      (pss_one (ps_if (PW.pt (pw_or (pt_not (pt_val (pe_calG M.mb hr hgd (pa_cons (pv 10) (pa_cons (pv 2) (pa_cons (pv 4) pa_nil)))))) (pw_or1 (pt_not (pt_val (pe_calG M.va hr4 hgd (pa_cons (pv 10) (pa_cons (pv 1) pa_nil))))))))
        (pss_one (ps_ret pe_bl)) pss_nil))))
      (pss_one (ps_ret (pe_and (pe_cmpR (op_eqOwn (FnG.of qF) hr2 hgd qA qI qB) (pe_ix ix_list (pv 5) pe_int (fun _ _ => rfl)) (pe_ix ix_list (pv 5) pe_int (fun _ _ => rfl)) (nomark _)) (pe_and (pe_not (pe_cmpR (op_neOwn (FnG.of qF) hr3 hgd nq1 nq2 qA qI qB) (pe_ix ix_list (pv 5) pe_int (fun _ _ => rfl)) (pe_ix ix_list (pv 5) pe_int (fun _ _ => rfl)) (nomark _))) (pe_and (pe_cmpR (op_neFwd G.odd (FnG.of qF) hr3 hgd nq1 nq2 qA qI qB) (pe_ix ix_list (pv 5) pe_int (fun _ _ => rfl)) (pv 2) (nomark _)) (pe_one (pe_cmpR op_eq (pe_callB (call_ownRepr rF hr2 hgd rA rI rB) (by rfl) B.repr (by decide +kernel) (pa_cons (pe_ix ix_list (pv 5) pe_int (fun _ _ => rfl)) pa_nil)) (pe_callB (call_ownRepr rF hr2 hgd rA rI rB) (by rfl) B.repr (by decide +kernel) (pa_cons (pe_ix ix_list (pv 5) pe_int (fun _ _ => rfl)) pa_nil)) (nomark _)))))))))))))), ?_⟩
    refine ⟨⟨_, rfl⟩, _, rfl, _, rfl, r, _, rfl, by decide, by decide, hR, fun d H1 d0 d1 e1 => ?_⟩
    refine ⟨_, _, rfl, rfl, r, (1 + d).toNat, ?_, by omega, e1 _ _ hR, fun ls p H2 hl nd ab hp e2 h2 => ?_⟩
    · show [V.ref r, V.int (1 + d)] ++ [] = _
      rw [Int.toNat_of_nonneg (by omega)]; rfl
    refine ⟨p, ls.map lt, rfl, SqL.of (by rw [h2]; rw [List.map_map]; rfl), by rw [List.length_map]; omega, fun yl p3 pm so hp3 => ?_⟩
    obtain ⟨cs, rfl, pd⟩ := perm_lt pm
    have hcl := pd.length_eq
    have ha : Abc cs := ⟨lt_of_nodup cs (sorted_lt cs so) (pd.nodup_iff.mpr nd), fun c hc => ab c (pd.mem_iff.mp hc), by omega, by omega⟩
    refine ⟨_, p3, cs.map lt, rfl, rfl, .inl (SqL.of upd_same), ?_, ?_⟩
    · rw [sum_lt, List.length_map]
      show cs.length + cs.length * 0 ≤ 16777216
      omega
    rw [join_lt]
    have e03 : Same H (upd H2 p3 (.lst ((cs.map lt).map V.str))) := same_upd (e1.trans e2) (e1.free (e2.free hp3))
    generalize upd H2 p3 (.lst ((cs.map lt).map V.str)) = H3 at e03 ⊢
    refine ⟨_, rfl, _, rfl, r, 5, cs, rfl, ha, by decide, by decide, e03 _ _ hR, fun t rows ends H4 W l3 ht e4 Mc => ?_⟩
    have e04 := e03.trans e4
    have r5 : rows.length ≤ 5 := by omega
    refine ⟨_, rfl, _, rfl, r, t, cs, rows, ends, rfl, ha, W, r5, e04 _ _ hR, Mc, fun rows2 ends2 φ t2 H5 W2 Dp Mc2 e5 => ?_⟩
    have e05 := e04.trans e5
    obtain ⟨kk, hkk⟩ : ∃ kk : Nat, kk = if cs.length < 3 then 6 else 4 := ⟨_, rfl⟩
    have hk4 : 4 ≤ kk ∧ kk ≤ 6 := by
      by_cases h : cs.length < 3
      · rw [if_pos h] at hkk; omega
      · rw [if_neg h] at hkk; omega
    refine ⟨_, rfl, _, rfl, _, rfl, ?_, _, _, rfl, rfl, _, rfl, ?_⟩
    · rw [txt_len, sizeLine_eq]
      have := ha.four
      omega
    rw [txt_len]
    refine ite2 (fun hd => ⟨cs, kk, by rw [hkk, if_pos (by have := of_decide_eq_true hd; omega)]; rfl, ha, by omega, fun pn H6 hpn e6 hn => ?_⟩) (fun hd => ⟨cs, kk, by rw [hkk, if_neg (fun z => hd (decide_eq_true (by omega)))]; rfl, ha, by omega, fun pn H6 hpn e6 hn => ?_⟩)
    all_goals
      have e06 := e05.trans e6
      have M6 := Mc.mono (e5.trans e6)
      have M62 := Mc2.mono e6
      have hR6 := e06 _ _ hR
      refine ⟨by show 0 ≤ sizeLine; decide, fun po hpo => ?_⟩
      refine ⟨_, rfl, _, rfl, by show 2 ≤ sizeLine; decide, fun pT hpT => ⟨pT, rfl, ⟨_, SqT.of upd_same⟩, for_it (walk_tup (K := K) (a := pT) (xs := [.ref t, .ref t2])) (fun i σ H' => Same H6 H' ∧ H' pT = some (.tup [.ref t, .ref t2]) ∧ ∃ a6 a7 a8 a9 a10, ∃ xs : List Addr, σ = [some (.ref r), some (.str (txt cs)), some (.ref t), some (.ref t2), some (.ref pn), some (.ref po), a6, a7, a8, a9, a10] ∧ H' po = some (.lst (xs.map .ref)) ∧ xs.length = i ∧ ∀ x ∈ xs, LangAt 5 C H' x cs rows ends) ?_ (fun i σ H' _ p => SqT.of p.2.1) ?_ ?_⟩⟩
      · have npT : po ≠ pT := fun z => by rw [← z, upd_same] at hpT; cases hpT
        exact ⟨same_upd (same_new hpo) ((same_new hpo).free hpT), upd_same, none, none, none, none, none, [], rfl, by rw [upd_ne npT, upd_same]; rfl, rfl, fun x hx => by cases hx⟩
      · rintro i v σ Ha Ha' hi ⟨eA, hT, a6, a7, a8, a9, a10, xs, rfl, hpoA, hxl, hxs⟩ ⟨rfl, hv⟩
        obtain ⟨tt, rr, ee, rfl, Wr, cov, Mr, turn⟩ : ∃ (tt : Addr) (rr : List (List Int)) (ee : List Int), v = .ref tt ∧ WfM cs rr ee ∧ (∀ fd, Order cs rr fd → Cover 5 cs rr ee fd) ∧ Mach Ha' cs tt rr ee ∧ ∀ (H' : Hp) (x : Addr), LangAt 5 C H' x cs rr ee → LangAt 5 C H' x cs rows ends := by
          have i2 : i = 0 ∨ i = 1 := by
            have : i < 2 := hi
            omega
          rcases i2 with rfl | rfl
          · cases hv
            exact ⟨t, rows, ends, rfl, W, fun fd O => cover_small r5 O, M6.mono eA, fun _ _ h => h⟩
          · cases hv
            match xs, hxl with
            | [x1], _ => exact ⟨t2, rows2, ends2, rfl, W2, fun fd O => Dp.cover W2 r5 O, M62.mono eA, fun H' x h => (hxs x1 List.mem_cons_self).turn h fun z hz => by
                have := Dp.acc W2 (x := z) (s := 0) (Int.le_refl _) (by have := W2.one; omega) hz
                rwa [Dp.zero] at this⟩
        have cells : xs.length ≤ 1 := by
          have : i < 2 := hi
          omega
        obtain ⟨pr0, pe0, qs0, m1, m2, m3, m4⟩ := Mr.ex
        have hq0 : qs0.length = rr.length := Paired.length m3
        have h5 := Wr.five
        have hel : ee.length ≤ rr.length := nodup_len _ _ Wr.nd Wr.fin
        have hRa := eA _ _ hR6
        have mir : ∀ s, s ∈ ee.reverse ↔ s ∈ ee := fun s => List.mem_reverse
        refine ⟨_, rfl, tt, _, _, _, rfl, rfl, SqT.of m1, rfl, pr0, rfl, ⟨_, SqL.of m2⟩, fun pr hpr => lc_S (walk_list (K := K) (a := pr0) (xs := qs0.map .ref)) hpr (by rw [List.length_map]; omega) (fun i acc H' => ∃ qs : List Addr, acc = qs.map .ref ∧ Paired (fun q row => RowAt H' cs q row ∧ Ha' q = none) qs (rr.take i)) ?_ ⟨[], rfl, .nil⟩ (fun H' e' => e'.seq (SqL.of m2)) ?_ ?_⟩
        · rintro i acc acc' H1 H2 hd ee ⟨qs, q1, q2⟩
          exact ⟨qs, q1, Paired.mono q2 fun a b h => ⟨ee _ _ (ne_lst hd h.1 fun _ => nofun) h.1, h.2⟩⟩
        · rintro i v H1 H1' acc Qt Qf hi e1 hd ⟨qs, rfl, hq⟩ ⟨rfl, hv⟩ kt kf
          rw [List.length_map] at hi
          rw [List.getElem?_map] at hv
          obtain ⟨q, hqi, rfl⟩ := Option.map_eq_some_iff.mp hv
          have hir : i < rr.length := by omega
          obtain ⟨q', hq', hrow⟩ := paired_get i m3 (List.getElem?_eq_getElem hir)
          rw [hqi] at hq'
          cases hq'
          refine ⟨rfl, _, rfl, q, _, rfl, .inl (e1 _ _ hrow), fun p hp => kt _ _ (same_new hp) ⟨qs ++ [p], by simp, ?_⟩⟩
          rw [List.take_add_one, List.getElem?_eq_getElem hir]
          exact paired_snoc (Paired.mono hq fun a b h => ⟨(same_new hp) _ _ h.1, h.2⟩) ⟨upd_same, e1.free hp⟩
        rintro H7 acc e7 hl7 ⟨qs, rfl, hq⟩
        rw [List.length_map, hq0, List.take_length] at hq
        refine ⟨_, rfl, tt, _, _, _, rfl, rfl, SqT.of (e7 _ _ m1), rfl, pe0, _, rfl, .inl (SqL.of (e7 _ _ m4)), fun pw hpw => ⟨pw, _, rfl, SqL.of upd_same, fun pe hpe => ?_⟩⟩
        refine ⟨_, _, rfl, ?_⟩
        rw [← List.map_reverse]
        have f8 := same_upd (o := .lst (ee.reverse.map .int)) (same_new (o := .lst (ee.map .int)) hpw) ((same_new (o := .lst (ee.map .int)) hpw).free hpe)
        have hpeA : Ha' pe = none := e7.free ((same_new (o := .lst (ee.map .int)) hpw).free hpe)
        have hy : (upd (upd H7 pw (.lst (ee.map .int))) pe (.lst (ee.reverse.map .int))) pe = _ := upd_same
        generalize upd (upd H7 pw (.lst (ee.map .int))) pe (.lst (ee.reverse.map .int)) = H8 at f8 hy ⊢
        have e8 : Same Ha' H8 := e7.trans f8
        have hl8 := f8 _ _ hl7
        have hqlen : qs.length = rr.length := Paired.length hq
        refine ⟨_, rfl, .inl ⟨rfl, _, SqL.of (e8 _ _ hpoA)⟩, _, rfl, _, rfl, _, rfl, pr, _, rfl, .inl ⟨SqL.of hl8, fun pt hpt => ⟨by show 2 ≤ sizeLine; decide, fun ph hph => ?_⟩⟩⟩
        have e9 := (same_new (o := .tup (qs.map .ref)) hpt).trans (same_new (o := .lst [.ref pr, .ref pt]) hph)
        have hh9 : (upd (upd H8 pt (.tup (qs.map .ref))) ph (.lst [.ref pr, .ref pt])) ph = some (.lst [.ref pr, .ref pt]) := upd_same
        have ht9 : (upd (upd H8 pt (.tup (qs.map .ref))) ph (.lst [.ref pr, .ref pt])) pt = some (.tup (qs.map .ref)) := (same_new hph) _ _ upd_same
        generalize (upd (upd H8 pt (.tup (qs.map .ref))) ph (.lst [.ref pr, .ref pt])) = H9 at e9 hh9 ht9
        have eA9 := e8.trans e9
        refine ⟨_, rfl, r, _, rfl, by decide, by decide, eA9 _ _ hRa, fun d HA d0 d1 eB => ?_⟩
        obtain ⟨hx, hx1, hx2⟩ : ∃ hx : Addr, atI [V.ref pr, .ref pt] d = some (.ref hx) ∧ LoT HA hx (qs.map .ref) := by
          have : d = 0 ∨ d = 1 := by omega
          rcases this with rfl | rfl
          · exact ⟨pr, atI_of (Int.le_refl _) rfl, .inl (eB _ _ (e9 _ _ hl8))⟩
          · exact ⟨pt, atI_of (by decide) rfl, .inr (eB _ _ ht9)⟩
        have eAA := eA9.trans eB
        refine ⟨ph, _, _, _, rfl, rfl, SqL.of (eB _ _ hh9), hx1, ?_⟩
        have hy9 := eB _ _ (e9 _ _ hy)
        refine ⟨_, rfl, _, rfl, pe, _, rfl, .inl ⟨SqL.of hy9, fun pu hpu => ⟨by show 2 ≤ sizeLine; decide, fun pi hpi => ?_⟩⟩⟩
        have eC := (same_new (o := .tup (ee.reverse.map .int)) hpu).trans (same_new (o := .lst [.ref pe, .ref pu]) hpi)
        have hiC : (upd (upd HA pu (.tup (ee.reverse.map .int))) pi (.lst [.ref pe, .ref pu])) pi = some (.lst [.ref pe, .ref pu]) := upd_same
        have huC : (upd (upd HA pu (.tup (ee.reverse.map .int))) pi (.lst [.ref pe, .ref pu])) pu = some (.tup (ee.reverse.map .int)) := (same_new hpi) _ _ upd_same
        generalize (upd (upd HA pu (.tup (ee.reverse.map .int))) pi (.lst [.ref pe, .ref pu])) = HC at eC hiC huC
        have eAC := eAA.trans eC
        refine ⟨_, rfl, r, _, rfl, by decide, by decide, eAC _ _ hRa, fun d' HD d0' d1' eD => ?_⟩
        have eAD := eAC.trans eD
        have hends : HD pe = some (.lst (ee.reverse.map .int)) := eD _ _ (eC _ _ hy9)
        obtain ⟨ex, ex1, ex2⟩ : ∃ ex : Addr, atI [V.ref pe, .ref pu] d' = some (.ref ex) ∧ LoT HD ex (ee.reverse.map .int) := by
          have : d' = 0 ∨ d' = 1 := by omega
          rcases this with rfl | rfl
          · exact ⟨pe, atI_of (Int.le_refl _) rfl, .inl hends⟩
          · exact ⟨pu, atI_of (by decide) rfl, .inr (eD _ _ huC)⟩
        refine ⟨pi, _, _, _, rfl, rfl, SqL.of (eD _ _ hiC), ex1, ?_⟩
        have hrows : Paired (RowAt HD cs) qs rr := Paired.mono hq fun p row h => eD _ _ (eC _ _ (eB _ _ (e9 _ _ (f8 _ _ h.1))))
        have hlist : HD pr = some (.lst (qs.map .ref)) := eD _ _ (eC _ _ (eB _ _ (e9 _ _ hl8)))
        have hpoD : HD po = some (.lst (xs.map .ref)) := eAD _ _ hpoA
        obtain ⟨q, hq1, hq2, hq3⟩ : ∃ q : Addr, qs[0]? = some q ∧ Ha' q = none ∧ ∃ row, RowAt HD cs q row := by
          have h0 : 0 < rr.length := by have := Wr.one; omega
          obtain ⟨q, g1, g2⟩ := paired_get 0 hq (List.getElem?_eq_getElem h0)
          exact ⟨q, g1, g2.2, _, eD _ _ (eC _ _ (eB _ _ (e9 _ _ (f8 _ _ g2.1))))⟩
        obtain ⟨row0, hq3⟩ := hq3
        have npq : pe ≠ q := ne_of hends hq3 (by intro z; cases z)
        have nlq : pr ≠ q := ne_of hlist hq3 (by intro z; cases z)
        have noq : po ≠ q := ne_of hpoD hq3 (by intro z; cases z)
        have nop : po ≠ pe := ne_of_none hpoA hpeA
        have nopr : pr ≠ po := (ne_of_none hpoA hpr).symm
        have hpoH : H6 po = none := hpo
        intro x dx nx ndx nex
        have en : Same HD (upd (upd HD dx (.own x)) x (.ins C dx [])) := same_upd (same_new ndx) nx
        refine ⟨x, dx, cs, hx, ex, rr, ee.reverse, 5, rfl, by decide, upd_same, ha, Wr.perm (List.reverse_perm _), fun fd O => (cov fd O).perm mir, (Given.mk ⟨qs, (hx2.mono eC).mono eD, hrows⟩ ex2).mono en, fun HE LA sb => ⟨rfl, ?_⟩⟩
        have old : ∀ b o, HD b = some o → b ≠ x ∧ HE b = some o := fun b o hb => by
          have n1 : b ≠ x := ne_of_none hb nx
          exact ⟨n1, sb b o n1 (en b o hb)⟩
        refine ⟨po, _, _, rfl, rfl, (old _ _ hpoD).2, (by rw [List.length_map, sizeLine_eq]; omega), ?_⟩
        have g1 : (upd HE po (.lst (xs.map .ref ++ [.ref x]))) pr = some (.lst (qs.map .ref)) := by rw [upd_ne nopr]; exact (old _ _ hlist).2
        have g2 : RowAt (upd HE po (.lst (xs.map .ref ++ [.ref x]))) cs q row0 := by
          show (upd HE po _) q = _
          rw [upd_ne noq.symm]; exact (old _ _ hq3).2
        refine ⟨_, rfl, pr, _, _, .ref q, rfl, rfl, SqL.of g1, atI_of (Int.le_refl _) (by rw [List.getElem?_map]; exact congrArg (Option.map V.ref) hq1), .inr (.inr (.inl ⟨rfl, .inl ⟨_, g2⟩⟩)), q, _, rfl, rfl, g2, ?_⟩
        have g3 : (upd (upd HE po (.lst (xs.map .ref ++ [.ref x]))) q (.dK [])) pe = some (.lst (ee.reverse.map .int)) := by
          rw [upd_ne npq, upd_ne nop.symm]; exact (old _ _ hends).2
        refine ⟨_, rfl, .inl ⟨rfl, _, SqL.of g3⟩, pe, _, _, rfl, rfl, g3, (by rw [List.length_map, List.length_reverse, sizeLine_eq]; omega), ?_⟩
        have keepA : ∀ b o, Ha' b = some o → b ≠ po → (upd (upd (upd HE po (.lst (xs.map .ref ++ [.ref x]))) q (.dK [])) pe (.lst (ee.reverse.map .int ++ [.int 0]))) b = some o := fun b o hb nb => by
          rw [upd_ne (ne_of_none hb hpeA), upd_ne (ne_of_none hb hq2), upd_ne nb]
          exact (old _ _ (eAD _ _ hb)).2
        refine ⟨fun b o hb => keepA b o (eA _ _ hb) (ne_of_none hb hpo), keepA _ _ hT (fun z => by rw [z, hpoA] at hT; cases hT), _, _, _, _, _, xs ++ [x], rfl, ?_, by rw [List.length_append, hxl]; rfl, fun y hy' => ?_⟩
        · rw [upd_ne nop, upd_ne noq, upd_same, List.map_append]
          rfl
        · rcases List.mem_append.mp hy' with h | h
          · refine (hxs y h).nl fun b o hb no => keepA b o hb fun z => ?_
            rw [z, hpoA] at hb
            cases hb
            exact no _ rfl
          · rw [List.mem_singleton.mp h]
            refine turn _ _ ((LA _ fun b o hb ho => ?_).perm mir)
            have nb : ∀ {c u}, HD c = some u → b ≠ c := fun {c u} hc ee => by
              obtain ⟨n1, n2⟩ := old c u hc
              rcases hb with z | z
              · rw [ee, en _ _ hc] at z; cases z
              · exact n1 (ee ▸ z)
            rw [upd_ne (nb hends), upd_ne (nb hq3), upd_ne (nb hpoD)]
            exact ho
      · rintro σ H7 ⟨eA, hT, a6, a7, a8, a9, a10, xs, rfl, hpoA, hxl, hxs⟩
        match xs, hxl with
        | [x, y], _ =>
        have LX := hxs x (by simp)
        have LY := hxs y (by simp)
        clear hxs
        have e07 := e06.trans eA
        have hn7 := eA _ _ hn
        have M7 := M6.mono eA
        refine ⟨_, rfl, po, rfl, ⟨_, SqL.of hpoA⟩, for_it (walk_list (K := K) (a := po) (xs := [.ref x, .ref y])) (fun i σ H' => Same H7 H' ∧ ∃ a6 a7 a8 a9 a10, σ = [some (.ref r), some (.str (txt cs)), some (.ref t), some (.ref t2), some (.ref pn), some (.ref po), a6, a7, a8, a9, a10]) ⟨Same.refl _, a6, a7, a8, a9, a10, rfl⟩ (fun i σ H' _ p => SqL.of (p.1 _ _ hpoA)) ?_ ?_⟩
        · rintro i v σ H8 H8' hi ⟨e8, b6, b7, b8, b9, b10, rfl⟩ ⟨rfl, hv⟩
          obtain ⟨o, rfl, LO⟩ : ∃ o : Addr, v = .ref o ∧ LangAt 5 C H7 o cs rows ends := by
            have i2 : i = 0 ∨ i = 1 := by
              have : i < 2 := hi
              omega
            rcases i2 with rfl | rfl
            · cases hv; exact ⟨x, rfl, LX⟩
            · cases hv; exact ⟨y, rfl, LY⟩
          refine ⟨_, rfl, _, rfl, _, rfl, o, t, pn, cs, rows, ends, kk, rfl, ha, W, r5, LO.mono e8, M7.mono e8, hk4.1, hk4.2, e8 _ _ hn7, fun H9 e9 => ⟨_, rfl, ?_⟩⟩
          have e89 := e8.trans e9
          refine ⟨_, rfl, _, rfl, o, cs, rows, ends, rfl, ha, r5, LO.mono e89, fun HA eB => ⟨_, rfl, iteF ?_⟩⟩
          have e8A := e89.trans eB
          refine ⟨_, rfl, _, rfl, _, rfl, o, t, pn, cs, rows, ends, kk, rfl, ha, W, r5, LO.mono e8A, M7.mono e8A, hkk, e8A _ _ hn7, fun HB eC => ⟨_, rfl, ?_⟩⟩
          have e8B := e8A.trans eC
          refine ⟨_, rfl, _, rfl, o, cs, rows, ends, rfl, ha, r5, LO.mono e8B, fun HC eD => ⟨_, rfl, iteF ?_⟩⟩
          exact ⟨e8B.trans eD, _, _, _, _, _, rfl⟩
        · rintro σ H8 ⟨e8, b6, b7, b8, b9, b10, rfl⟩
          obtain ⟨r1, en1, n1, R1, W1, al1, Le1, _⟩ := LX.ex
          obtain ⟨r2, en2, n2, R2, W2', al2, Le2, _⟩ := LY.ex
          obtain ⟨rfl, rfl⟩ := least_unique Le1 Le2 fun z hz => Iff.rfl
          obtain ⟨dx, _, _, _, fs, hx, _⟩ := R1.ex
          obtain ⟨dy, _, _, _, gs, hy, _⟩ := R2.ex
          obtain ⟨_, _, _, m1, _⟩ := M7.ex
          have hp8 := e8 _ _ hpoA
          have same : decide (cs = cs ∧ en2 = en2 ∧ r2 = r2) = true := decide_eq_true ⟨rfl, rfl, rfl⟩
          refine ⟨_, rfl, po, _, _, _, rfl, rfl, SqL.of hp8, atI_of (Int.le_refl _) rfl, _, rfl, po, _, _, _, rfl, rfl, SqL.of hp8, atI_of (by decide) rfl, x, y, dx, dy, fs, gs, rfl, rfl, e8 _ _ hx, e8 _ _ hy, x, _, cs, _, _, n1, rfl, ha, R1.mono e8, W1, .inr ⟨y, cs, _, _, n2, rfl, R2.mono e8, W2', fun H9 e9 => ⟨_, rfl, _, rfl, ?_⟩⟩⟩
          rw [same]
          have e89 := e8.trans e9
          have hp9 := e89 _ _ hpoA
          refine iteT ⟨_, rfl, po, _, _, _, rfl, rfl, SqL.of hp9, atI_of (Int.le_refl _) rfl, _, rfl, po, _, _, _, rfl, rfl, SqL.of hp9, atI_of (by decide) rfl, x, y, dx, dy, fs, gs, rfl, rfl, e89 _ _ hx, e89 _ _ hy, x, _, cs, _, _, n1, rfl, ha, R1.mono e89, W1, .inr ⟨y, cs, _, _, n2, rfl, R2.mono e89, W2', fun HA eB => ⟨_, rfl, _, rfl, _, rfl, ?_⟩⟩⟩
          rw [same]
          have e8A := e89.trans eB
          have hpA := e8A _ _ hpoA
          refine iteT ⟨_, rfl, po, _, _, _, rfl, rfl, SqL.of hpA, atI_of (Int.le_refl _) rfl, _, rfl, x, dx, fs, "tuple", rfl, e8A _ _ hx, .tup (e8A _ _ m1), x, _, cs, _, _, n1, rfl, ha, R1.mono e8A, W1, .inl ⟨"tuple", .tup (e8A _ _ m1), fun HB eC => ⟨_, rfl, _, rfl, ?_⟩⟩⟩
          have e8B := e8A.trans eC
          have hpB := e8B _ _ hpoA
          refine iteT ⟨_, rfl, po, _, _, _, rfl, rfl, SqL.of hpB, atI_of (Int.le_refl _) rfl, x, dx, fs, rfl, e8B _ _ hx, x, cs, _, _, n1, rfl, ha, R1.mono e8B, W1, fun HC eD => ⟨_, rfl, ?_⟩⟩
          have e8C := e8B.trans eD
          have hpC := e8C _ _ hpoA
          refine ⟨_, rfl, po, _, _, _, rfl, rfl, SqL.of hpC, atI_of (by decide) rfl, y, dy, gs, rfl, e8C _ _ hy, y, cs, _, _, n2, rfl, ha, R2.mono e8C, W2', fun HD eE => ⟨_, rfl, rfl, ?_⟩⟩
          rw [show decide (V.str (langT cs r2 en2) = V.str (langT cs r2 en2)) = true from decide_eq_true rfl]
          exact k _ (e07.trans (e8C.trans eE))
/-! ### law -/
abbrev sLaw : Stmt := top 51
abbrev nLaw : List Str := ["_law_script", "_law_k"]
abbrev psLaw : List Str := ["_law_script"]
theorem scLaw : FnScope nLaw psLaw (defScope sLaw) := ⟨rfl, rfl, rfl, by decide +kernel, rfl, by decide +kernel, by decide +kernel⟩
def spLaw (K : PySem.W.Frag) : Sp := fun vs H Q _ => ∃ (a : Addr) (ns : List Int), vs = [.ref a] ∧ SqL K H a (ns.map V.int) ∧ ns.length ≤ 63 ∧ ∀ H', Q (.bl true) H'
theorem ok_law {f : Addr} {fd : FuncData} (F : Fun K "law" "law" sLaw f fd) (B : Bl mg) (Rn : Cal P w K mg base "_law_rng" 1 ["_law_script", "_law_k"] (spRng K)) (Ri : CalG P w K mg base "_law_right" 8 ["_law_rng_here"] spRight) : FnG P w K mg base 9 f fd ["_law_script"] (spLaw K) := by
  refine okG F scLaw (fun vs H Q E h => ?_) (fun cdv A outer s H vs Q E hr hgd h => ?_)
  · obtain ⟨a, ns, rfl, _⟩ := h
    rfl
  · obtain ⟨a, ns, rfl, hS, hl, k⟩ := h
    have hr1 := hr.mono (by decide : 1 ≤ 8)
    refine ⟨_, pss_one (ps_ret (pe_callB (cr_all rfl) (by rfl) B.all (by decide +kernel) (pa_cons (pe_lc (own := [("_law_k", 1)]) (g := gName 1) (tt := tYes) (te := tCall spRight [] E0 (tCons (tCall (spRng K) [] E0 (tCons (tVar 0) (tCons (tVar 1) tNil))) tNil)) rfl scLaw.nd
      (pi_range1 (by rfl) B.range (pa_cons (pe_callB (call_max2 rfl) (by rfl) B.max (by decide +kernel) (pa_cons pe_int (pa_cons (pe_callB (call_min2 rfl) (by rfl) B.min (by decide +kernel) (pa_cons (pe_callB call_len_seq (by rfl) B.len boot_len (pa_cons (pv 0) pa_nil)) (pa_cons pe_int pa_nil))) pa_nil))) pa_nil)) (blkOk_by (by kernel_rfl))
      (fun _ _ _ _ _ => pg_name (i := 1) scLaw.nd rfl (.inl rfl)) (fun _ _ _ _ _ => pts_nil) (fun _ _ _ _ _ => pe_calG Ri hr hgd (pa_cons (pe_cal Rn hr1 (pa_cons (pv 0) (pa_cons (pv 1) pa_nil))) pa_nil))) pa_nil))), ?_⟩
    refine ⟨_, rfl, a, _, rfl, .inl hS, _, _, rfl, _, _, rfl, ?_⟩
    have hb : ∀ n : Int, 0 ≤ n → ∃ m : Nat, (if (if (4 : Int) < n then 4 else n) > 1 then (if (4 : Int) < n then 4 else n) else 1) = (m : Int) ∧ m ≤ 4 := fun n hn => by
      by_cases h5 : (4 : Int) < n
      · exact ⟨4, by simp [h5], by decide⟩
      · by_cases h1 : n > 1
        · exact ⟨n.toNat, by simp [h5, h1]; omega, by omega⟩
        · exact ⟨1, by simp [h5, h1], by decide⟩
    obtain ⟨m, em, hm⟩ := hb ((ns.map V.int).length : Nat) (by omega)
    rw [em]
    refine ⟨_, rfl, by omega, by omega, fun D hD => lc_S (walk_range (lo := 0) (n := (m : Int).toNat)) hD (by omega) (fun i acc _ => acc = (List.replicate i true).map V.bl) (fun _ _ _ _ _ _ _ h => h) rfl (fun _ _ => trivial) ?_ ?_⟩
    · rintro i v H3 H3' acc Qt Qf hi e3 hd rfl ⟨rfl, rfl⟩ kt kf
      refine ⟨rfl, _, rfl, _, rfl, a, _, ns, rfl, e3.seq hS, by omega, by omega, fun p H4 hp e4 h4 => ⟨p, rfl, h4, fun H5 e5 => kt _ _ (e4.trans e5) ?_⟩⟩
      rw [List.replicate_succ', List.map_append]
      rfl
    · rintro H1 acc e1 hd rfl
      refine ⟨D, _, rfl, SqL.of hd, ?_⟩
      rw [all_true]
      exact k _
end
end SS

set_option maxRecDepth 100000
set_option maxHeartbeats 4000000
namespace SS
open PySem L2 SR TL
/-! ### what the top has written -/
def GF (K : PySem.W.Frag) (x : Str) (st : Stmt) : Prop := ∃ (f : Addr) (oc : Value) (od an : Option Addr) (sl : Array (Option Value)) (kV dc pm cd ct : Value), PySem.W.nsIn K mainGlobals x = some (some (.ref f)) ∧
  K.lookup f = some ⟨oc, od, .func (PySem.W.fnOf x x (defArgs st) (defBody st) (defScope st) .none kV dc pm an cd ct), sl⟩ ∧ PySem.W.codeIn K cd x = true ∧ PySem.W.keepIn K (.ref f) = true
theorem gf_mk {K : PySem.W.Frag} {x : Str} {st : Stmt} {f : Addr} {oc : Value} {od an : Option Addr} {sl : Array (Option Value)} {kV dc pm cd ct : Value} (a : PySem.W.nsIn K mainGlobals x = some (some (.ref f)))
    (l : K.lookup f = some ⟨oc, od, .func (PySem.W.fnOf x x (defArgs st) (defBody st) (defScope st) .none kV dc pm an cd ct), sl⟩) (c : PySem.W.codeIn K cd x = true) (k : PySem.W.keepIn K (.ref f) = true) : GF K x st := ⟨f, oc, od, an, sl, kV, dc, pm, cd, ct, a, l, c, k⟩
def ME (K : PySem.W.Frag) (C : Addr) (x qual : Str) (st : Stmt) : Prop := ∃ (f : Addr) (oc : Value) (od an : Option Addr) (sl : Array (Option Value)) (kV dc pm cd ct : Value), PySem.W.findIn K (.ref C) x = some (some (.ref f)) ∧ PySem.W.isFn K (.ref f) = true ∧
  K.lookup f = some ⟨oc, od, .func (PySem.W.fnOf x qual (defArgs st) (defBody st) (defScope st) .none kV dc pm an cd ct), sl⟩ ∧ PySem.W.codeIn K cd qual = true ∧ PySem.W.keepIn K (.ref f) = true
theorem me_mk {K : PySem.W.Frag} {C : Addr} {x qual : Str} {st : Stmt} {f : Addr} {oc : Value} {od an : Option Addr} {sl : Array (Option Value)} {kV dc pm cd ct : Value} (a : PySem.W.findIn K (.ref C) x = some (some (.ref f))) (i : PySem.W.isFn K (.ref f) = true)
    (l : K.lookup f = some ⟨oc, od, .func (PySem.W.fnOf x qual (defArgs st) (defBody st) (defScope st) .none kV dc pm an cd ct), sl⟩) (c : PySem.W.codeIn K cd qual = true) (k : PySem.W.keepIn K (.ref f) = true) : ME K C x qual st := ⟨f, oc, od, an, sl, kV, dc, pm, cd, ct, a, i, l, c, k⟩
def PR (K : PySem.W.Frag) (C : Addr) (x qual : Str) (st : Stmt) : Prop := ∃ (p f : Addr) (rest : List Value) (oc : Value) (od an : Option Addr) (sl : Array (Option Value)) (kV dc pm cd ct : Value), PySem.W.findIn K (.ref C) x = some (some (.ref p)) ∧
  PySem.W.specialIn K (.ref p) "__get__" = some (some (.builtin "property.__get__")) ∧ PySem.W.takesIn K (.ref p) = some true ∧ PySem.W.recIn K p "property" = some (.ref f :: rest) ∧
  K.lookup f = some ⟨oc, od, .func (PySem.W.fnOf x qual (defArgs st) (defBody st) (defScope st) .none kV dc pm an cd ct), sl⟩ ∧ PySem.W.codeIn K cd qual = true ∧ PySem.W.keepIn K (.ref f) = true
theorem pr_mk {K : PySem.W.Frag} {C : Addr} {x qual : Str} {st : Stmt} {p f : Addr} {rest : List Value} {oc : Value} {od an : Option Addr} {sl : Array (Option Value)} {kV dc pm cd ct : Value} (a : PySem.W.findIn K (.ref C) x = some (some (.ref p)))
    (g : PySem.W.specialIn K (.ref p) "__get__" = some (some (.builtin "property.__get__"))) (t : PySem.W.takesIn K (.ref p) = some true) (r : PySem.W.recIn K p "property" = some (.ref f :: rest))
    (l : K.lookup f = some ⟨oc, od, .func (PySem.W.fnOf x qual (defArgs st) (defBody st) (defScope st) .none kV dc pm an cd ct), sl⟩) (c : PySem.W.codeIn K cd qual = true) (k : PySem.W.keepIn K (.ref f) = true) : PR K C x qual st := ⟨p, f, rest, oc, od, an, sl, kV, dc, pm, cd, ct, a, g, t, r, l, c, k⟩
def CS (K : PySem.W.Frag) (x : Str) (z : V) : Prop := ∃ v, PySem.W.nsIn K mainGlobals x = some (some v) ∧ RelV z v
theorem cs_mk {K : PySem.W.Frag} {x : Str} {z : V} {v : Value} (a : PySem.W.nsIn K mainGlobals x = some (some v)) (r : RelV z v) : CS K x z := ⟨v, a, r⟩
structure CL (K : PySem.W.Frag) (C : Addr) : Prop where
  pg : PySem.W.plainGet K C Str.empty = true
  hd : PySem.W.hasDictIn K C = true
  po : PySem.W.plainOver K C = true
  sa : PySem.W.findIn K (.ref C) "__setattr__" = some (some (.builtin "object.__setattr__"))
  ma : PySem.W.makesIn K C = true
  kc : PySem.W.keepIn K (.ref C) = true
  nS : PySem.W.findIn K (.ref C) "own_signs" = some none
  nG : PySem.W.findIn K (.ref C) "goals" = some none
  nM : PySem.W.findIn K (.ref C) "member_list" = some none
  nL : PySem.W.findIn K (.ref C) "live_list" = some none
structure TY (K : PySem.W.Frag) (C : Addr) : Prop where
  cls : PySem.W.findIn K (.ref C) "__class__" = some (some (.builtin "object.__class__"))
  getc : PySem.W.specialIn K (.builtin "object.__class__") "__get__" = some (some (.builtin "getset_descriptor.__get__"))
  tak : PySem.W.takesIn K (.builtin "object.__class__") = some true
  mro : PySem.W.mroIn K C (.type "object") = some true
  ne : PySem.W.findIn K (.ref C) "__ne__" = some (some (.builtin "object.__ne__"))
  sub : PySem.W.subIn K (.ref C) (.type "object") = some true
  ic : PySem.W.isClsIn K C = true
  ty : PySem.W.typeIn K (.ref C) = some (.type "type")
  rd : PySem.W.readsIn K C (.type "type") = true
  ga : PySem.W.specialIn K (.ref C) "__getattribute__" = some (some (.builtin "type.__getattribute__"))
structure OD (K : PySem.W.Frag) (C : Addr) : Prop where
  tNoneType : PySem.W.subIn K (.type "NoneType") (.ref C) = some false
  fNoneType : PySem.W.subIn K (.ref C) (.type "NoneType") = some false
  tint : PySem.W.subIn K (.type "int") (.ref C) = some false
  fint : PySem.W.subIn K (.ref C) (.type "int") = some false
  tstr : PySem.W.subIn K (.type "str") (.ref C) = some false
  fstr : PySem.W.subIn K (.ref C) (.type "str") = some false
  tlist : PySem.W.subIn K (.type "list") (.ref C) = some false
  flist : PySem.W.subIn K (.ref C) (.type "list") = some false
  ttuple : PySem.W.subIn K (.type "tuple") (.ref C) = some false
  ftuple : PySem.W.subIn K (.ref C) (.type "tuple") = some false
  tdict : PySem.W.subIn K (.type "dict") (.ref C) = some false
  fdict : PySem.W.subIn K (.ref C) (.type "dict") = some false
theorem OD.odd {K : PySem.W.Frag} {C : Addr} (o : OD K C) (t : TY K C) : OddC K C := by
  refine ⟨fun T h => ?_, fun T h => ?_, t.ic, t.ty⟩
  · simp only [List.mem_cons, List.not_mem_nil, or_false] at h
    rcases h with rfl | rfl | rfl | rfl | rfl | rfl
    · exact o.tNoneType
    · exact o.tint
    · exact o.tstr
    · exact o.tlist
    · exact o.ttuple
    · exact o.tdict
  · simp only [List.mem_cons, List.not_mem_nil, or_false] at h
    rcases h with rfl | rfl | rfl | rfl | rfl | rfl
    · exact o.fNoneType
    · exact o.fint
    · exact o.fstr
    · exact o.flist
    · exact o.ftuple
    · exact o.fdict
def CV (K : PySem.W.Frag) (C : Addr) (x : Str) (z : V) : Prop := ∃ u, PySem.W.findCls K (.ref C) (.type "type") x = some (.val u) ∧ RelV z u
theorem cv_mk {K : PySem.W.Frag} {C : Addr} {x : Str} {z : V} {u : Value} (a : PySem.W.findCls K (.ref C) (.type "type") x = some (.val u)) (r : RelV z u) : CV K C x z := ⟨u, a, r⟩
def CM (K : PySem.W.Frag) (C : Addr) (x qual : Str) (st : Stmt) : Prop := ∃ (p f : Addr) (rest : List Value) (oc : Value) (od an : Option Addr) (sl : Array (Option Value)) (kV dc pm cd ct : Value), PySem.W.findCls K (.ref C) (.type "type") x = some (.get (.builtin "classmethod.__get__") (.ref p) .none (.ref C)) ∧
  PySem.W.recIn K p "classmethod" = some (.ref f :: rest) ∧ PySem.W.fnIn K f = true ∧
  K.lookup f = some ⟨oc, od, .func (PySem.W.fnOf x qual (defArgs st) (defBody st) (defScope st) .none kV dc pm an cd ct), sl⟩ ∧ PySem.W.codeIn K cd qual = true ∧ PySem.W.keepIn K (.ref f) = true
theorem cm_mk {K : PySem.W.Frag} {C : Addr} {x qual : Str} {st : Stmt} {p f : Addr} {rest : List Value} {oc : Value} {od an : Option Addr} {sl : Array (Option Value)} {kV dc pm cd ct : Value} (a : PySem.W.findCls K (.ref C) (.type "type") x = some (.get (.builtin "classmethod.__get__") (.ref p) .none (.ref C)))
    (r : PySem.W.recIn K p "classmethod" = some (.ref f :: rest)) (n : PySem.W.fnIn K f = true)
    (l : K.lookup f = some ⟨oc, od, .func (PySem.W.fnOf x qual (defArgs st) (defBody st) (defScope st) .none kV dc pm an cd ct), sl⟩) (c : PySem.W.codeIn K cd qual = true) (k : PySem.W.keepIn K (.ref f) = true) : CM K C x qual st := ⟨p, f, rest, oc, od, an, sl, kV, dc, pm, cd, ct, a, r, n, l, c, k⟩

structure FR (K : PySem.W.Frag) : Prop where
  len : PySem.W.nsIn K mainGlobals "len" = some none
  range : PySem.W.nsIn K mainGlobals "range" = some none
  int : PySem.W.nsIn K mainGlobals "int" = some none
  list : PySem.W.nsIn K mainGlobals "list" = some none
  dict : PySem.W.nsIn K mainGlobals "dict" = some none
  tuple : PySem.W.nsIn K mainGlobals "tuple" = some none
  set : PySem.W.nsIn K mainGlobals "set" = some none
  sorted : PySem.W.nsIn K mainGlobals "sorted" = some none
  all : PySem.W.nsIn K mainGlobals "all" = some none
  any : PySem.W.nsIn K mainGlobals "any" = some none
  max : PySem.W.nsIn K mainGlobals "max" = some none
  min : PySem.W.nsIn K mainGlobals "min" = some none
  abs : PySem.W.nsIn K mainGlobals "abs" = some none
  divmod : PySem.W.nsIn K mainGlobals "divmod" = some none
  repr : PySem.W.nsIn K mainGlobals "repr" = some none
  isinstance : PySem.W.nsIn K mainGlobals "isinstance" = some none
  enumerate : PySem.W.nsIn K mainGlobals "enumerate" = some none
  str : PySem.W.nsIn K mainGlobals "str" = some none
  bool : PySem.W.nsIn K mainGlobals "bool" = some none
theorem GF.cal {P : Program} {w : World} {K : PySem.W.Frag} {h : Heap} {mg : Str → Option Value} {base : Heap} {x : Str} {st : Stmt} {k : Nat} {ps : List Str} {sp : Sp} (g : GF K x st) (X : K.In h) (G : h.Ns mainGlobals mg)
    (hb : ∀ (kV doc pm : Value) (an : Option Addr) (cdv ct : Value) (us : List Value), us.length = ps.length → bindArgs (PySem.W.fnOf x x (defArgs st) (defBody st) (defScope st) .none kV doc pm an cdv ct) ⟨us, []⟩ = pure (ps.zip us))
    (ok : ∀ f fd, Fun K x x st f fd → FnOk P w K mg base CX0 k f fd ps sp) : Cal P w K mg base x k ps sp := by
  obtain ⟨f, oc, od, an, sl, kV, dc, pm, cd, ct, a, l, c, kp⟩ := g
  have F := fun_mk (st := st) l c kp
  exact ⟨⟨f, _, ok f _ F, PySem.W.mg_of X G a, kp, F.binds hb⟩⟩
theorem GF.calG {P : Program} {w : World} {K : PySem.W.Frag} {h : Heap} {mg : Str → Option Value} {base : Heap} {x : Str} {st : Stmt} {k : Nat} {ps : List Str} {sp : Sp} (g : GF K x st) (X : K.In h) (G : h.Ns mainGlobals mg)
    (hb : ∀ (kV doc pm : Value) (an : Option Addr) (cdv ct : Value) (us : List Value), us.length = ps.length → bindArgs (PySem.W.fnOf x x (defArgs st) (defBody st) (defScope st) .none kV doc pm an cdv ct) ⟨us, []⟩ = pure (ps.zip us))
    (ok : ∀ f fd, Fun K x x st f fd → FnG P w K mg base k f fd ps sp) : CalG P w K mg base x k ps sp := by
  obtain ⟨f, oc, od, an, sl, kV, dc, pm, cd, ct, a, l, c, kp⟩ := g
  have F := fun_mk (st := st) l c kp
  exact ⟨⟨f, _, ok f _ F, PySem.W.mg_of X G a, kp, F.binds hb⟩⟩
theorem kbn_mbr {K : PySem.W.Frag} {f : Addr} {fd : FuncData} (F : Fun K "members" "members" sMbr f fd) : KBn K fd psMbr 0 ["most", "language"] gMb gMb := by
  obtain ⟨oc, od, kV, doc, pm, an, cdv, ct, osl, rfl, lk, hcd⟩ := F.ex
  refine ⟨fun s us ws X l1 l2 => ?_, fun {vs us zs ws} r1 r2 => ?_⟩
  · match us, l1, ws, l2 with
    | [], _, [a, b], _ => exact .of_eq rfl
  · cases r1 with
    | cons _ _ => exact .nil
    | nil =>
      cases r2 with
      | nil => exact .nil
      | cons b r2 =>
        cases r2 with
        | nil => exact .nil
        | cons c r2 =>
          cases r2 with
          | nil => exact .cons c (.cons b .nil)
          | cons _ _ => exact .nil
theorem raw0 {P : Program} {w : World} {K : PySem.W.Frag} {mg : Str → Option Value} {base : Heap} {k : Nat} {f : Addr} {fd : FuncData} {ps : List Str} {sp : Sp} (F : FnOk P w K mg base CX0 k f fd ps sp) (hb : Binds K fd ps []) : FnR P w K mg base CX0 k f sp :=
  FnR.imp (F.raw hb .nil) fun vs H Q E h => by rw [List.append_nil]; exact h
theorem all_mk {l : PySem.W.OpenLaw} {w : World} {K : PySem.W.Frag} {h : Heap} {mg : Str → Option Value} {fa C : Addr} (X : K.In h) (G : h.Ns mainGlobals mg) (hfa : mg "law" = some (.ref fa)) (aC : PySem.W.nsIn K mainGlobals "Language" = some (some (.ref C))) (cl : CL K C) (ty' : TY K C) (od : OD K C) (fr : FR K) (bz : PySem.W.nsIn K mainGlobals "zip" = some none) (cv : CV K C "MAX_STATES" (.int 6))
    (g11 : GF K "is_word" sWord)
    (g17 : GF K "are_signs" sSigns)
    (g18 : GF K "is_number_below" sNum)
    (g19 : GF K "is_state_row" sSrow)
    (g20 : GF K "are_states" sSta)
    (g21 : GF K "check_machine" sChk)
    (g22 : GF K "reached" sRch)
    (g23 : GF K "refined" sRef)
    (g24 : GF K "least_kinds" sLek)
    (g25 : GF K "least_machine" sLma)
    (g26 : GF K "live_states" sLst)
    (g30 : GF K "product" sPrd)
    (g31 : GF K "first_outside" sFo)
    (g32 : GF K "least_text" sLtx)
    (g33 : GF K "members" sMbr)
    (g35 : GF K "_law_rng" sRng)
    (g36 : GF K "_law_draw" sDraw)
    (g38 : GF K "_law_letters" sLetters)
    (g39 : GF K "_law_class" sClass)
    (g40 : GF K "_law_belongs" sBelongs)
    (g41 : GF K "_law_live" sLive)
    (g42 : GF K "_law_texts" sTexts)
    (g43 : GF K "_law_doubled" sDbl)
    (g44 : GF K "_law_spot" sSpt)
    (g45 : GF K "_law_state" sStt)
    (g46 : GF K "_law_walks_right" sWlk)
    (g47 : GF K "_law_apart" sApt)
    (g48 : GF K "_law_members_right" sMbR)
    (g49 : GF K "_law_values_right" sVal)
    (g50 : GF K "_law_right" sRight)
    (g51 : GF K "law" sLaw)
    (m1 : ME K C "__init__" "Language.__init__" sInit)
    (m6 : ME K C "check_state" "Language.check_state" sCks)
    (m7 : ME K C "move" "Language.move" sMov)
    (m8 : ME K C "is_member" "Language.is_member" sMem)
    (m9 : ME K C "is_live" "Language.is_live" sLiv)
    (m10 : ME K C "__len__" "Language.__len__" sLen)
    (m11 : ME K C "__contains__" "Language.__contains__" sCon)
    (m12 : ME K C "__eq__" "Language.__eq__" sEql)
    (m13 : ME K C "__repr__" "Language.__repr__" sRep)
    (p4 : PR K C "signs" "Language.signs" sSgn)
    (p5 : PR K C "is_empty" "Language.is_empty" sEmp2)
    (c0 : CS K "LETTERS" (.str (Str.ofString "abcdefghijklmnopqrstuvwxyz")))
    (c1 : CS K "MOST_SIGNS" (.int 4))
    (c2 : CS K "MOST_GIVEN_STATES" (.int 40))
    (c3 : CS K "MOST_STATES" (.int 6))
    (c4 : CS K "LONGEST_MEMBER" (.int 8))
    : ∃ fd : FuncData, (∀ (s : Shared) (v : Value), BindsTo s fd ⟨[v], []⟩ [("_law_script", v)]) ∧ ∀ base : Heap, K.In base → base.Ns mainGlobals mg → FnG l.prog w K mg base 9 fa fd ["_law_script"] (spLaw K) := by
  obtain ⟨fL, ocL, odL, anL, slL, kVL, dcL, pmL, cdL, ctL, aL, lL, cL, kL⟩ := g51
  have e := hfa.symm.trans (PySem.W.mg_of X G aL)
  cases e
  have FL := fun_mk (st := sLaw) lL cL kL
  refine ⟨PySem.W.fnOf "law" "law" (defArgs sLaw) (defBody sLaw) (defScope sLaw) .none kVL dcL pmL anL cdL ctL, fun s v => .of_eq rfl, fun base _ _ => ?_⟩
  have B : Bl mg := ⟨PySem.W.mg_none_of X G fr.len, PySem.W.mg_none_of X G fr.range, PySem.W.mg_none_of X G fr.int, PySem.W.mg_none_of X G fr.list, PySem.W.mg_none_of X G fr.dict, PySem.W.mg_none_of X G fr.tuple, PySem.W.mg_none_of X G fr.set, PySem.W.mg_none_of X G fr.sorted, PySem.W.mg_none_of X G fr.all, PySem.W.mg_none_of X G fr.any, PySem.W.mg_none_of X G fr.max, PySem.W.mg_none_of X G fr.min, PySem.W.mg_none_of X G fr.abs, PySem.W.mg_none_of X G fr.divmod, PySem.W.mg_none_of X G fr.repr, PySem.W.mg_none_of X G fr.isinstance, PySem.W.mg_none_of X G fr.enumerate, PySem.W.mg_none_of X G fr.str, PySem.W.mg_none_of X G fr.bool⟩
  have Cc : Cn mg := by
    obtain ⟨_, h1, t1, rfl⟩ := c0
    obtain ⟨_, h2, t2, rfl⟩ := c1
    obtain ⟨_, h3, t3, rfl⟩ := c2
    obtain ⟨_, h4, t4, rfl⟩ := c3
    exact ⟨⟨t1, PySem.W.mg_of X G h1⟩, ⟨t2, PySem.W.mg_of X G h2⟩, ⟨t3, PySem.W.mg_of X G h3⟩, ⟨t4, PySem.W.mg_of X G h4⟩⟩
  have T : LTx K mg C := ⟨⟨cl.pg, cl.hd, cl.po, cl.sa⟩, cl.nS, cl.nG, cl.nM, cl.nL, PySem.W.mg_of X G aC⟩
  have Wd : Cal l.prog w K mg base "is_word" 1 ["value"] spWord := g11.cal X G (fun _ _ _ _ _ _ us hl => match us, hl with | [_], _ => rfl) fun f fd F => ok_word F B Cc
  have Sg : Cal l.prog w K mg base "are_signs" 2 ["value"] spSigns := g17.cal X G (fun _ _ _ _ _ _ us hl => match us, hl with | [_], _ => rfl) fun f fd F => ok_signs F B Cc Wd
  have Nu : Cal l.prog w K mg base "is_number_below" 1 ["value", "limit"] spNum := g18.cal X G (fun _ _ _ _ _ _ us hl => match us, hl with | [_, _], _ => rfl) fun f fd F => ok_num F B
  have Sr : Cal l.prog w K mg base "is_state_row" 2 ["value", "signs", "many"] spSrow := g19.cal X G (fun _ _ _ _ _ _ us hl => match us, hl with | [_, _, _], _ => rfl) fun f fd F => ok_srow F B Nu
  have Sa : Cal l.prog w K mg base "are_states" 2 ["value", "many"] spSta := g20.cal X G (fun _ _ _ _ _ _ us hl => match us, hl with | [_, _], _ => rfl) fun f fd F => ok_sta F B Nu
  have Ck : Cal l.prog w K mg base "check_machine" 3 ["signs", "states", "member_states"] spChk := g21.cal X G (fun _ _ _ _ _ _ us hl => match us, hl with | [_, _, _], _ => rfl) fun f fd F => ok_chk F B Cc Sg Sr Sa
  have Rc : Cal l.prog w K mg base "reached" 1 ["signs", "rows"] spRch := g22.cal X G (fun _ _ _ _ _ _ us hl => match us, hl with | [_, _], _ => rfl) fun f fd F => ok_rch F B
  have Rf : Cal l.prog w K mg base "refined" 1 ["signs", "rows", "kinds"] spRef := g23.cal X G (fun _ _ _ _ _ _ us hl => match us, hl with | [_, _, _], _ => rfl) fun f fd F => ok_ref F B
  have Lk : Cal l.prog w K mg base "least_kinds" 2 ["signs", "rows", "kinds"] spLek := g24.cal X G (fun _ _ _ _ _ _ us hl => match us, hl with | [_, _, _], _ => rfl) fun f fd F => ok_lek F B Cc Rf
  have Lm : Cal l.prog w K mg base "least_machine" 3 ["signs", "rows", "member_states"] spLma := g25.cal X G (fun _ _ _ _ _ _ us hl => match us, hl with | [_, _, _], _ => rfl) fun f fd F => ok_lma F B Rc Lk
  have Ls : Cal l.prog w K mg base "live_states" 1 ["table", "member_list"] spLst := g26.cal X G (fun _ _ _ _ _ _ us hl => match us, hl with | [_, _], _ => rfl) fun f fd F => ok_lst F B
  have Rn : Cal l.prog w K mg base "_law_rng" 1 ["_law_script", "_law_k"] (spRng K) := g35.cal X G (fun _ _ _ _ _ _ us hl => match us, hl with | [_, _], _ => rfl) fun f fd F => ok_rng (ok_rng1 F B) rfl
  have Dr : Cal l.prog w K mg base "_law_draw" 1 ["_law_rng_here", "_law_many"] spDraw := g36.cal X G (fun _ _ _ _ _ _ us hl => match us, hl with | [_, _], _ => rfl) fun f fd F => ok_draw (ok_draw1 F B) rfl
  have Lt : Cal l.prog w K mg base "_law_letters" 2 ["_law_rng_here", "_law_many"] spLetters := g38.cal X G (fun _ _ _ _ _ _ us hl => match us, hl with | [_, _], _ => rfl) fun f fd F => ok_letters F B Dr
  have Cs : Cal l.prog w K mg base "_law_class" 2 ["_law_rng_here", "_law_cap", "_law_abc"] spClass := g39.cal X G (fun _ _ _ _ _ _ us hl => match us, hl with | [_, _, _], _ => rfl) fun f fd F => ok_class F B Dr
  have Be : Cal l.prog w K mg base "_law_belongs" 1 ["_law_machine", "_law_note"] spBelongs := g40.cal X G (fun _ _ _ _ _ _ us hl => match us, hl with | [_, _], _ => rfl) fun f fd F => ok_belongs F
  have Te : Cal l.prog w K mg base "_law_texts" 1 ["_law_abc", "_law_cap"] spTexts := g42.cal X G (fun _ _ _ _ _ _ us hl => match us, hl with | [_, _], _ => rfl) fun f fd F => ok_texts F B
  have ty : LTy K C := ⟨ty'.cls, ty'.getc, ty'.tak, ty'.mro, if_pos (beq_self_eq_true _), ty'.ne, ty'.sub⟩
  have oC := od.odd ty'
  have Bz := PySem.W.mg_none_of X G bz
  obtain ⟨f1, oc1, od1, an1, sl1, kV1, dc1, pm1, cd1, ct1, a1, i1, l1, c1_, k1⟩ := m1
  obtain ⟨f6, oc6, od6, an6, sl6, kV6, dc6, pm6, cd6, ct6, a6, i6, l6, c6_, k6⟩ := m6
  obtain ⟨f7, oc7, od7, an7, sl7, kV7, dc7, pm7, cd7, ct7, a7, i7, l7, c7_, k7⟩ := m7
  obtain ⟨f8, oc8, od8, an8, sl8, kV8, dc8, pm8, cd8, ct8, a8, i8, l8, c8_, k8⟩ := m8
  obtain ⟨f9, oc9, od9, an9, sl9, kV9, dc9, pm9, cd9, ct9, a9, i9, l9, c9_, k9⟩ := m9
  obtain ⟨f10, oc10, od10, an10, sl10, kV10, dc10, pm10, cd10, ct10, a10, i10, l10, c10_, k10⟩ := m10
  obtain ⟨f11, oc11, od11, an11, sl11, kV11, dc11, pm11, cd11, ct11, a11, i11, l11, c11_, k11⟩ := m11
  obtain ⟨f12, oc12, od12, an12, sl12, kV12, dc12, pm12, cd12, ct12, a12, i12, l12, c12_, k12⟩ := m12
  obtain ⟨f13, oc13, od13, an13, sl13, kV13, dc13, pm13, cd13, ct13, a13, i13, l13, c13_, k13⟩ := m13
  obtain ⟨p4, f4, r4, oc4, od4, an4, sl4, kV4, dc4, pm4, cd4, ct4, a4, g4_, t4, q4_, l4, c4_, k4⟩ := p4
  obtain ⟨p5, f5, r5, oc5, od5, an5, sl5, kV5, dc5, pm5, cd5, ct5, a5, g5_, t5, q5_, l5, c5_, k5⟩ := p5
  have F1 := fun_mk (st := sInit) l1 c1_ k1
  have F6 := fun_mk (st := sCks) l6 c6_ k6
  have F7 := fun_mk (st := sMov) l7 c7_ k7
  have F8 := fun_mk (st := sMem) l8 c8_ k8
  have F9 := fun_mk (st := sLiv) l9 c9_ k9
  have F10 := fun_mk (st := sLen) l10 c10_ k10
  have F11 := fun_mk (st := sCon) l11 c11_ k11
  have F12 := fun_mk (st := sEql) l12 c12_ k12
  have F13 := fun_mk (st := sRep) l13 c13_ k13
  have F4 := fun_mk (st := sSgn) l4 c4_ k4
  have F5 := fun_mk (st := sEmp2) l5 c5_ k5
  have Mc : CksM l.prog w K mg base C := ⟨⟨f6, _, ⟨a6, i6, k6⟩, ok_cks F6 B T Nu, F6.binds (fun _ _ _ _ _ _ us hl => match us, hl with | [_, _], _ => rfl)⟩⟩
  have Gc : Lg l.prog w K mg base C := ⟨T, ty, oC, ⟨f1, _, ⟨cl.ma, a1, i1, cl.kc⟩, ok_init F1 T Ck Lm Ls, F1.binds (fun _ _ _ _ _ _ us hl => match us, hl with | [_, _, _, _], _ => rfl)⟩, ⟨f11, _, ok_cnA F11 T Wd, a11, i11, F11.binds (fun _ _ _ _ _ _ us hl => match us, hl with | [_, _], _ => rfl)⟩,
      ⟨p4, f4, _, ⟨a4, g4_, t4, ⟨r4, q4_⟩⟩, ok_sgn F4 T, F4.binds (fun _ _ _ _ _ _ us hl => match us, hl with | [_], _ => rfl)⟩, ⟨p5, f5, _, ⟨a5, g5_, t5, ⟨r5, q5_⟩⟩, ok_emp F5 T, F5.binds (fun _ _ _ _ _ _ us hl => match us, hl with | [_], _ => rfl)⟩,
      ⟨f7, _, ⟨a7, i7, k7⟩, ok_mov F7 B T Mc, F7.binds (fun _ _ _ _ _ _ us hl => match us, hl with | [_, _, _], _ => rfl)⟩, ⟨f8, _, ⟨a8, i8, k8⟩, ok_mem F8 B T Mc, F8.binds (fun _ _ _ _ _ _ us hl => match us, hl with | [_, _], _ => rfl)⟩, ⟨f9, _, ⟨a9, i9, k9⟩, ok_liv F9 B T Mc, F9.binds (fun _ _ _ _ _ _ us hl => match us, hl with | [_, _], _ => rfl)⟩,
      ⟨f10, _, ok_len F10 B T, a10, i10, F10.binds (fun _ _ _ _ _ _ us hl => match us, hl with | [_], _ => rfl)⟩, ⟨f12, _, ok_eqA F12 B T ty oC, a12, i12, F12.binds (fun _ _ _ _ _ _ us hl => match us, hl with | [_, _], _ => rfl)⟩, ⟨f13, _, ok_rep F13 B T, a13, i13, F13.binds (fun _ _ _ _ _ _ us hl => match us, hl with | [_], _ => rfl)⟩⟩
  have Pd : Cal l.prog w K mg base "product" 1 ["one", "other"] (spPrd C) := g30.cal X G (fun _ _ _ _ _ _ us hl => match us, hl with | [_, _], _ => rfl) fun f fd F => ok_prd F B T
  have Fo : Cal l.prog w K mg base "first_outside" 2 ["one", "other"] (spFo C) := g31.cal X G (fun _ _ _ _ _ _ us hl => match us, hl with | [_, _], _ => rfl) fun f fd F => ok_fo F Bz T Pd
  have Lx : Cal l.prog w K mg base "least_text" 6 ["language"] (spLtx C) := g32.cal X G (fun _ _ _ _ _ _ us hl => match us, hl with | [_], _ => rfl) fun f fd F => ok_ltx F Gc Fo
  have Cl : SS.Ck mg := by
    obtain ⟨_, h5, t5, rfl⟩ := c4
    exact ⟨⟨t5, PySem.W.mg_of X G h5⟩⟩
  have Gm : LgM K C := by
    obtain ⟨u, h6, h7⟩ := cv
    exact ⟨⟨.type "type", u, ⟨ty'.rd, ty'.ga⟩, ⟨h6, h7⟩⟩⟩
  have Mb : MbC l.prog w K mg base C := by
    obtain ⟨f, oc, od, an, sl, kV, dc, pm, cd, ct, a, lk, c, kp⟩ := g33
    have F := fun_mk (st := sMbr) lk c kp
    exact ⟨⟨f, _, ok_mbr F B Cl T Nu, PySem.W.mg_of X G a, kp, F.binds (fun _ _ _ _ _ _ us hl => match us, hl with | [_, _], _ => rfl), kbn_mbr F⟩⟩
  have Lv : Cal l.prog w K mg base "_law_live" 1 ["_law_machine"] spLive := g41.cal X G (fun _ _ _ _ _ _ us hl => match us, hl with | [_], _ => rfl) fun f fd F => ok_live F B
  have Db : Cal l.prog w K mg base "_law_doubled" 2 ["_law_rng_here", "_law_machine"] spDbl := g43.cal X G (fun _ _ _ _ _ _ us hl => match us, hl with | [_, _], _ => rfl) fun f fd F => ok_dbl F B Bz Dr
  have Sq : Cal l.prog w K mg base "_law_spot" 1 ["_law_machine", "_law_note"] spSpt := g44.cal X G (fun _ _ _ _ _ _ us hl => match us, hl with | [_, _], _ => rfl) fun f fd F => ok_spt F
  have Se : Cal l.prog w K mg base "_law_state" 4 ["_law_made", "_law_note"] (spStt C) := g45.cal X G (fun _ _ _ _ _ _ us hl => match us, hl with | [_, _], _ => rfl) fun f fd F => ok_stt F Gc
  have Wl : CalG l.prog w K mg base "_law_walks_right" 5 ["_law_made", "_law_machine", "_law_notes"] (spWlk C) := g46.calG X G (fun _ _ _ _ _ _ us hl => match us, hl with | [_, _, _], _ => rfl) fun f fd F => ok_wlk F B Gc Lv Sq Se
  have Ap : CalG l.prog w K mg base "_law_apart" 4 ["_law_made", "_law_abc"] (spApt C) := g47.calG X G (fun _ _ _ _ _ _ us hl => match us, hl with | [_, _], _ => rfl) fun f fd F => ok_apt F B Gc Gm Te
  have Mr : CalG l.prog w K mg base "_law_members_right" 7 ["_law_made", "_law_machine", "_law_notes"] (spMbR C) := g48.calG X G (fun _ _ _ _ _ _ us hl => match us, hl with | [_, _, _], _ => rfl) fun f fd F => ok_mbR F B Gc Mb Be Lx
  have Va : CalG l.prog w K mg base "_law_values_right" 4 ["_law_made", "_law_abc"] (spVal C) := g49.calG X G (fun _ _ _ _ _ _ us hl => match us, hl with | [_, _], _ => rfl) fun f fd F => ok_val F B Gc
  have Ri : CalG l.prog w K mg base "_law_right" 8 ["_law_rng_here"] spRight := g50.calG X G (fun _ _ _ _ _ _ us hl => match us, hl with | [_], _ => rfl) fun f fd F => ok_right F B Gc ⟨ty'.ne, ty'.sub⟩ ⟨Dr, Lt, Cs, Db, Te, Wl, Ap, Mr, Va⟩
  exact ok_law FL B Rn Ri
theorem walk {l : PySem.W.OpenLaw} {q : Program} {loose : List Str} {XP : (Str → Option Value) → Heap → Prop} {YP : World → Heap → Prop} {d : DefRec} {K : Params → PySem.W.Frag} (hn : l.most = some 63) (hdf : d.params.defaults = [])
    (hY : ∀ (w : World) (h : Heap), YP w h → (K w.params).In h)
    (F : ∀ (w : World) (mg : Str → Option Value) (fa : Addr) (h : Heap), (K w.params).In h → h.Ns mainGlobals mg → mg d.name = some (.ref fa) →
      ∃ fd : FuncData, (∀ (s : Shared) (u : Value), BindsTo s fd ⟨[u], []⟩ [("_law_script", u)]) ∧ ∀ base : Heap, (K w.params).In base → base.Ns mainGlobals mg → FnG l.prog w (K w.params) mg base 9 fa fd ["_law_script"] (spLaw (K w.params))) :
    PySem.W.WalkO q loose XP YP l.row.toRowW d [] (fun f vs => PySem.call f vs) :=
  SR.walk_ofG (n := 63) (k := 9) (x := "_law_script") (sp := fun w => spLaw (K w.params)) hn (by decide) hdf ⟨rfl, by decide, by decide⟩ hY F fun _ _ a ns hl hS => ⟨a, ns, rfl, hS, hl, fun _ => rfl⟩
end SS

set_option maxRecDepth 100000
open PySem PySem.W PyProof.Rows
set_option maxRecDepth 100000 in
set_option maxHeartbeats 0 in
theorem PySem.Challenge.cw_sealedslots_k28_whole_states_by_all_text_holds : PySem.Challenge.rw_sealedslots_k28_whole_states_by_all_text.Holds := by
  w_on; o_law; k_head; (case hw => w_witness2)
  k_fill
  refine SS.walk (l := PySem.Challenge.rw_sealedslots_k28_whole_states_by_all_text) rfl rfl (fun w h Y => PySem.W.kIn_of Y) ?F
  case F =>
    intro w mg fa h KX G hmg
    refine' SS.all_mk KX G hmg ?aC ?cl ?ty ?od ?fr ?bz ?cv ?g11 ?g17 ?g18 ?g19 ?g20 ?g21 ?g22 ?g23 ?g24 ?g25 ?g26 ?g30 ?g31 ?g32 ?g33 ?g35 ?g36 ?g38 ?g39 ?g40 ?g41 ?g42 ?g43 ?g44 ?g45 ?g46 ?g47 ?g48 ?g49 ?g50 ?g51 ?m1 ?m6 ?m7 ?m8 ?m9 ?m10 ?m11 ?m12 ?m13 ?p4 ?p5 ?c0 ?c1 ?c2 ?c3 ?c4
    (case aC => k_is)
    (case bz => k_is)
    (case cv => (refine' SS.cv_mk ?a ?r; (case a => k_is); (case r => exact ⟨_, rfl⟩)))
    (case cl => (refine' ⟨?_, ?_, ?_, ?_, ?_, ?_, ?_, ?_, ?_, ?_⟩ <;> k_is))
    (case ty => (refine' ⟨?_, ?_, ?_, ?_, ?_, ?_, ?_, ?_, ?_, ?_⟩ <;> k_is))
    (case od => (refine' ⟨?_, ?_, ?_, ?_, ?_, ?_, ?_, ?_, ?_, ?_, ?_, ?_⟩ <;> k_is))
    (case fr => (refine' ⟨?_, ?_, ?_, ?_, ?_, ?_, ?_, ?_, ?_, ?_, ?_, ?_, ?_, ?_, ?_, ?_, ?_, ?_, ?_⟩ <;> k_is))
    (case g11 => (refine' SS.gf_mk ?a ?l ?c ?k; (case a => k_is); (case l => k_is); (case c => k_is); (case k => k_is)))
    (case g17 => (refine' SS.gf_mk ?a ?l ?c ?k; (case a => k_is); (case l => k_is); (case c => k_is); (case k => k_is)))
    (case g18 => (refine' SS.gf_mk ?a ?l ?c ?k; (case a => k_is); (case l => k_is); (case c => k_is); (case k => k_is)))
    (case g19 => (refine' SS.gf_mk ?a ?l ?c ?k; (case a => k_is); (case l => k_is); (case c => k_is); (case k => k_is)))
    (case g20 => (refine' SS.gf_mk ?a ?l ?c ?k; (case a => k_is); (case l => k_is); (case c => k_is); (case k => k_is)))
    (case g21 => (refine' SS.gf_mk ?a ?l ?c ?k; (case a => k_is); (case l => k_is); (case c => k_is); (case k => k_is)))
    (case g22 => (refine' SS.gf_mk ?a ?l ?c ?k; (case a => k_is); (case l => k_is); (case c => k_is); (case k => k_is)))
    (case g23 => (refine' SS.gf_mk ?a ?l ?c ?k; (case a => k_is); (case l => k_is); (case c => k_is); (case k => k_is)))
    (case g24 => (refine' SS.gf_mk ?a ?l ?c ?k; (case a => k_is); (case l => k_is); (case c => k_is); (case k => k_is)))
    (case g25 => (refine' SS.gf_mk ?a ?l ?c ?k; (case a => k_is); (case l => k_is); (case c => k_is); (case k => k_is)))
    (case g26 => (refine' SS.gf_mk ?a ?l ?c ?k; (case a => k_is); (case l => k_is); (case c => k_is); (case k => k_is)))
    (case g30 => (refine' SS.gf_mk ?a ?l ?c ?k; (case a => k_is); (case l => k_is); (case c => k_is); (case k => k_is)))
    (case g31 => (refine' SS.gf_mk ?a ?l ?c ?k; (case a => k_is); (case l => k_is); (case c => k_is); (case k => k_is)))
    (case g32 => (refine' SS.gf_mk ?a ?l ?c ?k; (case a => k_is); (case l => k_is); (case c => k_is); (case k => k_is)))
    (case g33 => (refine' SS.gf_mk ?a ?l ?c ?k; (case a => k_is); (case l => k_is); (case c => k_is); (case k => k_is)))
    (case g35 => (refine' SS.gf_mk ?a ?l ?c ?k; (case a => k_is); (case l => k_is); (case c => k_is); (case k => k_is)))
    (case g36 => (refine' SS.gf_mk ?a ?l ?c ?k; (case a => k_is); (case l => k_is); (case c => k_is); (case k => k_is)))
    (case g38 => (refine' SS.gf_mk ?a ?l ?c ?k; (case a => k_is); (case l => k_is); (case c => k_is); (case k => k_is)))
    (case g39 => (refine' SS.gf_mk ?a ?l ?c ?k; (case a => k_is); (case l => k_is); (case c => k_is); (case k => k_is)))
    (case g40 => (refine' SS.gf_mk ?a ?l ?c ?k; (case a => k_is); (case l => k_is); (case c => k_is); (case k => k_is)))
    (case g41 => (refine' SS.gf_mk ?a ?l ?c ?k; (case a => k_is); (case l => k_is); (case c => k_is); (case k => k_is)))
    (case g42 => (refine' SS.gf_mk ?a ?l ?c ?k; (case a => k_is); (case l => k_is); (case c => k_is); (case k => k_is)))
    (case g43 => (refine' SS.gf_mk ?a ?l ?c ?k; (case a => k_is); (case l => k_is); (case c => k_is); (case k => k_is)))
    (case g44 => (refine' SS.gf_mk ?a ?l ?c ?k; (case a => k_is); (case l => k_is); (case c => k_is); (case k => k_is)))
    (case g45 => (refine' SS.gf_mk ?a ?l ?c ?k; (case a => k_is); (case l => k_is); (case c => k_is); (case k => k_is)))
    (case g46 => (refine' SS.gf_mk ?a ?l ?c ?k; (case a => k_is); (case l => k_is); (case c => k_is); (case k => k_is)))
    (case g47 => (refine' SS.gf_mk ?a ?l ?c ?k; (case a => k_is); (case l => k_is); (case c => k_is); (case k => k_is)))
    (case g48 => (refine' SS.gf_mk ?a ?l ?c ?k; (case a => k_is); (case l => k_is); (case c => k_is); (case k => k_is)))
    (case g49 => (refine' SS.gf_mk ?a ?l ?c ?k; (case a => k_is); (case l => k_is); (case c => k_is); (case k => k_is)))
    (case g50 => (refine' SS.gf_mk ?a ?l ?c ?k; (case a => k_is); (case l => k_is); (case c => k_is); (case k => k_is)))
    (case g51 => (refine' SS.gf_mk ?a ?l ?c ?k; (case a => k_is); (case l => k_is); (case c => k_is); (case k => k_is)))
    (case m1 => (refine' SS.me_mk ?a ?i ?l ?c ?k; (case a => k_is); (case i => k_is); (case l => k_is); (case c => k_is); (case k => k_is)))
    (case m6 => (refine' SS.me_mk ?a ?i ?l ?c ?k; (case a => k_is); (case i => k_is); (case l => k_is); (case c => k_is); (case k => k_is)))
    (case m7 => (refine' SS.me_mk ?a ?i ?l ?c ?k; (case a => k_is); (case i => k_is); (case l => k_is); (case c => k_is); (case k => k_is)))
    (case m8 => (refine' SS.me_mk ?a ?i ?l ?c ?k; (case a => k_is); (case i => k_is); (case l => k_is); (case c => k_is); (case k => k_is)))
    (case m9 => (refine' SS.me_mk ?a ?i ?l ?c ?k; (case a => k_is); (case i => k_is); (case l => k_is); (case c => k_is); (case k => k_is)))
    (case m10 => (refine' SS.me_mk ?a ?i ?l ?c ?k; (case a => k_is); (case i => k_is); (case l => k_is); (case c => k_is); (case k => k_is)))
    (case m11 => (refine' SS.me_mk ?a ?i ?l ?c ?k; (case a => k_is); (case i => k_is); (case l => k_is); (case c => k_is); (case k => k_is)))
    (case m12 => (refine' SS.me_mk ?a ?i ?l ?c ?k; (case a => k_is); (case i => k_is); (case l => k_is); (case c => k_is); (case k => k_is)))
    (case m13 => (refine' SS.me_mk ?a ?i ?l ?c ?k; (case a => k_is); (case i => k_is); (case l => k_is); (case c => k_is); (case k => k_is)))
    (case p4 => (refine' SS.pr_mk ?a ?g ?t ?r ?l ?c ?k; (case a => k_is); (case g => k_is); (case t => k_is); (case r => k_is); (case l => k_is); (case c => k_is); (case k => k_is)))
    (case p5 => (refine' SS.pr_mk ?a ?g ?t ?r ?l ?c ?k; (case a => k_is); (case g => k_is); (case t => k_is); (case r => k_is); (case l => k_is); (case c => k_is); (case k => k_is)))
    (case c0 => (refine' SS.cs_mk ?a ?r; (case a => k_is); (case r => exact ⟨_, rfl⟩)))
    (case c1 => (refine' SS.cs_mk ?a ?r; (case a => k_is); (case r => exact ⟨_, rfl⟩)))
    (case c2 => (refine' SS.cs_mk ?a ?r; (case a => k_is); (case r => exact ⟨_, rfl⟩)))
    (case c3 => (refine' SS.cs_mk ?a ?r; (case a => k_is); (case r => exact ⟨_, rfl⟩)))
    (case c4 => (refine' SS.cs_mk ?a ?r; (case a => k_is); (case r => exact ⟨_, rfl⟩)))

