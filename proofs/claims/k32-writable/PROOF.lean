import PyProof.Rows.All
import Wide.All
import OpenK.AllK
import Wide.FinOn
import HandS.ForMost
import HandS.Wide
import HandS.WideBits
import PyProof.Rows.ListStrD
import HandS.Set
import HandS.SetFor
import HandS.OwnEq
import PyProof.TupleKey
import PyProof.DictMoreH
import HandS.TupLen
import HandS.SetKeys
import PySem.Challenge.RW_sealedslots_k32_writable
import HandS.Walk
import KE.GoesEnum
import KE.KDictWalk
import HandS.IsInst
import KE.KDictCopyH
import HandS.Finally
import PyProof.ReprRoads
import HandS.Ends
import HandS.Defaults
import HandS.GenList
import KE.GoesComp2
import HandS.More
import HandS.Iter
import HandS.Comp
import HandS.ListItems
import HandS.DictTup
import HandS.SortOrd
import HandS.SortInts
import KE.KItemsList
import PyProof.Rows.SortKeyStr
import HandS.TryOnly
import HandS.ClsMeth
import PyProof.TupleOfSeq
import HandS.MakeKw
import HandS.Property
import HandS.FStr
import HandS.DeepEq
import HandS.MakeKwOnly
import OpenK.KOps
import PyProof.ReprBulk
import HandS.DictSub
import KE.KEqNest
import PyProof.EqKinds
import KE.KIndexOf
import HandS.Star
import HandS.DictComp
import HandS.Style
import HandS.NoneIn
import HandS.Conv
set_option Elab.async false
set_option linter.all false
set_option maxRecDepth 100000
set_option maxHeartbeats 4000000
namespace SR
open PySem PySem.Spec PyProof.Rows L2
def lt (c : Nat) : Str := ⟨#[c]⟩
def ltV (c : Nat) : V := .str (lt c)
section
variable {X : Cx}
/-- list(text) -/
theorem call_list_txt (hc : X.calm = true) : CallR X (.type "list") (fun xs H Q => ∃ z : Str, xs = [.str z] ∧ z.length ≤ sizeLine ∧ ∀ l, H l = none → Q (.ref l) (upd H l (.lst (z.cps.toList.map ltV)))) := by
  intro pins s σ H xs us Q I r h
  obtain ⟨z, rfl, hz, q⟩ := h
  obtain ⟨u, rfl, rx⟩ := vals1 r
  obtain ⟨t, rfl⟩ := rx
  refine call_list_str (I.ok.hd hc) z t (hn := hz) fun h' tk acc' c' hk hS' hacc => ?_
  have hv : Vals (z.cps.toList.map ltV) acc'.toList := by
    have h1 : acc'.size = z.cps.size := by simpa using hacc.1
    have key : ∀ (l : List Nat) (ys : List Value), ys.length = l.length → (∀ (j : Nat) v, ys[j]? = some v → ∃ c, l[j]? = some c ∧ ∃ u, v = Value.str (lt c) u) → Vals (l.map ltV) ys := by
      intro l
      induction l with
      | nil =>
        intro ys hl _
        have : ys = [] := List.length_eq_zero_iff.mp hl
        subst this
        exact .nil
      | cons c l ih =>
        intro ys hl hy
        cases ys with
        | nil => simp at hl
        | cons y ys =>
          obtain ⟨c', e, u, hu⟩ := hy 0 y rfl
          have e' : c = c' := by simpa using e
          subst e'
          refine .cons ⟨u, hu⟩ (ih ys (by simpa using hl) fun j v hv => hy (j + 1) v (by simpa using hv))
    refine key _ _ (by simp [h1]) fun j v hv => ?_
    obtain ⟨c, u, hc', e⟩ := hacc.2 j v (by simpa using hv)
    exact ⟨c, by simpa using hc', u, e⟩
  refine ⟨.ref s.heap.objs.size, _, I.laid (t' := tk) hk (Nat.le_refl _) (show ObjOk X.prog X.w _ h' _ (.lst (z.cps.toList.map ltV)) from ⟨by simpa [Str.length] using hz, acc'.toList, c', hv, by simpa using hS'⟩), rfl, q _ (I.hok.fresh (Nat.le_refl _))⟩
end
end SR

set_option maxRecDepth 100000
set_option maxHeartbeats 4000000
namespace SR
open PySem PySem.Spec PyProof.Rows L2
/-! Sets of ints and texts whose table can be walked: made of a list, a tuple or a text; len, sorted. -/
def kOf (v : Value) : Key := match v with
  | .int i _ => .inl i
  | .str x _ => .inr x
  | _ => .inl 0
theorem kOf_of {k : Key} {v : Value} (h : keyIs k v = true) : kOf v = k := by
  rcases keyIs_shape h with ⟨i, t, rfl, rfl⟩ | ⟨x, t, rfl, rfl⟩ <;> rfl
def GoodM (w : World) (e : Int × Value) : Prop := keyIs (kOf e.2) e.2 = true ∧ e.1 = keyH w (kOf e.2)
structure MData (w : World) (es : Array (Int × Value)) (t : SetTable) (l : List Key) : Prop where
  good : ∀ e ∈ es.toList, GoodM w e
  keys : es.toList.map (fun e => kOf e.2) = l
  nd : l.Nodup
  few : es.size < scanBound
  fit : t.fits es.size = true
  ris : Ris t.place.toList
  led : w.params.followText "set-order" = true ∨ t.led = true
def SetM (w : World) (h : Heap) (a : Addr) (l : List Key) : Prop := ∃ o es ep t, h.get? a = some o ∧ o.ExactSet ∧ o.data = .set es ep t ∧ MData w es t l
theorem SetM.at {w : World} {h h' : Heap} {a : Addr} {l : List Key} (R : SetM w h a l) (k : ∀ o, h.get? a = some o → h'.get? a = some o) : SetM w h' a l := by
  obtain ⟨o, es, ep, t, e, r⟩ := R
  exact ⟨o, es, ep, t, k o e, r⟩
section
variable {P : Program} {w : World} {A : Around} {E : Value → Shared → Prop} {s : Shared}
theorem MData.elems {es : Array (Int × Value)} {t : SetTable} {l : List Key} (M : MData w es t l) : ElemsOf (mixKind P w) es.toList := fun e he => by
  obtain ⟨g1, g2⟩ := M.good e he
  refine ⟨⟨kOf e.2, g1, g2⟩, ?_⟩
  rcases keyIs_shape g1 with ⟨i, tk, _, q⟩ | ⟨x, tk, _, q⟩ <;> rw [q] <;> rfl
theorem MData.size {es : Array (Int × Value)} {t : SetTable} {l : List Key} (M : MData w es t l) : es.size = l.length := by
  rw [← M.keys, List.length_map, Array.length_toList]
/-- the tail of an add: the table stored, and laid anew where it is too full -/
theorem addTail {a : Addr} {l : List Key} {o : Obj} {es : Array (Int × Value)} {ep : Nat} {t : SetTable} (ho : s.heap.get? a = some o) (hex : o.ExactSet) (hd : o.data = .set es ep t)
    {es1 : Array (Int × Value)} {t2 : SetTable} (M : MData w es1 t2 l) {wasDummy : Bool} {g : Bool → Sem Unit} (hg : ∀ (b : Bool) (s₁ : Shared) (Q' : Unit → Shared → Prop), Q' () s₁ → wpAny (model P w) A (g b) Q' E s₁) {R : Option Bool → Shared → Prop}
    (hR : ∀ h' l', Heap.SameBut a s.heap h' → SetM w h' a l' → l'.Perm l → R (some true) { s with heap := h' }) :
    wpAny (model P w) A (do
        storeSet a es1 t2
        if (!wasDummy && t2.tooFull) = true then do
            g (relayAll t2 es1 (SetTable.grown es1.size)).2.2
            storeSet a (relayAll t2 es1 (SetTable.grown es1.size)).1 (relayAll t2 es1 (SetTable.grown es1.size)).2.1
            pure (some true)
          else pure (some true)) R E s := by
  have ho1 := store_at (es' := es1) (t' := t2) ho hd
  have sb1 := Heap.SameBut.update s.heap a (Obj.putSet es1 t2)
  refine wpAny_bind (wpAny_storeSet_of ho hd ?_ (fits_of_scanBound M.few))
  by_cases c : (!wasDummy && t2.tooFull) = true
  · rw [if_pos c]
    obtain ⟨es2, t3, gave, hZ⟩ : ∃ es2 t3 gave, relayAll t2 es1 (SetTable.grown es1.size) = (es2, t3, gave) := ⟨_, _, _, rfl⟩
    have pm := relayAll_perm t2 es1 (SetTable.grown es1.size)
    have f3 := relayAll_fits t2 es1 (SetTable.grown es1.size)
    have r3 := relayAll_ris t2 es1 (SetTable.grown es1.size)
    have l3 := relayAll_led t2 es1 (SetTable.grown es1.size)
    rw [hZ] at pm f3 r3 l3 ⊢
    have pm' : es2.toList.Perm es1.toList := pm
    have hsz : es2.size = es1.size := by simpa using pm'.length_eq
    have few2 : es2.size < scanBound := hsz ▸ M.few
    refine wpAny_bind (hg gave _ _ ?_)
    refine wpAny_bind (wpAny_storeSet_of ho1 rfl ?_ (fits_of_scanBound few2))
    have pk : (es2.toList.map (fun e => kOf e.2)).Perm l := (pm'.map _).trans (List.Perm.of_eq M.keys)
    refine wpAny_pure (hR _ _ (sb1.trans (Heap.SameBut.update _ a _)) ⟨_, es2, _, t3, store_at (es' := es2) (t' := t3) ho1 rfl, hex, rfl, ⟨fun e he => M.good e (pm'.mem_iff.mp he), rfl, pk.nodup_iff.mpr M.nd, few2, f3, r3, M.led.imp id fun z => l3.trans z⟩⟩ pk)
  · rw [if_neg c]
    exact wpAny_pure (hR _ l sb1 ⟨_, es1, _, t2, ho1, hex, rfl, M⟩ (List.Perm.refl _))
theorem add_key {a : Addr} {l : List Key} {k : Key} {v : Value} {Q : Bool → Shared → Prop} (R : SetM w s.heap a l) (room : l.length + 1 < scanBound) (hk : keyIs k v = true)
    (hQ : ∀ b h' l', Heap.SameBut a s.heap h' → SetM w h' a l' → (k ∈ l → l' = l) → (k ∉ l → l'.Perm (k :: l)) → Q b { s with heap := h' }) :
    wpAny (model P w) A (setAddHashed a v (keyH w k)) Q E s := by
  obtain ⟨o, es, ep, t, ho, hex, hd, M⟩ := R
  have hkey : (mixKind P w).is k v = true := hk
  have hsc : v.scannable = true := by rcases keyIs_shape hk with ⟨i, tk, _, q⟩ | ⟨x, tk, _, q⟩ <;> rw [q] <;> rfl
  have hel : ElemsOf (mixKind P w) es.toList := M.elems
  have hmem : k ∈ l ↔ ∃ e ∈ es.toList, (mixKind P w).is k e.2 = true := by
    rw [← M.keys, List.mem_map]
    constructor
    · rintro ⟨e, he, q⟩
      exact ⟨e, he, by rw [← q]; exact (M.good e he).1⟩
    · rintro ⟨e, he, q⟩
      exact ⟨e, he, kOf_of q⟩
  unfold setAddHashed setAddHashedIn
  refine wpAny_holding (wpAny_bind (wpAny_setState_of ho hd M.fit ?_))
  dsimp only
  rw [byScan_of hsc M.few hel, if_pos rfl]
  unfold setAddByScan
  refine wpAny_bind (wpAny_bind (wpAny_rule (wpAny_bind (wpAny_setScan_of hkey ho hd M.fit hel ?_))))
  cases hfi : List.findIdx? (fun e => (mixKind P w).is k e.2) es.toList with
  | some j =>
    obtain ⟨hj, pj, _⟩ := List.findIdx?_eq_some_iff_getElem.mp hfi
    have hin : k ∈ l := hmem.mpr ⟨_, List.getElem_mem hj, pj⟩
    exact wpAny_pure (wpAny_pure (hQ false s.heap l (Heap.SameBut.refl a s.heap) ⟨o, es, ep, t, ho, hex, hd, M⟩ (fun _ => rfl) fun z => absurd hin z))
  | none =>
    have hout : k ∉ l := fun z => by
      obtain ⟨e, he, q⟩ := hmem.mp z
      exact Bool.noConfusion ((List.findIdx?_eq_none_iff.mp hfi e he).symm.trans q)
    obtain ⟨es1, t1, wasDummy, gave, hZ⟩ : ∃ es1 t1 wd gv, layNew t es (keyH w k) v = (es1, t1, wd, gv) := ⟨_, _, _, _, rfl⟩
    have pm := layNew_perm t es (keyH w k) v
    have f1 := layNew_fits t es (keyH w k) v
    have r1 := layNew_ris t es (keyH w k) v M.ris
    have l1 := layNew_led t es (keyH w k) v
    dsimp only
    rw [hZ] at pm f1 r1 l1 ⊢
    have pm' : es1.toList.Perm (es.push (keyH w k, v)).toList := pm
    rw [Array.toList_push] at pm'
    have pc : es1.toList.Perm ((keyH w k, v) :: es.toList) := pm'.trans (List.perm_append_singleton _ _)
    have pk : (es1.toList.map (fun e => kOf e.2)).Perm (k :: l) := by
      refine (pc.map (fun e => kOf e.2)).trans (List.Perm.of_eq ?_)
      rw [List.map_cons, M.keys, kOf_of hk]
    have hsz : es1.size = l.length + 1 := by
      have q := pk.length_eq
      rwa [List.length_map, Array.length_toList, List.length_cons] at q
    have mk : ∀ t2 : SetTable, t2.fits es1.size = true → t2.place = t1.place → t2.led = t1.led → MData w es1 t2 (es1.toList.map (fun e => kOf e.2)) := fun t2 hf hp hl =>
      ⟨fun e he => by
        rcases List.mem_cons.mp (pc.mem_iff.mp he) with z | z
        · rw [z]; exact ⟨by show keyIs (kOf v) v = true; rw [kOf_of hk]; exact hk, by show keyH w k = keyH w (kOf v); rw [kOf_of hk]⟩
        · exact M.good e z, rfl, pk.nodup_iff.mpr (List.nodup_cons.mpr ⟨hout, M.nd⟩), hsz ▸ room, hf, by rw [hp]; exact r1, by rw [hl]; exact M.led.imp id fun z => l1.trans z⟩
    have hg : ∀ (b : Bool) (s₁ : Shared) (Q' : Unit → Shared → Prop), Q' () s₁ → wpAny (model P w) A (match b with | true => rule "set.scan.the-table-gave-way" | false => pure ()) Q' E s₁ := fun b s₁ Q' q => by
      cases b
      · exact wpAny_pure q
      · exact wpAny_rule q
    have fin : ∀ h' l', Heap.SameBut a s.heap h' → SetM w h' a l' → l'.Perm (es1.toList.map (fun e => kOf e.2)) → Q true { s with heap := h' } := fun h' l' sb r p =>
      hQ true h' l' sb r (fun z => absurd z hout) fun _ => p.trans pk
    refine wpAny_bind (hg gave _ _ ?_)
    by_cases pl : t1.plain = true
    · simp only [pl, if_true]
      refine wpAny_bind ?_
      rw [hashByValue_scannable 8 hsc]
      refine wpAny_pure ?_
      refine addTail ho hex hd (mk _ ?_ ?_ ?_) ?_ fun h' l' sb r p => wpAny_pure (fin h' l' sb r p)
      · first | (split <;> first | exact f1 | exact SetTable.fits_plain_off f1) | exact f1 | exact SetTable.fits_plain_off f1
      · first | rfl | (split <;> rfl)
      · first | rfl | (split <;> rfl)
      · intro b s₁ Q' q
        cases b
        · exact wpAny_pure q
        · exact wpAny_rule q
    · simp only [pl, if_false]
      refine wpAny_bind (wpAny_pure ?_)
      refine addTail ho hex hd (mk _ ?_ ?_ ?_) ?_ fun h' l' sb r p => wpAny_pure (fin h' l' sb r p)
      · first | (split <;> first | exact f1 | exact SetTable.fits_plain_off f1) | exact f1 | exact SetTable.fits_plain_off f1
      · first | rfl | (split <;> rfl)
      · first | rfl | (split <;> rfl)
      · intro b s₁ Q' q
        cases b
        · exact wpAny_pure q
        · exact wpAny_rule q

structure GotM (ks : List Key) (i : Nat) (l : List Key) : Prop where
  mem : ∀ k, k ∈ l ↔ k ∈ ks.take i
  len : l.length ≤ i
theorem GotM.next {ks l l' : List Key} {i : Nat} {k : Key} (g : GotM ks i l) (hk : ks[i]? = some k) (h1 : k ∈ l → l' = l) (h2 : k ∉ l → l'.Perm (k :: l)) : GotM ks (i + 1) l' := by
  have e : ks.take (i + 1) = ks.take i ++ [k] := by rw [List.take_add_one, hk]; rfl
  by_cases c : k ∈ l
  · rw [h1 c]
    refine ⟨fun x => ?_, Nat.le_succ_of_le g.len⟩
    rw [e, List.mem_append, List.mem_singleton, ← g.mem x]
    exact ⟨.inl, fun z => z.elim id fun z => z ▸ c⟩
  · have p := h2 c
    refine ⟨fun x => ?_, ?_⟩
    · rw [p.mem_iff, List.mem_cons, e, List.mem_append, List.mem_singleton, g.mem x]
      exact Or.comm
    · rw [p.length_eq]
      exact Nat.succ_le_succ g.len
theorem upd_loop {I : Addr} {fp wr : List Addr} {G : Array GenState → Array GenState → Prop} {n : Nat} {Pv : Nat → Value → Prop} {St : Nat → Shared → Prop} {R : Result → Shared → Prop}
    (W : WalksS P w A.in1 I fp wr G n Pv St) (S : Addr) (hSf : S ∉ fp) (ks : List Key) (hn : n = ks.length) (hb : ks.length + 1 < scanBound) (hval : ∀ i v, Pv i v → ∃ k, ks[i]? = some k ∧ keyIs k v = true) :
    ∀ (d i : Nat) (s : Shared), n - i = d → i ≤ n → St i s → (∃ l, SetM w s.heap S l ∧ GotM ks i l) →
      (∀ s' l, Moved (S :: wr) G s s' → SetM w s'.heap S l → GotM ks n l → R (.ok (.ret .none)) s') → codeAny (model P w) A (.builtin "set.update.loop" ⟨[.ref S, .ref I], []⟩) R s := by
  have nw : S ∉ wr := fun h => hSf (W.sub _ h)
  have sub : ∀ b ∈ wr, b ∈ S :: wr := fun b hb => List.mem_cons_of_mem _ hb
  have start : ∀ (s : Shared), wpAny (model P w) A.in1 (do
      let some v ← pyNext (.ref I) | ret .none
      let _ ← holding [v] (setAdd S v)
      again (.builtin "set.update.loop" ⟨[.ref S, .ref I], []⟩)) (fun fin s' => match fin with | .done f => R (.ok f) s' | .again c' => c'.quiet = true ∧ codeAny (model P w) A c' R s') (fun e s' => R (.error e) s') s → codeAny (model P w) A (.builtin "set.update.loop" ⟨[.ref S, .ref I], []⟩) R s := fun s h => by
    refine codeAny_builtin F.entry_set_update_loop ?_
    rw [Around.under_plainId F.plain_set_update_loop _]
    exact h
  intro d
  induction d with
  | zero =>
    intro i s hd hi hst ⟨l, hS, g⟩ hR
    obtain rfl : i = n := by omega
    refine start s (wpAny_bind (W.done s _ _ hst fun s' hm => ?_))
    exact wpAny_pure (hR s' l (hm.mono sub) (hS.at fun o e => hm.heap S o nw e) g)
  | succ d ih =>
    intro i s hd hi hst ⟨l, hS, g⟩ hR
    have hlt : i < n := by omega
    refine start s (wpAny_bind (W.item i s _ _ hlt hst fun v s' hP hst' hm => ?_))
    obtain ⟨k, hk, hkv⟩ := hval i v hP
    have hS' : SetM w s'.heap S l := hS.at fun o e => hm.heap S o nw e
    refine wpAny_bind (wpAny_holding ?_)
    unfold setAdd
    refine wpAny_holding (wpAny_bind ((mixKind P w).pyHash (k := k) hkv ?_))
    refine add_key (s := { s' with toks := s'.toks + 1 }) hS' (by have := g.len; omega) hkv fun b h' l' sb hS2 c1 c2 => ?_
    refine wpAny_pure ⟨plainId_quiet F.plain_set_update_loop _, ih (i + 1) _ (by omega) hlt (W.frame _ s' _ _ hst' (Nat.le_succ _) fun b hb o e => ?_) ⟨l', hS2, g.next hk c1 c2⟩ fun s'' l2 hm'' hS'' g'' => ?_⟩
    · exact (sb.2 b fun h => hSf (h ▸ hb)).trans e
    · refine hR s'' l2 (Moved.trans W.gtrans ((hm.mono sub).then_heap (Nat.le_succ _) fun b o hb e => ?_) hm'') hS'' g''
      exact (sb.2 b fun h => hb (h ▸ List.mem_cons_self)).trans e
end
end SR

set_option maxRecDepth 100000
set_option maxHeartbeats 4000000
namespace SR
open PySem PySem.Spec PyProof.Rows L2
abbrev newSet (w : World) : Obj := { cls := .type "set", dict := none, data := .set #[] 0 (.fresh 0 0 (!w.params.followText "set-order")) }
section
variable {P : Program} {w : World} {A : Around} {E : Value → Shared → Prop} {s : Shared}
/-- what is wanted behind set.__init__ -/
abbrev InitEnd (P : Program) (w : World) (A : Around) (E : Value → Shared → Prop) (q : Shared → Prop) (fin : Fin) (s' : Shared) : Prop := match fin with
  | .done f => wants (fun r s₂ => r = Value.none ∧ q s₂) E (.ok f) s'
  | .again c' => c'.quiet = true ∧ codeAny (model P w) A c' (wants (fun r s₂ => r = Value.none ∧ q s₂) E) s'
theorem set_shell (a : Value) {Q : Value → Shared → Prop}
    (h : wpAny (model P w) A.in1.in1 (Builtin.«set.__init__» ⟨[.ref s.heap.objs.size, a], []⟩) (InitEnd P w A.in1 E (Q (.ref s.heap.objs.size))) (fun e s' => wants (fun r s₂ => r = Value.none ∧ Q (.ref s.heap.objs.size) s₂) E (.error e) s') { s with heap := s.heap.push (newSet w) }) :
    wpAny (model P w) A (call (.type "set") [a]) Q E s := by
  obtain ⟨c, tl, hmro⟩ := F.called_set.mro
  have hmade := F.called_set.made
  have hsub := F.called_set.sub
  refine wpAny_call (codeAny_of_tree ?_)
  show wpAny _ _ (callAny (.type "set") _) _ _ _
  refine wpAny_pure ⟨Code.quiet_builtin _ (by decide +kernel), codeAny_builtin F.entry_type_call ?_⟩
  rw [Around.under_plain (weight_type_call_type "set" [a] []) rfl]
  have h1 := F.called_set.notType
  have h2 := F.called_set.canCreate
  have hct := F.typeCall_set_1 a
  repeat (any_goals (first | assumption | wp_step))
  refine codeAny_mono (code_set_led1 a (E := E) (Q₁ := fun obj s₁ => obj = .ref s.heap.objs.size ∧ s₁ = { s with heap := s.heap.push (newSet w) }) ⟨rfl, rfl⟩) fun r s₁ hr => ?_
  cases r with
  | error e => exact hr
  | ok fl =>
    cases fl with
    | ret obj =>
      obtain ⟨rfl, rfl⟩ := hr
      have hS : (s.heap.push (newSet w)).get? s.heap.objs.size = some (newSet w) := Heap.get?_push_size _ rfl
      have hT : Shared.TypeIs { s with heap := s.heap.push (newSet w) } (.ref s.heap.objs.size) "set" := ⟨_, hS, rfl⟩
      have hli := F.called_set.init.lookup
      have hbi := F.called_set.init.bind (.ref s.heap.objs.size)
      repeat (any_goals (first | assumption | wp_step))
      refine codeAny_mono (codeAny_call_builtin (R := wants (fun r s₂ => r = .none ∧ Q (.ref s.heap.objs.size) s₂) E) F.called_set.init.plain F.entry_set_init (check_set_init_1 hT h)) fun r₂ s₂ hr₂ => ?_
      cases r₂ with
      | error e => exact hr₂
      | ok f2 =>
        cases f2 with
        | ret r =>
          obtain ⟨rfl, hq⟩ := hr₂
          repeat (any_goals (first | assumption | wp_step))
        | _ => exact hr₂.elim
    | _ => exact hr.elim
theorem newSetM {h : Heap} {a : Addr} (ho : h.get? a = some (newSet w)) : SetM w h a [] :=
  ⟨_, _, _, _, ho, ⟨rfl, rfl, rfl⟩, rfl, ⟨fun e he => (by cases he), rfl, List.nodup_nil, (by unfold scanBound; decide), rfl, List.Pairwise.nil, by
    cases w.params.followText "set-order"
    · exact .inr rfl
    · exact .inl rfl⟩⟩
/-- the walk into the new set, and what stands behind it -/
theorem set_walk {I : Addr} {fp : List Addr} {Pv : Nat → Value → Prop} {St : Nat → Shared → Prop} {G : Array GenState → Array GenState → Prop} {n : Nat} {h1 : Heap} {Q : Value → Shared → Prop} (ks : List Key) (hI : s.heap.objs.size < I) (hSf : s.heap.objs.size ∉ fp)
    (W : WalksS P w A.in1.in1.in1 I fp [I] G n Pv St) (hn : n = ks.length) (hb : ks.length + 1 < scanBound) (hval : ∀ i v, Pv i v → ∃ k, ks[i]? = some k ∧ keyIs k v = true) (hG : ∀ g g', G g g' → g' = g)
    (hk : ∀ b o, (s.heap.push (newSet w)).get? b = some o → h1.get? b = some o) (hst : St 0 { s with heap := h1 })
    (hQ : ∀ (h' : Heap) (tk : Nat) (l : List Key), SetM w h' s.heap.objs.size l → (∀ k, k ∈ l ↔ k ∈ ks) → l.length ≤ ks.length → (∀ b o, s.heap.get? b = some o → h'.get? b = some o) → Q (.ref s.heap.objs.size) { s with heap := h', toks := tk }) :
    codeAny (model P w) A.in1.in1 (.builtin "set.update.loop" ⟨[.ref s.heap.objs.size, .ref I], []⟩) (fun r s' => match r with | .ok (.ret v) => v = Value.none ∧ Q (.ref s.heap.objs.size) s' | .ok _ => False | .error _ => False) { s with heap := h1 } := by
  refine upd_loop W s.heap.objs.size hSf ks hn hb hval n 0 _ rfl (Nat.zero_le _) hst ⟨[], newSetM (hk _ _ (Heap.get?_push_size _ rfl)), ⟨fun k => by simp, Nat.le_refl _⟩⟩ fun s' l hm hS g => ⟨rfl, ?_⟩
  obtain ⟨h', g2, d', tk', os'⟩ := s'
  have eg : g2 = s.gens := hG _ _ hm.gens
  have ed : d' = s.drawn := hm.drawn
  have eo : os' = s.os := hm.os
  subst eg ed eo
  refine hQ h' tk' l hS (fun k => by rw [g.mem k, hn, List.take_length]) (by rw [← hn]; exact g.len) fun b o e => hm.heap b o ?_ (hk b o (Heap.get?_push_of_some _ e))
  have := Heap.lt_size e
  simp only [List.mem_cons, List.not_mem_nil, or_false, not_or]
  exact ⟨Nat.ne_of_lt this, Nat.ne_of_lt (Nat.lt_trans this hI)⟩

theorem keys_at : ∀ {ks : List Key} {us : List Value}, Vals (ks.map kV) us → ∀ (i : Nat) (v : Value), us[i]? = some v → ∃ k, ks[i]? = some k ∧ keyIs k v = true
  | [], _, .nil, i, v, h => by simp at h
  | k :: ks, _, .cons r t, 0, v, h => by
    have e : _ = v := Option.some.inj h
    subst e
    refine ⟨k, rfl, ?_⟩
    cases k with
    | inl i => obtain ⟨tk, rfl⟩ := r; exact keyIs_int i tk
    | inr x => obtain ⟨tk, rfl⟩ := r; exact keyIs_str x tk
  | k :: ks, _, .cons r t, i + 1, v, h => by
    obtain ⟨k', e, q⟩ := keys_at t i v (by simpa using h)
    exact ⟨k', by simpa using e, q⟩

theorem call_set_L {l : Addr} {items : Array Value} (ks : List Key) {Q : Value → Shared → Prop} (hh : A.handled = none) (hl : s.heap.IsList l items) (hit : Vals (ks.map kV) items.toList) (hb : ks.length + 1 < scanBound)
    (hQ : ∀ (h' : Heap) (tk : Nat) (l : List Key), SetM w h' s.heap.objs.size l → (∀ k, k ∈ l ↔ k ∈ ks) → l.length ≤ ks.length → (∀ b o, s.heap.get? b = some o → h'.get? b = some o) → Q (.ref s.heap.objs.size) { s with heap := h', toks := tk }) :
    wpAny (model P w) A (call (.type "set") [.ref l]) Q E s := by
  refine set_shell _ ?_
  obtain ⟨ol, hol, hcl, nl, hdl⟩ := hl
  obtain ⟨ocls, odict, odata, oslots⟩ := ol
  simp only at hcl hdl
  subst hcl; subst hdl
  have hol' : (s.heap.push (newSet w)).get? l = some { cls := .type "list", dict := odict, data := .seq items nl, slots := oslots } := Heap.get?_push_of_some _ hol
  have hl1 : (s.heap.push (newSet w)).IsList l items := ⟨_, hol', rfl, nl, rfl⟩
  have f1 := F.sub_list_set
  have f2 := F.sub_list_frozenset
  have f3 : (Value.type "list" == Value.type "dict") = false := by decide
  unfold Builtin.«set.__init__» noKeywords Builtin.Frozenset.updateFrom
  generalize hPI : pyIter = PI
  wp_walk
  subst hPI
  refine wpAny_pyIter_list hl1 ?_
  refine wpAny_bind (wpAny_runValue ?_)
  have hlS : l < s.heap.objs.size := Heap.lt_size hol
  have hz1 : (s.heap.push (newSet w)).objs.size = s.heap.objs.size + 1 := Heap.size_push ..
  have hneI : l ≠ (s.heap.push (newSet w)).objs.size := by rw [hz1]; exact Nat.ne_of_lt (Nat.lt_succ_of_lt hlS)
  refine codeAny_mono (set_walk (s := s) ks (by rw [hz1]; exact Nat.lt_succ_self _) ?_ ((Walks.list (by simp [hh]) _ l hneI items).toS) (by simpa using hit.length.symm) hb ?_ ?_ (fun b o e => Heap.get?_push_of_some _ e) ⟨⟨_, Heap.get?_push_size _ rfl, rfl, rfl⟩, (hl1.push _)⟩ hQ) fun r s' hr => ?_
  · rw [hz1]
    simp only [List.mem_cons, List.not_mem_nil, or_false, not_or]
    exact ⟨Nat.ne_of_lt (Nat.lt_succ_self _), Nat.ne_of_gt hlS⟩
  · intro i v hv
    exact keys_at hit i v (by simpa using hv)
  · first | exact fun _ _ e => e | exact fun _ _ e => e.symm
  · cases r with
    | error e => exact hr.elim
    | ok fl =>
      cases fl with
      | ret v =>
        obtain ⟨rfl, hq⟩ := hr
        refine wpAny_pure ?_
        exact wpAny_pure ⟨rfl, hq⟩
      | _ => exact hr.elim

theorem call_set_T {l : Addr} {items : Array Value} (ks : List Key) {Q : Value → Shared → Prop} (hh : A.handled = none) (hl : s.heap.IsTuple l items) (hit : Vals (ks.map kV) items.toList) (hb : ks.length + 1 < scanBound)
    (hQ : ∀ (h' : Heap) (tk : Nat) (l : List Key), SetM w h' s.heap.objs.size l → (∀ k, k ∈ l ↔ k ∈ ks) → l.length ≤ ks.length → (∀ b o, s.heap.get? b = some o → h'.get? b = some o) → Q (.ref s.heap.objs.size) { s with heap := h', toks := tk }) :
    wpAny (model P w) A (call (.type "set") [.ref l]) Q E s := by
  refine set_shell _ ?_
  obtain ⟨ol, hol, hcl, nl, hdl⟩ := hl
  obtain ⟨ocls, odict, odata, oslots⟩ := ol
  simp only at hcl hdl
  subst hcl; subst hdl
  have hol' : (s.heap.push (newSet w)).get? l = some { cls := .type "tuple", dict := odict, data := .seq items nl, slots := oslots } := Heap.get?_push_of_some _ hol
  have hl1 : (s.heap.push (newSet w)).IsTuple l items := ⟨_, hol', rfl, nl, rfl⟩
  have f1 := F.sub_tuple_set
  have f2 := F.sub_tuple_frozenset
  have f3 : (Value.type "tuple" == Value.type "dict") = false := by decide
  unfold Builtin.«set.__init__» noKeywords Builtin.Frozenset.updateFrom
  generalize hPI : pyIter = PI
  wp_walk
  subst hPI
  refine wpAny_pyIter_tuple hl1 ?_
  refine wpAny_bind (wpAny_runValue ?_)
  have hlS : l < s.heap.objs.size := Heap.lt_size hol
  have hz1 : (s.heap.push (newSet w)).objs.size = s.heap.objs.size + 1 := Heap.size_push ..
  have hneI : l ≠ (s.heap.push (newSet w)).objs.size := by rw [hz1]; exact Nat.ne_of_lt (Nat.lt_succ_of_lt hlS)
  refine codeAny_mono (set_walk (s := s) ks (by rw [hz1]; exact Nat.lt_succ_self _) ?_ ((Walks.tuple (by simp [hh]) _ l hneI items).toS) (by simpa using hit.length.symm) hb ?_ ?_ (fun b o e => Heap.get?_push_of_some _ e) ⟨⟨_, Heap.get?_push_size _ rfl, rfl, rfl⟩, (hl1.push _)⟩ hQ) fun r s' hr => ?_
  · rw [hz1]
    simp only [List.mem_cons, List.not_mem_nil, or_false, not_or]
    exact ⟨Nat.ne_of_lt (Nat.lt_succ_self _), Nat.ne_of_gt hlS⟩
  · intro i v hv
    exact keys_at hit i v (by simpa using hv)
  · first | exact fun _ _ e => e | exact fun _ _ e => e.symm
  · cases r with
    | error e => exact hr.elim
    | ok fl =>
      cases fl with
      | ret v =>
        obtain ⟨rfl, hq⟩ := hr
        refine wpAny_pure ?_
        exact wpAny_pure ⟨rfl, hq⟩
      | _ => exact hr.elim
end
end SR

set_option maxRecDepth 100000
set_option maxHeartbeats 4000000
namespace SR
open PySem PySem.Spec PyProof.Rows L2
section
variable {P : Program} {w : World} {A : Around} {E : Value → Shared → Prop} {s : Shared}
theorem call_set_S {x : Str} {t : Tok} {Q : Value → Shared → Prop} (hh : A.handled = none) (hb : x.cps.size + 1 < scanBound)
    (hQ : ∀ (h' : Heap) (tk : Nat) (l : List Key), SetM w h' s.heap.objs.size l → (∀ k, k ∈ l ↔ k ∈ x.cps.toList.map fun c => (Sum.inr (SR.lt c) : Key)) → l.length ≤ (x.cps.toList.map fun c => (Sum.inr (SR.lt c) : Key)).length → (∀ b o, s.heap.get? b = some o → h'.get? b = some o) → Q (.ref s.heap.objs.size) { s with heap := h', toks := tk }) :
    wpAny (model P w) A (call (.type "set") [.str x t]) Q E s := by
  refine set_shell _ ?_
  have f1 := F.sub_str_set
  have f2 := F.sub_str_frozenset
  have f3 : (Value.type "str" == Value.type "dict") = false := by decide
  unfold Builtin.«set.__init__» noKeywords Builtin.Frozenset.updateFrom
  generalize hPI : pyIter = PI
  wp_walk
  subst hPI
  refine wpAny_pyIter_str fun o St W hst => ?_
  refine wpAny_bind (wpAny_runValue ?_)
  have hz1 : (s.heap.push (newSet w)).objs.size = s.heap.objs.size + 1 := Heap.size_push ..
  refine codeAny_mono (set_walk (s := s) (x.cps.toList.map fun c => (Sum.inr (SR.lt c) : Key)) (by rw [hz1]; exact Nat.lt_succ_self _) ?_ ((W _ (by simp [hh])).toS) (by simp) (by simpa using hb) ?_ ?_ (fun b o e => Heap.get?_push_of_some _ e) hst hQ) fun r s' hr => ?_
  · rw [hz1]
    simp only [List.mem_cons, List.not_mem_nil, or_false]
    exact Nat.ne_of_lt (Nat.lt_succ_self _)
  · rintro i v ⟨c, u, hc, rfl⟩
    refine ⟨.inr (SR.lt c), ?_, keyIs_str _ _⟩
    rw [List.getElem?_map, Array.getElem?_toList, hc]
    rfl
  · first | exact fun _ _ e => e | exact fun _ _ e => e.symm
  · cases r with
    | error e => exact hr.elim
    | ok fl =>
      cases fl with
      | ret v =>
        obtain ⟨rfl, hq⟩ := hr
        refine wpAny_pure ?_
        exact wpAny_pure ⟨rfl, hq⟩
      | _ => exact hr.elim
/-! ### over the layer -/
def SetMO (w : World) (a : Addr) (l : List Key) : HO := .ext fun h => SetM w h a l
theorem setMO_new {H : Hp} {h : Heap} {a : Addr} {l : List Key} (R : SetM w h a l) : ObjOk P w H h a (SetMO w a l) := by
  obtain ⟨o, es, ep, t, e, r⟩ := id R
  exact ⟨R, ⟨o, e⟩, fun h1 h2 q k => SetM.at q k⟩
end
section
variable {X : Cx}
/-- set(xs): a list or a tuple of ints and texts, or a text -/
def rSetK (K : PySem.W.Frag) (w : World) : List V → Hp → VK → Prop := fun xs H Q => ∃ ks : List Key, ((∃ a, xs = [.ref a] ∧ (SqL K H a (ks.map kV) ∨ SqT K H a (ks.map kV))) ∨ (∃ z : Str, xs = [.str z] ∧ ks = z.cps.toList.map fun c => (Sum.inr (SR.lt c) : Key))) ∧ ks.length < 1000 ∧
  ∀ p l, H p = none → l.Nodup → (∀ k, k ∈ l ↔ k ∈ ks) → l.length ≤ ks.length → Q (.ref p) (upd H p (SetMO w p l))
theorem SetM.nd {w : World} {h : Heap} {a : Addr} {l : List Key} (R : SetM w h a l) : l.Nodup := by
  obtain ⟨o, es, ep, t, e, _, _, M⟩ := R
  exact M.nd
theorem cr_setK (hc : X.calm = true) : CallR X (.type "set") (rSetK X.K X.w) := by
  intro pins s σ H xs us Q I r h
  obtain ⟨ks, h, hb, q⟩ := h
  have hb' : ks.length + 1 < scanBound := by unfold scanBound; omega
  have fin : ∀ (h' : Heap) (tk : Nat) (l : List Key), SetM X.w h' s.heap.objs.size l → (∀ k, k ∈ l ↔ k ∈ ks) → l.length ≤ ks.length → (∀ b o, s.heap.get? b = some o → h'.get? b = some o) → EP X pins σ Q (.ref s.heap.objs.size) { s with heap := h', toks := tk } := fun h' tk l S m ln k =>
    ⟨.ref s.heap.objs.size, _, I.laid (t' := tk) k (Nat.le_refl _) (setMO_new S), rfl, q _ l (I.hok.fresh (Nat.le_refl _)) S.nd m ln⟩
  rcases h with ⟨a, rfl, hq⟩ | ⟨z, rfl, rfl⟩
  · obtain ⟨u, rfl, rx⟩ := vals1 r
    cases rx
    rcases hq with hq | hq
    · obtain ⟨its, rv, pl, hz⟩ := I.list hq
      exact call_set_L ks (I.ok.hd hc) pl.isList (by simpa using rv) hb' fin
    · obtain ⟨its, rv, pl, hz⟩ := I.tuple hq
      exact call_set_T ks (I.ok.hd hc) pl (by simpa using rv) hb' fin
  · obtain ⟨u, rfl, rx⟩ := vals1 r
    obtain ⟨t, rfl⟩ := rx
    exact call_set_S (I.ok.hd hc) (by simpa using hb') fin
theorem setM_get {pins : List (Addr × Obj)} {σ : L2.St} {H : Hp} {s : Shared} {a : Addr} {l : List Key} (I : Inv X pins σ H s) (ha : H a = some (SetMO X.w a l)) : SetM X.w s.heap a l := (I.hok a _ ha).1
/-- len(set) -/
theorem cr_lenK : CallR X (.builtin "len") (fun xs H Q => ∃ a l, xs = [.ref a] ∧ H a = some (SetMO X.w a l) ∧ Q (.int (l.length : Nat)) H) := by
  intro pins s σ H xs us Q I r h
  obtain ⟨a, l, rfl, ha, q⟩ := h
  obtain ⟨u, rfl, rx⟩ := vals1 r
  cases rx
  obtain ⟨o, es, ep, t, ho, hex, hd, M⟩ := setM_get I ha
  have e := M.size
  exact call_len_set ho hex hd M.fit (by have := M.few; unfold scanBound at this; omega) ⟨.int (l.length : Nat), H, I.tok _, ⟨_, by rw [← e]⟩, q⟩
end
end SR

set_option maxRecDepth 100000
set_option maxHeartbeats 4000000
namespace SR
open PySem PySem.Spec PyProof.Rows L2
section
variable {P : Program} {w : World} {A : Around} {E : Value → Shared → Prop} {s : Shared}
/-- sorted(set): the members laid into a new list, the list sorted as sortIt says -/
theorem sorted_shell {a : Addr} {l : List Key} {Q : Value → Shared → Prop} (R : SetM w s.heap a l) (hh : A.handled = none) (hfew : l.length < 64)
    (srt : ∀ (vs : List Value) (s1 : Shared) (L : Addr) (Z : Fin → Shared → Prop), s1.heap.get? L = some (seqObj "list" vs.toArray 0) → vs.length < 64 → (vs.map kOf).Perm l → (∀ v ∈ vs, keyIs (kOf v) v = true) →
      (∀ out : Array Value, (∀ (s' : Shared) (p : Addr) (c : Nat), (∀ b o, s.heap.get? b = some o → s'.heap.get? b = some o) → s'.gens = s.gens → s'.os = s.os → s.heap.objs.size ≤ p → s'.heap.get? p = some (seqObj "list" out c) → Q (.ref p) s') → Z (.done (.ret .none)) { s1 with heap := sortedHeap s1.heap L vs out }) →
      wpAny (model P w) A.in1.in1 (Builtin.«list.sort» ⟨[.ref L], []⟩) Z (fun e s' => wants Q E (.error e) s') s1) :
    wpAny (model P w) A (call (.builtin "sorted") [.ref a]) Q E s := by
  obtain ⟨o, es, ep, t, ho, hex, hd, M⟩ := R
  refine Calls.call_function_entry kind_sorted plain_sorted entry_sorted (args_sorted1 _) ?_
  unfold Builtin.«sorted»
  refine wpAny_bind (m := checkCount "sorted" 1 1 _) (wpAny_pure ?_)
  refine wpAny_bind (collect_set (A := A.in1) hh ⟨o, ho, hex.1, hd⟩ M.fit M.few M.ris M.led fun s1 vs k1 hz g1 o1 pm => ?_)
  have pk : (vs.map kOf).Perm l := by
    have q := pm.map kOf
    rw [List.map_map] at q
    exact q.trans (List.Perm.of_eq M.keys)
  have hvl : vs.length < 64 := by
    have q := pk.length_eq
    rw [List.length_map] at q
    omega
  have hv : ∀ v ∈ vs, keyIs (kOf v) v = true := fun v h => by
    obtain ⟨e, he, q⟩ := List.mem_map.mp (pm.mem_iff.mp h)
    rw [← q]
    exact (M.good e he).1
  refine wpAny_bind (wpAny_newList ?_ (by rw [sizeLine_eq]; omega))
  have hoL : (s1.heap.push (seqObj "list" vs.toArray 0)).get? s1.heap.objs.size = some (seqObj "list" vs.toArray 0) := Heap.get?_push_size _ rfl
  refine wpAny_bind (wpAny_holding (wpAny_call_entry slot_list_sort ⟨_, hoL, rfl⟩ entry_list_sort ?_ (args_list_sort _)))
  refine srt vs _ _ _ hoL hvl pk hv fun out hq => ⟨_, rfl, ?_⟩
  obtain ⟨c, hc⟩ := sortedHeap_at (vs := vs) (out := out) hoL
  refine wpAny_pure ⟨_, rfl, hq _ s1.heap.objs.size c (fun b u e => ?_) g1 o1 hz hc⟩
  have q := k1 b u e
  have hlt := Heap.lt_size q
  show (sortedHeap (s1.heap.push (seqObj "list" vs.toArray 0)) s1.heap.objs.size vs out).get? b = some u
  rw [sortedHeap_old (Nat.ne_of_lt hlt) (by rw [size_push']; exact Nat.lt_succ_of_lt hlt)]
  exact Heap.get?_push_of_some _ q
theorem strs_of : ∀ (vs : List Value) (ss : List Str), (vs.map kOf) = ss.map Sum.inr → (∀ v ∈ vs, keyIs (kOf v) v = true) → StrsAre vs ss
  | [], [], _, _ => .nil
  | v :: vs, x :: ss, h, g => by
    injection h with h1 h2
    have k := g v List.mem_cons_self
    rw [h1] at k
    rcases keyIs_shape k with ⟨i, t, q, _⟩ | ⟨y, t, q, e⟩
    · cases q
    · injection q with q
      subst q
      rw [e]
      exact .cons x t (strs_of vs ss h2 fun u hu => g u (List.mem_cons_of_mem _ hu))
  | [], _ :: _, h, _ => by simp at h
  | _ :: _, [], h, _ => by simp at h
theorem ints_ofK : ∀ (vs : List Value) (ns : List Int), (vs.map kOf) = ns.map Sum.inl → (∀ v ∈ vs, keyIs (kOf v) v = true) → IntsAre vs ns
  | [], [], _, _ => .nil
  | v :: vs, x :: ns, h, g => by
    injection h with h1 h2
    have k := g v List.mem_cons_self
    rw [h1] at k
    rcases keyIs_shape k with ⟨i, t, q, e⟩ | ⟨y, t, q, e⟩
    · injection q with q
      subst q
      rw [e]
      exact .cons x t (ints_ofK vs ns h2 fun u hu => g u (List.mem_cons_of_mem _ hu))
    · cases q
  | [], _ :: _, h, _ => by simp at h
  | _ :: _, [], h, _ => by simp at h
theorem perm_inr {l : List Key} {ss : List Str} : ∀ {m : List Key}, m.Perm (ss.map Sum.inr) → ∃ ts : List Str, m = ts.map Sum.inr ∧ ts.Perm ss := fun {m} p => by
  have h : ∀ k ∈ m, ∃ x : Str, k = Sum.inr x := fun k hk => by
    obtain ⟨x, _, e⟩ := List.mem_map.mp (p.mem_iff.mp hk)
    exact ⟨x, e.symm⟩
  have ex : ∀ m : List Key, (∀ k ∈ m, ∃ x : Str, k = Sum.inr x) → ∃ ts : List Str, m = ts.map Sum.inr := by
    intro m
    induction m with
    | nil => intro _; exact ⟨[], rfl⟩
    | cons k m ih =>
      intro hm
      obtain ⟨x, rfl⟩ := hm k List.mem_cons_self
      obtain ⟨ts, rfl⟩ := ih fun u hu => hm u (List.mem_cons_of_mem _ hu)
      exact ⟨x :: ts, rfl⟩
  obtain ⟨ts, rfl⟩ := ex m h
  refine ⟨ts, rfl, ?_⟩
  have q := p.map (fun k : Key => match k with | .inr x => x | .inl _ => Str.empty)
  rw [List.map_map, List.map_map] at q
  have e : ∀ u : List Str, u.map ((fun k : Key => match k with | .inr x => x | .inl _ => Str.empty) ∘ Sum.inr) = u := fun u => by
    have : ((fun k : Key => match k with | .inr x => x | .inl _ => Str.empty) ∘ Sum.inr) = (id : Str → Str) := rfl
    rw [this, List.map_id]
  rw [e, e] at q
  exact q
theorem perm_inl {ss : List Int} : ∀ {m : List Key}, m.Perm (ss.map Sum.inl) → ∃ ts : List Int, m = ts.map Sum.inl ∧ ts.Perm ss := fun {m} p => by
  have h : ∀ k ∈ m, ∃ x : Int, k = Sum.inl x := fun k hk => by
    obtain ⟨x, _, e⟩ := List.mem_map.mp (p.mem_iff.mp hk)
    exact ⟨x, e.symm⟩
  have ex : ∀ m : List Key, (∀ k ∈ m, ∃ x : Int, k = Sum.inl x) → ∃ ts : List Int, m = ts.map Sum.inl := by
    intro m
    induction m with
    | nil => intro _; exact ⟨[], rfl⟩
    | cons k m ih =>
      intro hm
      obtain ⟨x, rfl⟩ := hm k List.mem_cons_self
      obtain ⟨ts, rfl⟩ := ih fun u hu => hm u (List.mem_cons_of_mem _ hu)
      exact ⟨x :: ts, rfl⟩
  obtain ⟨ts, rfl⟩ := ex m h
  refine ⟨ts, rfl, ?_⟩
  have q := p.map (fun k : Key => match k with | .inl x => x | .inr _ => 0)
  rw [List.map_map, List.map_map] at q
  have e : ∀ u : List Int, u.map ((fun k : Key => match k with | .inl x => x | .inr _ => 0) ∘ Sum.inl) = u := fun u => by
    have : ((fun k : Key => match k with | .inl x => x | .inr _ => 0) ∘ Sum.inl) = (id : Int → Int) := rfl
    rw [this, List.map_id]
  rw [e, e] at q
  exact q
end
section
variable {X : Cx}
/-- sorted(set of texts) -/
theorem cr_sortedKS (hc : X.calm = true) : CallR X (.builtin "sorted") (fun vs H Q => ∃ (a : Addr) (ss : List Str), vs = [.ref a] ∧ H a = some (SetMO X.w a (ss.map Sum.inr)) ∧ ss.length < 64 ∧ ∀ (ys : List Str) (p : Addr), ys.Perm ss → sortedS ys = true → H p = none → Q (.ref p) (upd H p (.lst (ys.map V.str)))) := by
  intro pins s σ H vs us Q I r h
  obtain ⟨a, ss, rfl, ha, hf, q⟩ := h
  obtain ⟨u, rfl, rx⟩ := vals1 r
  cases rx
  refine sorted_shell (setM_get I ha) (I.ok.hd hc) (by simpa using hf) fun vs s1 L Z ho h64 pk hv hz => ?_
  obtain ⟨ts, et, pt⟩ := perm_inr (l := []) pk
  have hS : StrsAre vs ts := strs_of vs ts et hv
  refine list_sort_treeK strKind_oneLt ho hS.keysOf (fun v₁ v₂ rest e => keyKind_strs (by rw [← e]; exact hS)) h64 fun st' hp hs => ?_
  obtain ⟨ys, h1, h2, h3⟩ := sorted_out_str hS hp hs
  refine hz _ fun s' p c k g o hp' hg => ?_
  have hn : H p = none := I.hok.fresh hp'
  have hl : (ys.map V.str).length ≤ sizeLine := by rw [List.length_map, (h2.trans pt).length_eq, sizeLine_eq]; omega
  have J : Inv X pins σ (upd H p (.lst (ys.map V.str))) { s with heap := s'.heap, gens := s'.gens, drawn := s'.drawn, toks := s'.toks } :=
    I.call (ch := []) (Un.laid k hp' hn) (I.hok.laid k hp' ⟨hl, _, c, vals_of_strs h1, hg⟩) (by rw [g]; exact I.bare) (fun _ z => nomatch z)
  have e : s' = { s with heap := s'.heap, gens := s'.gens, drawn := s'.drawn, toks := s'.toks } := by
    cases s'; cases s; cases o; rfl
  rw [e]
  exact ⟨.ref p, _, J, rfl, q ys p (h2.trans pt) h3 hn⟩
/-- sorted(set of ints) -/
theorem cr_sortedKI (hc : X.calm = true) : CallR X (.builtin "sorted") (fun vs H Q => ∃ (a : Addr) (ss : List Int), vs = [.ref a] ∧ H a = some (SetMO X.w a (ss.map Sum.inl)) ∧ ss.length < 64 ∧ ∀ (ys : List Int) (p : Addr), ys.Perm ss → ys.Pairwise (· ≤ ·) → H p = none → Q (.ref p) (upd H p (.lst (ys.map V.int)))) := by
  intro pins s σ H vs us Q I r h
  obtain ⟨a, ss, rfl, ha, hf, q⟩ := h
  obtain ⟨u, rfl, rx⟩ := vals1 r
  cases rx
  refine sorted_shell (setM_get I ha) (I.ok.hd hc) (by simpa using hf) fun vs s1 L Z ho h64 pk hv hz => ?_
  obtain ⟨ts, et, pt⟩ := perm_inl pk
  have hS : IntsAre vs ts := ints_ofK vs ts et hv
  refine list_sort_tree ho hS h64 fun out ys h1 h2 h3 => ?_
  refine hz _ fun s' p c k g o hp' hg => ?_
  have hn : H p = none := I.hok.fresh hp'
  have hl : (ys.map V.int).length ≤ sizeLine := by rw [List.length_map, (h2.trans pt).length_eq, sizeLine_eq]; omega
  have J : Inv X pins σ (upd H p (.lst (ys.map V.int))) { s with heap := s'.heap, gens := s'.gens, drawn := s'.drawn, toks := s'.toks } :=
    I.call (ch := []) (Un.laid k hp' hn) (I.hok.laid k hp' ⟨hl, _, c, vals_of_ints h1, hg⟩) (by rw [g]; exact I.bare) (fun _ z => nomatch z)
  have e : s' = { s with heap := s'.heap, gens := s'.gens, drawn := s'.drawn, toks := s'.toks } := by
    cases s'; cases s; cases o; rfl
  rw [e]
  exact ⟨.ref p, _, J, rfl, q ys p (h2.trans pt) h3 hn⟩
end
end SR

set_option maxRecDepth 100000
set_option maxHeartbeats 4000000
namespace SR
open PySem PySem.Spec PyProof.Rows L2
section
variable {X : Cx}
/-- x in o, o an instance with an own __contains__ that gives a truth value -/
def rOwnIn (neg : Bool) (C : Addr) (sp : Sp) (E : XK) : R2 := fun x y H Q => ∃ a dx fs, y = .ref a ∧ H a = some (.ins C dx fs) ∧ sp [.ref a, x] H (fun v H' => ∃ b, v = .bl b ∧ Q (.bl (if neg then !b else b)) H') E
theorem own_in {CX : CXT} {n : Nat} {C f : Addr} {fd : FuncData} {ps : List Str} {sp : Sp} {E : XK} (F : FnOk X.prog X.w X.K X.mg X.base CX n f fd ps sp) (hr : Room n X.A)
    (hs : PySem.W.findIn X.K (.ref C) "__contains__" = some (some (.ref f))) (hf : PySem.W.isFn X.K (.ref f) = true) (hb : Binds X.K fd ps []) (hx : Passes CX X E)
    {pins : List (Addr × Obj)} {s : Shared} {σ : L2.St} {H : Hp} {x : V} {u : Value} {a dx : Addr} {fs : List (Str × V)} {q : V → Hp → Prop} (I : Inv X pins σ H s) (rx : RelV x u) (ha : H a = some (.ins C dx fs)) (hq : sp [.ref a, x] H q E) :
    wpAny (model X.prog X.w) X.A (call (.ref f) [.ref a, u]) (EP X pins σ q) X.xe s := by
  have hl := F.len _ _ _ _ hq
  have r2 : Vals [V.ref a, x] [Value.ref a, u] := .cons rfl (.cons rx .nil)
  refine wpAny_call (codeAny_mono (F.run X.A X.stack s H ⟨[.ref a, u], []⟩ [.ref a, u] [.ref a, x] _ E hr I.env0 (by
    have := hb s [.ref a, u] I.kIn (by simpa using hl)
    simpa using this) r2 hq) fun r s' hz => ?_)
  cases r with
  | error e => exact hx pins σ H s e s' I hz
  | ok fl =>
    cases fl with
    | ret v => exact I.after hz
    | next => exact False.elim hz
    | brk => exact False.elim hz
    | cont => exact False.elim hz
theorem op_inOwn {CX : CXT} {n : Nat} {C f : Addr} {fd : FuncData} {ps : List Str} {sp : Sp} {E : XK} (F : FnOk X.prog X.w X.K X.mg X.base CX n f fd ps sp) (hr : Room n X.A)
    (hs : PySem.W.findIn X.K (.ref C) "__contains__" = some (some (.ref f))) (hf : PySem.W.isFn X.K (.ref f) = true) (hb : Binds X.K fd ps []) (hx : Passes CX X E) : OpR X (compareOp .In) (rOwnIn false C sp E) := by
  intro pins s σ H x y u v Q I rx ry h
  obtain ⟨a, dx, fs, rfl, ha, hq⟩ := h
  cases ry
  obtain ⟨mA, J, _⟩ := ins_get I.hok ha
  obtain ⟨od, J, _⟩ := J.look
  obtain ⟨m, hF⟩ := I.fr
  refine PySem.W.in_K hF I.ok.mod.kin J hs hf (wpAny_mono (own_in F hr hs hf hb hx I rx ha hq) (fun z s' hz => ?_) fun _ _ e => e)
  obtain ⟨b', H', I', rb, b, rfl, hQ⟩ := hz
  cases rb
  exact wpAny_truthy_bool ⟨.bl b, H', I', rfl, hQ⟩
theorem op_notInOwn {CX : CXT} {n : Nat} {C f : Addr} {fd : FuncData} {ps : List Str} {sp : Sp} {E : XK} (F : FnOk X.prog X.w X.K X.mg X.base CX n f fd ps sp) (hr : Room n X.A)
    (hs : PySem.W.findIn X.K (.ref C) "__contains__" = some (some (.ref f))) (hf : PySem.W.isFn X.K (.ref f) = true) (hb : Binds X.K fd ps []) (hx : Passes CX X E) : OpR X (compareOp .NotIn) (rOwnIn true C sp E) := by
  intro pins s σ H x y u v Q I rx ry h
  obtain ⟨a, dx, fs, rfl, ha, hq⟩ := h
  cases ry
  obtain ⟨mA, J, _⟩ := ins_get I.hok ha
  obtain ⟨od, J, _⟩ := J.look
  obtain ⟨m, hF⟩ := I.fr
  refine PySem.W.notIn_K hF I.ok.mod.kin J hs hf (wpAny_mono (own_in F hr hs hf hb hx I rx ha hq) (fun z s' hz => ?_) fun _ _ e => e)
  obtain ⟨b', H', I', rb, b, rfl, hQ⟩ := hz
  cases rb
  exact wpAny_truthy_bool ⟨.bl (!b), H', I', rfl, hQ⟩
end
end SR

set_option maxRecDepth 100000
set_option maxHeartbeats 4000000
namespace SR
open PySem PySem.Spec PyProof.Rows L2
/-! Dicts whose keys are pairs (an int, a tuple of ints). -/
abbrev PKey := Int × List Int
section
variable (P : Program) (w : World)
def IsPair (h : Heap) (k : PKey) (a : Addr) : Prop := ∃ o n t b, h.get? a = some o ∧ o.cls = .type "tuple" ∧ o.data = .seq #[.int k.1 t, .ref b] n ∧ IsTupleKey (intKind P w) h k.2 b
def pairHash (k : PKey) : Int := reduceHash (Builtin.Tuple.tupleHashOf [(intKind P w).hash k.1, tupleKeyHash (intKind P w) k.2])
end
section
variable {P : Program} {w : World} {A : Around} {E : Value → Shared → Prop} {s : Shared}
theorem IsPair.typeIs {k : PKey} {a : Addr} (x : IsPair P w s.heap k a) : s.TypeIs (.ref a) "tuple" := by
  obtain ⟨o, n, t, b, ho, hc, _⟩ := x
  exact ⟨o, ho, hc⟩
theorem IsPair.inj {h : Heap} {a : Addr} {x y : PKey} (hx : IsPair P w h x a) (hy : IsPair P w h y a) : x = y := by
  obtain ⟨o, n, t, b, ho, hc, hd, hk⟩ := hx
  obtain ⟨o', n', t', b', ho', hc', hd', hk'⟩ := hy
  obtain rfl : o = o' := Option.some.inj (ho.symm.trans ho')
  rw [hd] at hd'
  injection hd' with h1 _
  injection h1 with h1
  injection h1 with h2 h3
  injection h2 with h2 _
  injection h3 with h3 _
  injection h3 with h3
  subst h3
  exact Prod.ext h2 (hk.inj hk')
theorem IsPair.keeps {h h' : Heap} {k : PKey} {a d : Addr} {o : Obj} {es ep} (x : IsPair P w h k a) (ho : h.get? d = some o) (hd : o.data = .dict es ep) (hs : Heap.SameBut d h h') : IsPair P w h' k a := by
  obtain ⟨o', n, t, b, ho', hc, hd', hk⟩ := x
  have hne : a ≠ d := by
    rintro rfl
    obtain rfl : o' = o := Option.some.inj (ho'.symm.trans ho)
    rw [hd] at hd'
    exact nomatch hd'
  exact ⟨o', n, t, b, (hs.2 a hne).trans ho', hc, hd', hk.keeps ho hd hs⟩
theorem pair_hash {k : PKey} {a : Addr} {Q : Int → Shared → Prop} (hu : A.units + 1 < cLine) (hk : IsPair P w s.heap k a) (h : Q (pairHash P w k) { s with toks := s.toks + (k.2.length + 3) }) : wpAny (model P w) A (pyHash (.ref a)) Q E s := by
  have hT := hk.typeIs
  obtain ⟨o, n, t, b, ho, _, hd, hb⟩ := hk
  unfold pyHash
  first | unfold pyHashByItsType | skip
  first | refine wpAny_bind (wpAny_cRoomFor_or (.inr (by omega)) ?_) | skip
  refine wpAny_bind (wpAny_specialOf hT F.slot_tuple_hash.lookup ?_)
  show wpAny _ _ (if (some (Value.builtin "tuple.__hash__") == some Value.none) = true then _ else _) Q E s
  rw [if_neg (by rw [beq_builtin_none]; exact Bool.false_ne_true)]
  refine wpAny_bind (wpAny_specialOf hT F.slot_tuple_hash.lookup ?_)
  show wpAny _ _ (callSpecialIfBoundUnlessNone? (.ref a) "__hash__" _ >>= _) Q E s
  refine wpAny_bind (wpAny_callSpecialIfBoundUnlessNone?_slot hT F.slot_tuple_hash (wpAny_call_entry F.slot_tuple_hash hT F.entry_tuple_hash ?_ (F.args_tuple_hash_1 _)))
  show wpAny _ _ (Builtin.Tuple.tupleItemsOf (.ref a) >>= _) _ _ s
  refine wpAny_bind (wpAny_tupleItemsOf ho hd (wpAny_bind ?_))
  rw [← Array.forIn_toList]
  refine wpAny_forIn_list _ (fun rest (c : Array Int) s' =>
      (rest = [.int k.1 t, .ref b] ∧ c.toList = [] ∧ s' = s) ∨ (rest = [.ref b] ∧ c.toList = [(intKind P w).hash k.1] ∧ s' = { s with toks := s.toks + 1 }) ∨ (rest = [] ∧ c.toList = [(intKind P w).hash k.1, tupleKeyHash (intKind P w) k.2] ∧ s' = { s with toks := s.toks + (k.2.length + 2) })) _ ?_ ?_ _ _ (.inl ⟨rfl, rfl, rfl⟩)
  · rintro x rest c s' (⟨e, hc, rfl⟩ | ⟨e, hc, rfl⟩ | ⟨e, hc, rfl⟩)
    · injection e with e1 e2
      subst e1 e2
      refine wpAny_bind ((intKind P w).pyHash (intKind_is P w _ _) ?_)
      first
        | exact wpAny_pure (.inr (.inl ⟨rfl, by simp [hc], rfl⟩))
        | exact wpAny_bind (wpAny_pure (wpAny_pure (.inr (.inl ⟨rfl, by simp [hc], rfl⟩))))
    · injection e with e1 e2
      subst e1 e2
      refine wpAny_bind (wpAny_pyHash_tuple (A := A.in1) hu hb ?_)
      have et : s.toks + 1 + (k.2.length + 1) = s.toks + (k.2.length + 2) := by omega
      first
        | exact wpAny_pure (.inr (.inr ⟨rfl, by simp [hc], by simp only [et]⟩))
        | exact wpAny_bind (wpAny_pure (wpAny_pure (.inr (.inr ⟨rfl, by simp [hc], by simp only [et]⟩))))
    · cases e
  · rintro c s' (⟨e, _⟩ | ⟨e, _⟩ | ⟨_, hc, rfl⟩)
    · cases e
    · cases e
    · show wpAny _ _ (retInt (Builtin.Tuple.tupleHashOf c.toList)) _ _ _
      rw [hc]
      refine wpAny_ret_mkInt ?_
      unfold pairHash reduceHash at h
      generalize Builtin.Tuple.tupleHashOf [(intKind P w).hash k.1, tupleKeyHash (intKind P w) k.2] = z at h ⊢
      show wpAny _ _ (if (decide (-(2 : Int) ^ 63 ≤ z) && decide (z < 2 ^ 63)) = true then _ else _) Q E _
      have et : s.toks + (k.2.length + 2) + 1 = s.toks + (k.2.length + 3) := by omega
      by_cases hr : (decide (-(2 : Int) ^ 63 ≤ z) && decide (z < 2 ^ 63)) = true
      · rw [if_pos hr] at h ⊢
        exact wpAny_pure (by simpa only [et] using h)
      · rw [if_neg hr] at h ⊢
        exact wpAny_bind (wpAny_rule (wpAny_pure (by simpa only [et] using h)))
theorem pair_eq_tree {x y : PKey} {a b : Addr} {Z : Fin → Shared → Prop} (hu : A.units < cLine) (hx : IsPair P w s.heap x a) (hy : IsPair P w s.heap y b) (h : Z (.done (.ret (.bool (decide (x = y))))) s) :
    wpAny (model P w) A (Builtin.«tuple.__eq__» ⟨[.ref a, .ref b], []⟩) Z E s := by
  have hTb := hy.typeIs
  obtain ⟨oa, na, ta, ca, hoa, _, hda, hka⟩ := hx
  obtain ⟨ob, nb, tb, cb, hob, _, hdb, hkb⟩ := hy
  show wpAny _ _ (isInstance (.ref b) (.type "tuple") >>= _) _ _ s
  refine wpAny_bind (wpAny_isInstance hTb isSubtype_tuple_tuple ?_)
  simp only [Bool.not_true, Bool.false_eq_true, if_false]
  refine wpAny_bind (wpAny_tupleItemsOf hoa hda (wpAny_bind (wpAny_tupleItemsOf hob hdb (wpAny_bind ?_))))
  refine wpAny_forIn_list _ (fun rest r s' => r.1 = none ∧ s' = s ∧ (rest = [(.int x.1 ta, .int y.1 tb), (.ref ca, .ref cb)] ∨ (x.1 = y.1 ∧ rest = [(.ref ca, .ref cb)]) ∨ (x = y ∧ rest = []))) _ ?_ ?_ _ _ ⟨rfl, rfl, .inl rfl⟩
  · rintro ⟨u, v⟩ rest r s' ⟨hr, rfl, e | ⟨e0, e⟩ | ⟨_, e⟩⟩
    · injection e with e1 e2
      injection e1 with e3 e4
      subst e2 e3 e4
      refine wpAny_bind ((intKind P w).eqBool (a := x.1) (b := y.1) (intKind_is P w _ _) (intKind_is P w _ _) ?_)
      by_cases hk : x.1 = y.1
      · rw [decide_eq_true hk]
        simp only [Bool.not_true, Bool.false_eq_true, if_false]
        exact wpAny_pure ⟨rfl, rfl, .inr (.inl ⟨hk, by trivial⟩)⟩
      · rw [decide_eq_false hk]
        simp only [Bool.not_false, if_true]
        rw [decide_eq_false (fun z => hk (congrArg Prod.fst z))] at h
        exact wpAny_bind (wpAny_pure (wpAny_pure (wpAny_pure h)))
    · injection e with e1 e2
      injection e1 with e3 e4
      subst e2 e3 e4
      refine wpAny_bind (wpAny_eqBool_tuple hu hka hkb ?_)
      by_cases hk : x.2 = y.2
      · rw [decide_eq_true hk]
        simp only [Bool.not_true, Bool.false_eq_true, if_false]
        exact wpAny_pure ⟨rfl, rfl, .inr (.inr ⟨Prod.ext e0 hk, by trivial⟩)⟩
      · rw [decide_eq_false hk]
        simp only [Bool.not_false, if_true]
        rw [decide_eq_false (fun z => hk (congrArg Prod.snd z))] at h
        exact wpAny_bind (wpAny_pure (wpAny_pure (wpAny_pure h)))
    · cases e
  · rintro ⟨r1, r2⟩ s' ⟨hr, rfl, e | ⟨_, e⟩ | ⟨e, _⟩⟩
    · cases e
    · cases e
    · simp only at hr
      subst hr
      rw [decide_eq_true e] at h
      exact wpAny_pure h
theorem pair_eqBool {x y : PKey} {a b : Addr} {Q : Bool → Shared → Prop} (hu : A.units + 1 < cLine) (hx : IsPair P w s.heap x a) (hy : IsPair P w s.heap y b) (h : Q (decide (x = y)) s) :
    wpAny (model P w) A (eqBool (.ref a) (.ref b)) Q E s := by
  unfold eqBool
  try with_reducible refine wpAny_holding ?_
  show wpAny _ _ (if (Value.ref a == Value.ref b) = true then _ else _) Q E s
  by_cases hab : (Value.ref a == Value.ref b) = true
  · rw [if_pos hab]
    have e : a = b := by have := eq_of_beq hab; injection this
    subst e
    obtain rfl := hx.inj hy
    exact wpAny_bind (wpAny_rule (wpAny_pure (by simpa using h)))
  · rw [if_neg hab]
    exact wpAny_bind (wpAny_richCompare_same_room (op := .Eq) hx.typeIs hy.typeIs F.slot_tuple_eq
      (wpAny_call_entry F.slot_tuple_eq hx.typeIs F.entry_tuple_eq (pair_eq_tree (A := A.in1) hu hx hy ⟨_, rfl, (fun e => nomatch e), wpAny_truthy_bool h⟩) (F.args_tuple_eq_2 _ _)) (by omega))
theorem quiet_n {n : Nat} {ks : List Int} {a : Addr} {Q : Bool → Shared → Prop} (hk : IsTupleKey (intKind P w) s.heap ks a) (h : Q true s) : wpAny (model P w) A (eqIsQuiet (n + 1) (.ref a)) Q E s := by
  have hT := hk.typeIs
  obtain ⟨o, items, m, ho, _, hd, hi⟩ := hk
  unfold eqIsQuiet
  refine wpAny_bind (wpAny_specialOf hT F.slot_tuple_eq.lookup ?_)
  show wpAny _ _ (isInstance (.ref a) (.type "tuple") >>= _) _ _ s
  refine wpAny_bind (wpAny_isInstance hT isSubtype_tuple_tuple ?_)
  simp only [Bool.not_true, Bool.false_eq_true, if_false]
  refine wpAny_bind (wpAny_seqItems ho hd (wpAny_bind ?_))
  show wpAny _ _ (forIn items _ _) _ _ s
  rw [← Array.forIn_toList]
  refine wpAny_forIn_list _ (fun rest r s' => r.1 = none ∧ s' = s ∧ ∀ v ∈ rest, carriedByValue v = true) _ ?_ ?_ _ _ ⟨rfl, rfl, hi.byValue⟩
  · rintro v rest r s' ⟨hr, rfl, hall⟩
    rw [eqIsQuiet_byValue _ (hall v List.mem_cons_self)]
    refine wpAny_bind (wpAny_pure ?_)
    simp only [Bool.not_true, Bool.false_eq_true, if_false]
    exact wpAny_pure ⟨rfl, rfl, fun u hu' => hall u (List.mem_cons_of_mem _ hu')⟩
  · rintro ⟨r1, r2⟩ s' ⟨hr, rfl, _⟩
    simp only at hr
    subst hr
    exact wpAny_pure h
theorem pair_quiet {k : PKey} {a : Addr} {Q : Bool → Shared → Prop} (hk : IsPair P w s.heap k a) (h : Q true s) : wpAny (model P w) A (eqIsQuiet 8 (.ref a)) Q E s := by
  have hT := hk.typeIs
  obtain ⟨o, n, t, b, ho, _, hd, hb⟩ := hk
  unfold eqIsQuiet
  refine wpAny_bind (wpAny_specialOf hT F.slot_tuple_eq.lookup ?_)
  show wpAny _ _ (isInstance (.ref a) (.type "tuple") >>= _) _ _ s
  refine wpAny_bind (wpAny_isInstance hT isSubtype_tuple_tuple ?_)
  simp only [Bool.not_true, Bool.false_eq_true, if_false]
  refine wpAny_bind (wpAny_seqItems ho hd (wpAny_bind ?_))
  show wpAny _ _ (forIn (#[Value.int k.1 t, Value.ref b] : Array Value) _ _) _ _ s
  rw [← Array.forIn_toList]
  refine wpAny_forIn_list _ (fun rest r s' => r.1 = none ∧ s' = s ∧ ∀ v ∈ rest, carriedByValue v = true ∨ v = .ref b) _ ?_ ?_ _ _ ⟨rfl, rfl, fun v hv => ?_⟩
  · rintro v rest r s' ⟨hr, rfl, hall⟩
    have fin : ∀ u ∈ rest, carriedByValue u = true ∨ u = Value.ref b := fun u hu' => hall u (List.mem_cons_of_mem _ hu')
    rcases hall v List.mem_cons_self with c | c
    · rw [eqIsQuiet_byValue _ c]
      refine wpAny_bind (wpAny_pure ?_)
      simp only [Bool.not_true, Bool.false_eq_true, if_false]
      exact wpAny_pure ⟨rfl, rfl, fin⟩
    · subst c
      refine wpAny_bind (quiet_n (n := 6) hb ?_)
      simp only [Bool.not_true, Bool.false_eq_true, if_false]
      exact wpAny_pure ⟨rfl, rfl, fin⟩
  · rintro ⟨r1, r2⟩ s' ⟨hr, rfl, _⟩
    simp only at hr
    subst hr
    exact wpAny_pure h
  · have : v = .int k.1 t ∨ v = .ref b := by simpa using hv
    rcases this with e | e
    · subst e; exact .inl rfl
    · exact .inr e
end
def pairKind (P : Program) (w : World) : HeapKind P w PKey where
  is := IsPair P w
  hash := pairHash P w
  draws := fun k => k.2.length + 3
  room := fun A => A.units + 1 < cLine
  inj := fun hx hy => hx.inj hy
  keeps := fun x ho hd hs => x.keeps ho hd hs
  pyHash := fun hu hk h => pair_hash hu hk h
  eqBool := fun hu hx hy h => pair_eqBool hu hx hy h
  quiet := fun hk h => pair_quiet hk h
end SR

set_option maxRecDepth 100000
set_option maxHeartbeats 4000000
namespace SR
open PySem PySem.Spec PyProof.Rows L2
/-- the dict at a: its keys, their places, its ints -/
def PkD (P : Program) (w : World) (h : Heap) (a : Addr) (xs : List (PKey × Addr × Int)) : Prop :=
  (a == sysModules) = false ∧ xs.length ≤ sizeLine ∧ ∃ (ys : List (PKey × Addr × Value)) (o : Obj) (es : Array DictEntry) (ep : Nat), Paired (fun (x : PKey × Addr × Int) (y : PKey × Addr × Value) => y.1 = x.1 ∧ y.2.1 = x.2.1 ∧ ∃ t, y.2.2 = .int x.2.2 t) xs ys ∧
    h.get? a = some o ∧ o.ExactDict ∧ o.data = .dict es ep ∧ es.toList = ys.map (entryOfKey (pairKind P w)) ∧ (ys.map (·.1)).Nodup
def PkO (P : Program) (w : World) (a : Addr) (xs : List (PKey × Addr × Int)) : HO := .ext fun h => PkD P w h a xs
theorem pkO_new {P : Program} {w : World} {H : Hp} {h : Heap} {a : Addr} {xs : List (PKey × Addr × Int)} (R : PkD P w h a xs) : ObjOk P w H h a (PkO P w a xs) := by
  obtain ⟨_, _, ys, o, es, ep, _, ho, _⟩ := id R
  refine ⟨R, ⟨o, ho⟩, fun h1 h2 q k => ?_⟩
  obtain ⟨q1, q2, ys, o, es, ep, q3, q4, q5⟩ := q
  exact ⟨q1, q2, ys, o, es, ep, q3, k o q4, q5⟩
def KeyT (H : Hp) (k : PKey) (b : Addr) : Prop := ∃ c, H b = some (.tup [.int k.1, .ref c]) ∧ H c = some (.tup (k.2.map V.int))
theorem KeyT.mono {H H' : Hp} {k : PKey} {b : Addr} (e : Same H H') (h : KeyT H k b) : KeyT H' k b := by
  obtain ⟨c, h1, h2⟩ := h
  exact ⟨c, e _ _ h1, e _ _ h2⟩
def lookP (xs : List (PKey × Addr × Int)) (k : PKey) : Option Int := (xs.find? fun x => decide (x.1 = k)).map (·.2.2)
theorem items_ints {P : Program} {w : World} : ∀ {k : List Int} {us : List Value}, Vals (k.map V.int) us → ItemsAre (intKind P w) k us
  | [], _, .nil => .nil
  | n :: k, _, .cons r t => by
    obtain ⟨tk, rfl⟩ := r
    exact .cons (intKind_is P w n tk) (items_ints t)
section
variable {X : Cx} {pins : List (Addr × Obj)} {σ : L2.St} {H : Hp} {s : Shared} {a : Addr} {xs : List (PKey × Addr × Int)}
theorem KeyT.is {k : PKey} {b : Addr} (h : KeyT H k b) (I : Inv X pins σ H s) : IsPair X.prog X.w s.heap k b := by
  obtain ⟨c, h1, h2⟩ := h
  obtain ⟨_, its, rv, o, ho, hc, n, hd⟩ := I.hok b _ h1
  obtain ⟨_, its2, rv2, o2, ho2, hc2, n2, hd2⟩ := I.hok c _ h2
  cases rv with
  | cons r1 rr =>
    cases rr with
    | cons r2 rr =>
      cases rr
      obtain ⟨t, rfl⟩ := r1
      cases r2
      exact ⟨o, n, t, c, ho, hc, by simpa using hd, o2, _, n2, ho2, hc2, hd2, by simpa using items_ints rv2⟩
theorem pk_dict (I : Inv X pins σ H s) (ha : H a = some (PkO X.prog X.w a xs)) (hk : ∀ x ∈ xs, KeyT H x.1 x.2.1) :
    (a == sysModules) = false ∧ xs.length ≤ sizeLine ∧ ∃ ys : List (PKey × Addr × Value), Paired (fun (x : PKey × Addr × Int) (y : PKey × Addr × Value) => y.1 = x.1 ∧ y.2.1 = x.2.1 ∧ ∃ t, y.2.2 = .int x.2.2 t) xs ys ∧ s.heap.DictOfH (pairKind X.prog X.w) a ys := by
  obtain ⟨q1, q2, ys, o, es, ep, q3, ho, hex, hd, he, nd⟩ := (I.hok a _ ha).1
  refine ⟨q1, q2, ys, q3, o, es, ep, ho, hex, hd, he, ?_, nd⟩
  have key : ∀ {xs : List (PKey × Addr × Int)} {ys : List (PKey × Addr × Value)}, Paired (fun (x : PKey × Addr × Int) (y : PKey × Addr × Value) => y.1 = x.1 ∧ y.2.1 = x.2.1 ∧ ∃ t, y.2.2 = .int x.2.2 t) xs ys → (∀ x ∈ xs, KeyT H x.1 x.2.1) → ∀ y ∈ ys, IsPair X.prog X.w s.heap y.1 y.2.1 := by
    intro xs ys p
    induction p with
    | nil => intro _ y hy; cases hy
    | cons r _ ih =>
      intro hk y hy
      rcases List.mem_cons.mp hy with z | z
      · subst z
        rw [r.1, r.2.1]
        exact (hk _ List.mem_cons_self).is I
      · exact ih (fun x hx => hk x (List.mem_cons_of_mem _ hx)) y z
  exact key q3 hk
theorem look_at {k : PKey} : ∀ {xs : List (PKey × Addr × Int)} {ys : List (PKey × Addr × Value)}, Paired (fun (x : PKey × Addr × Int) (y : PKey × Addr × Value) => y.1 = x.1 ∧ y.2.1 = x.2.1 ∧ ∃ t, y.2.2 = .int x.2.2 t) xs ys →
    (∀ p, atKey ys k = some p → ∃ i t, lookP xs k = some i ∧ p.2 = .int i t) ∧ (atKey ys k = none → lookP xs k = none)
  | _, _, .nil => ⟨fun p h => by simp [atKey] at h, fun _ => rfl⟩
  | x :: xs, y :: ys, .cons r t => by
    obtain ⟨ih1, ih2⟩ := look_at (k := k) t
    obtain ⟨e1, e2, tk, e3⟩ := r
    by_cases c : x.1 = k
    · have a1 : atKey (y :: ys) k = some y.2 := by simp [atKey, e1, c]
      have a2 : lookP (x :: xs) k = some x.2.2 := by simp [lookP, c]
      rw [a1, a2]
      exact ⟨fun p h => ⟨_, tk, rfl, by rw [← Option.some.inj h]; exact e3⟩, fun h => nomatch h⟩
    · have a1 : atKey (y :: ys) k = atKey ys k := by simp [atKey, e1, c]
      have a2 : lookP (x :: xs) k = lookP xs k := by simp [lookP, c]
      rw [a1, a2]
      exact ⟨ih1, ih2⟩
theorem paired_snoc {α β : Type} {R : α → β → Prop} {x : α} {y : β} : ∀ {xs : List α} {ys : List β}, Paired R xs ys → R x y → Paired R (xs ++ [x]) (ys ++ [y])
  | _, _, .nil, r => .cons r .nil
  | _, _, .cons q t, r => .cons q (paired_snoc t r)
end
section
variable {X : Cx} {o e f : Expr} {td ty tx : TE} {apos cpos : Pos}
def tDNewP (P : Program) (w : World) : TE := fun _ H Q => ∀ p, H p = none → Q (.ref p) (upd H p (PkO P w p []))
theorem pe_dnewP {pos : Pos} : PE X (.Dict [] [] pos) (tDNewP X.prog X.w) := ⟨fun pins s σ H Q I h =>
  wpAny_Dict_empty ⟨.ref s.heap.objs.size, _, I.laid (a := s.heap.objs.size) (o := PkO X.prog X.w s.heap.objs.size []) (t' := s.toks) (fun _ _ q => Heap.get?_push_of_some _ q) (Nat.le_refl _)
    (pkO_new ⟨beq_eq_false_iff_ne.mpr (Ne.symm (Nat.ne_of_lt I.big)), Nat.zero_le _, [], _, #[], 0, .nil, Heap.get?_push_size _ rfl, ⟨rfl, rfl, rfl⟩, rfl, rfl, List.nodup_nil⟩), rfl, h _ (I.hok.fresh (Nat.le_refl _))⟩⟩
def tPSetd (P : Program) (w : World) (td ty tx : TE) : TE := fun σ H Q => td σ H fun x H1 => ∃ a xs0, x = .ref a ∧ H1 a = some (PkO P w a xs0) ∧ ty σ H1 fun y H2 => tx σ H2 fun z H3 => ∃ (xs : List (PKey × Addr × Int)) (k : PKey) (b : Addr) (n : Int), H3 a = some (PkO P w a xs) ∧ y = .ref b ∧ KeyT H3 k b ∧ z = .int n ∧ xs.length < sizeLine ∧
  (∀ x ∈ xs, KeyT H3 x.1 x.2.1) ∧ (∀ v, lookP xs k = some v → Q (.int v) H3) ∧ (lookP xs k = none → Q (.int n) (upd H3 a (PkO P w a (xs ++ [(k, b, n)]))))
theorem pe_psetd (hu : X.A.units + 2 < cLine) (ho : PE X o td) (he : PE X e ty) (hf : PE X f tx) (m : M2 X o "setdefault" apos e f cpos) : PE X (.Call (.Attribute o "setdefault" apos) [e, f] [] cpos) (tPSetd X.prog X.w td ty tx) := by
  refine ⟨fun pins s σ H Q I h => ?_⟩
  refine wpAny_Call_method m.base m.few m.line PySem.F.plainAttrs_dict PySem.F.slot_dict_setdefault PySem.F.type_dict_setdefault (thn (ho.run pins s σ H _ I h) fun u s1 ⟨x, H1, I1, rx, a, xs0, ex, ha, q1⟩ => ?_)
  subst ex
  obtain rfl : u = Value.ref a := rx
  obtain ⟨_, _, _, od, _, _, _, hod, hex, _⟩ := (I1.hok a _ ha).1
  refine ⟨⟨od, hod, hex.1⟩, fun b q => ?_, ?_⟩
  · cases q
    exact ⟨od, hod, hex.2.1⟩
  rw [m.trees]
  refine Calls.callWith_builtin rfl (Calls.evalArgs_plain (Calls.spliced_cons (thn (he.run pins s1 σ H1 _ I1 q1) fun iv s2 ⟨y, H2, I2, ry, q2⟩ =>
    Calls.spliced_cons (thn (hf.run pins s2 σ H2 _ I2 q2) fun fv s3 ⟨z, H3, I3, rz, xs, k, b, n, ea, ey, hk, ez, hl, hks, q3, q4⟩ => Calls.spliced_nil ?_))))
  subst ey ez
  obtain rfl : iv = Value.ref b := ry
  obtain ⟨tk, rfl⟩ := rz
  obtain ⟨r1, r2, ys, rel, dd⟩ := pk_dict I3 ea hks
  have hlen : xs.length = ys.length := Paired.length rel
  refine call_setdefault_heap (knd := pairKind X.prog X.w) (k := k) hu (hk.is I3) r1 dd (fun p hp => ?_) (fun hn h' dd' sb => ?_) (by rw [← hlen]; exact r2)
  · obtain ⟨i, t, e1, e2⟩ := (look_at rel).1 p hp
    exact ⟨.int i, H3, I3.tok _, ⟨t, e2⟩, q3 i e1⟩
  · have e1 := (look_at rel).2 hn
    obtain ⟨o', es, ep, w1, w2, w3, w4, w5, w6⟩ := dd'
    rw [storedH_new hn] at w4 w6
    exact ⟨.int n, _, d_write (t' := s3.toks + (pairKind X.prog X.w).draws k) I3 (by rw [ea]; exact True.intro) sb ⟨o', w1⟩ (pkO_new ⟨r1, by simp only [List.length_append, List.length_cons, List.length_nil]; omega, _, o', es, ep, paired_snoc rel ⟨rfl, rfl, tk, rfl⟩, w1, w2, w3, w4, w6⟩), ⟨tk, rfl⟩, q4 e1⟩
theorem call_lenP : CallR X (.builtin "len") (fun vs H Q => ∃ a xs, vs = [.ref a] ∧ H a = some (PkO X.prog X.w a xs) ∧ (∀ x ∈ xs, KeyT H x.1 x.2.1) ∧ Q (.int (xs.length : Nat)) H) := by
  intro pins s σ H vs us Q I r h
  obtain ⟨a, xs, rfl, ha, hk, q⟩ := h
  obtain ⟨u, rfl, rx⟩ := vals1 r
  obtain rfl : u = .ref a := rx
  obtain ⟨r1, r2, ys, rel, dd⟩ := pk_dict I ha hk
  have hl : xs.length = ys.length := Paired.length rel
  refine call_len_dictH r1 dd (by rw [← hl]; rw [sizeLine_eq] at r2; omega) ?_
  rw [← hl]
  exact ⟨.int ((xs.length : Nat) : Int), H, I.tok _, ⟨_, rfl⟩, q⟩
end
end SR

set_option maxRecDepth 100000
set_option maxHeartbeats 4000000
namespace SS
open PySem L2
def top (i : Nat) : Stmt := PySem.Challenge.pw_sealedslots_k32_writable.main.body.getD i (.Pass ⟨0, 0, 0, 0⟩)
abbrev sDraw : Stmt := top 56
theorem scDraw : FnScope ["_law_rng_here", "_law_many", "_law_digit"] ["_law_rng_here", "_law_many"] (defScope sDraw) := ⟨rfl, rfl, rfl, by decide +kernel, rfl, by decide +kernel, by decide +kernel⟩

/-- the built-ins that the top leaves alone -/
structure Bl (mg : Str → Option Value) : Prop where
  len : mg "len" = none
  range : mg "range" = none
  int : mg "int" = none
  list : mg "list" = none
  dict : mg "dict" = none
  tuple : mg "tuple" = none
  set : mg "set" = none
  sorted : mg "sorted" = none
  all : mg "all" = none
  any : mg "any" = none
  max : mg "max" = none
  min : mg "min" = none
  abs : mg "abs" = none
  divmod : mg "divmod" = none
  repr : mg "repr" = none
  isinstance : mg "isinstance" = none
  enumerate : mg "enumerate" = none
  str : mg "str" = none
  bool : mg "bool" = none
/-- the numbers of a drawing list -/
def RngOk (a b : Int) : Prop := 0 ≤ a ∧ 0 ≤ b ∧ b < 4294967296
def spDraw1 : Sp := fun vs H Q _ => ∃ (r : Addr) (m a b : Int), vs = [.ref r, .int m] ∧ 0 < m ∧ m < 1000 ∧ H r = some (.lst [.int a, .int b]) ∧ RngOk a b ∧
  ∀ (d a' b' : Int) (H' : Hp), 0 ≤ d → d < m → RngOk a' b' → (∀ x o, x ≠ r → H x = some o → H' x = some o) → H' r = some (.lst [.int a', .int b']) → Q (.int d) H'
section
variable {P : Program} {w : World} {K : PySem.W.Frag} {mg : Str → Option Value} {base : Heap}
theorem ok_draw1 {f : Addr} {fd : FuncData} (F : Fun K "_law_draw" "_law_draw" sDraw f fd) (B : Bl mg) : FnOk P w K mg base CX0 1 f fd ["_law_rng_here", "_law_many"] spDraw1 := by
  refine F.ok scDraw (fun vs H Q E h => ?_) (fun cdv A outer s H vs Q E hr h => ?_)
  · obtain ⟨r, m, a, b, rfl, _⟩ := h
    rfl
  · obtain ⟨r, m, a, b, rfl, m0, m1, hR, ⟨a0, b0, b1⟩, k⟩ := h
    refine ⟨_, pss_cons (ps_if (pt_cmpR op_gt (pe_ix ix_list (pv 0) pe_int (fun _ _ => rfl)) pe_int (nomark _))
        (pss_cons (ps_asg (pe_callB call_divmod (by rfl) B.divmod (by decide +kernel) (pa_cons (pe_ix ix_list (pv 0) pe_int (fun _ _ => rfl)) (pa_cons (pv 1) pa_nil)))
            (pg_tup rfl (pgs_cons (pg_sub (pv 0) pe_int set_list) (pgs_cons (pg_name (i := 2) scDraw.nd rfl (.inl rfl)) pgs_nil))))
          (pss_one (ps_ret (pv 2)))) pss_nil)
      (pss_cons (ps_asg (pe_op op_mod (pe_callTy call_int1 (by rfl) B.int (by decide +kernel) (pa_cons (pe_op op_add (pe_op op_mul (pe_ix ix_list (pv 0) pe_int (fun _ _ => rfl)) pe_int) pe_int) pa_nil)) pe_int)
          (pg_sub (pv 0) pe_int set_list))
      (pss_one (ps_ret (pe_op op_mod (pe_op op_fdiv (pe_op op_mod (pe_callTy call_int1 (by rfl) B.int (by decide +kernel) (pa_cons (pe_op op_mul (pe_ix ix_list (pv 0) pe_int (fun _ _ => rfl)) (pe_ix ix_list (pv 0) pe_int (fun _ _ => rfl))) pa_nil)) pe_int) pe_int) (pv 1))))), ?_⟩
    refine ⟨_, rfl, r, _, _, _, rfl, rfl, SqL.of hR, rfl, _, _, rfl, rfl, _, rfl, ?_⟩
    refine ite2 (fun ha => ?_) (fun ha => ?_)
    · refine ⟨_, rfl, r, _, _, _, rfl, rfl, SqL.of hR, rfl, _, rfl, _, _, rfl, ⟨by omega, by omega⟩, fun p hp => ?_⟩
      have nrp : r ≠ p := ne_of_none hR hp
      refine ⟨p, _, rfl, SqT.of upd_same, rfl, _, _, rfl, _, rfl, r, _, _, 0, rfl, rfl, (by rw [upd_ne nrp]; exact hR), rfl, _, _, rfl, rfl, _, rfl, ?_⟩
      refine k (a % m) (a / m) b _ (Int.emod_nonneg _ (by omega)) (Int.emod_lt_of_pos _ m0) ⟨Int.ediv_nonneg a0 (by omega), b0, b1⟩ (fun x o hx e => ?_) upd_same
      rw [upd_ne hx, upd_ne (ne_of_none e hp)]
      exact e
    · refine ⟨_, rfl, r, _, _, _, rfl, rfl, SqL.of hR, rfl, _, _, rfl, rfl, .inl ⟨by omega, by omega⟩, _, _, rfl, rfl, .inl ⟨_, rfl, _, _, rfl, rfl, (by show (0 : Int) < 2147483563; decide), ?_⟩⟩
      refine ⟨_, rfl, r, _, _, 1, rfl, rfl, hR, rfl, ?_⟩
      have b2 : 0 ≤ (b * 39373 + 30011) % 2147483563 := Int.emod_nonneg _ (by decide)
      have b3 : (b * 39373 + 30011) % 2147483563 < 2147483563 := Int.emod_lt_of_pos _ (by decide)
      refine ⟨_, rfl, r, _, _, _, rfl, rfl, SqL.of upd_same, rfl, _, rfl, r, _, _, _, rfl, rfl, SqL.of upd_same, rfl, _, _, rfl, rfl, .inl ⟨by omega, by omega⟩, .inl ⟨_, rfl, _, _, rfl, rfl, (by show (0 : Int) < 2147483497; decide), _, _, rfl, rfl, ⟨by decide, by decide⟩, _, rfl, _, _, rfl, rfl, m0, ?_⟩⟩
      refine k _ a ((b * 39373 + 30011) % 2147483563) _ (Int.emod_nonneg _ (by omega)) (Int.emod_lt_of_pos _ m0) ⟨a0, b2, by omega⟩ (fun x o hx e => ?_) upd_same
      rw [upd_ne hx]
      exact e

/-! ### the drawing list, hidden -/
def rngO (r : Addr) : HO := .ext fun h => ∃ (its : List Value) (n : Nat) (a b : Int), RngOk a b ∧ Vals [.int a, .int b] its ∧ h.get? r = some { cls := .type "list", data := .seq its.toArray n }
theorem rngO_ok {H : Hp} {h : Heap} {r : Addr} {a b : Int} (z : RngOk a b) (o : ObjOk P w H h r (.lst [.int a, .int b])) (H' : Hp) : ObjOk P w H' h r (rngO r) := by
  obtain ⟨_, its, n, v, e⟩ := o
  refine ⟨⟨its, n, a, b, z, v, e⟩, ⟨_, e⟩, fun h1 h2 q k => ?_⟩
  obtain ⟨its, n, a, b, z, v, e⟩ := q
  exact ⟨its, n, a, b, z, v, k _ e⟩
theorem rngO_open {H : Hp} {h : Heap} {r : Addr} (o : ObjOk P w H h r (rngO r)) (H' : Hp) : ∃ a b, RngOk a b ∧ ObjOk P w H' h r (.lst [.int a, .int b]) := by
  obtain ⟨⟨its, n, a, b, z, v, e⟩, _, _⟩ := o
  exact ⟨a, b, z, by show 2 ≤ sizeLine; decide, its, n, v, e⟩
theorem hok_swap {H : Hp} {h : Heap} {r : Addr} {u o : HO} (k : HOk P w H h) (hr : H r = some u) (nt : ∀ xs, u ≠ .tup xs) (nw : ∀ x, u ≠ .own x) (new : ObjOk P w (upd H r o) h r o) : HOk P w (upd H r o) h := fun b v e => by
  by_cases hb : b = r
  · subst hb; rw [upd_same] at e; cases e; exact new
  · rw [upd_ne hb] at e
    refine (k b v e).stay (fun _ _ _ q => q) (fun c q => ?_) fun c xs q => ?_
    · rw [upd_ne (fun z => by subst z; rw [hr] at q; exact nw _ (Option.some.inj q))]; exact q
    · rw [upd_ne (fun z => by subst z; rw [hr] at q; exact nt _ (Option.some.inj q))]; exact q
def spDraw : Sp := fun vs H Q _ => ∃ (r : Addr) (m : Int), vs = [.ref r, .int m] ∧ 0 < m ∧ m < 1000 ∧ H r = some (rngO r) ∧ ∀ (d : Int) (H' : Hp), 0 ≤ d → d < m → Same H H' → Q (.int d) H'
theorem ok_draw {f : Addr} {fd : FuncData} {k : Nat} {ps : List Str} (F : FnOk P w K mg base CX0 k f fd ps spDraw1) (hps : ps.length = 2) : FnOk P w K mg base CX0 k f fd ps spDraw := by
  refine ⟨fun vs H Q E h => ?_, fun A outer s H args us vs Q E hr e0 hb hv hs => ?_⟩
  · obtain ⟨r, m, rfl, _⟩ := h
    exact hps.symm
  · obtain ⟨r, m, rfl, m0, m1, hR, k⟩ := hs
    obtain ⟨a, b, z, ob⟩ := rngO_open (e0.hok r _ hR) (upd H r (.lst []))
    have ob' : ∀ H', ObjOk P w H' s.heap r (.lst [.int a, .int b]) := fun _ => ob
    have hN : ∀ {c : Addr}, H c = none → upd H r (.lst [.int a, .int b]) c = none := fun {c} q => by rw [upd_ne (fun z => by subst z; rw [hR] at q; cases q)]; exact q
    have e1 : Env0 P w K mg base A outer s (upd H r (.lst [.int a, .int b])) := ⟨e0.frames, e0.mod, fun c o q => ⟨(e0.bs c o q).1, hN (e0.bs c o q).2⟩, e0.bsz, e0.funs, fun c q => hN (e0.frf c q), hok_swap e0.hok hR (fun _ => nofun) (fun _ => nofun) (ob' _), e0.bare⟩
    refine codeAny_mono (F.run A outer s _ args us _ (fun v H' => ∃ d a' b', v = .int d ∧ 0 ≤ d ∧ d < m ∧ RngOk a' b' ∧ (∀ x o, x ≠ r → H x = some o → H' x = some o) ∧ H' r = some (.lst [.int a', .int b'])) E hr e1 hb hv
      ⟨r, m, a, b, rfl, m0, m1, upd_same, z, fun d a' b' H' h0 h1 hz hk hr' => ⟨d, a', b', rfl, h0, h1, hz, fun x o hx q => hk x o hx (by rw [upd_ne hx]; exact q), hr'⟩⟩) fun res s' hres => ?_
    unfold CR at hres ⊢
    split at hres
    · obtain ⟨v, H', os, bare, un, hok, rv, d, a', b', rfl, h0, h1, hz, hk, hr'⟩ := hres
      refine ⟨.int d, upd H' r (rngO r), os, bare, ?_, hok_swap hok hr' (fun _ => nofun) (fun _ => nofun) (rngO_ok hz (hok r _ hr') _), rv, k d _ h0 h1 fun c o q => ?_⟩
      · refine ⟨fun c o q n => un.keep c o q (hN n), fun c o q n => un.slot c o q (hN n), fun c o q n hx => ?_, un.there, fun c xs q => ?_, fun c o u q => ?_, fun c ps q => ?_⟩
        · have n' := un.free c o q (hN n) hx
          rw [upd_ne (fun z => by subst z; rw [hR] at n; cases n)]
          exact n'
        · have nc : c ≠ r := fun z => by subst z; rw [hR] at q; cases q
          rw [upd_ne nc]; exact un.tups c xs (by rw [upd_ne nc]; exact q)
        · have nc : c ≠ r := fun z => by subst z; rw [hR] at q; cases q
          rw [upd_ne nc]; exact un.frzs c o u (by rw [upd_ne nc]; exact q)
        · have nc : c ≠ r := fun z => by subst z; rw [hR] at q; cases q
          obtain ⟨more, e⟩ := un.tbls c ps (by rw [upd_ne nc]; exact q)
          exact ⟨more, by rw [upd_ne nc]; exact e⟩
      · by_cases hc : c = r
        · subst hc; rw [hR] at q; cases q; exact upd_same
        · rw [upd_ne hc]; exact hk c o hc q
    · exact hres
    · exact hres
end
end SS

set_option maxRecDepth 100000
set_option maxHeartbeats 4000000
namespace SS
open PySem L2
abbrev sRng : Stmt := top 55
theorem scRng : FnScope ["_law_script", "_law_k", "_law_cell"] ["_law_script", "_law_k"] (defScope sRng) := ⟨rfl, rfl, rfl, by decide +kernel, rfl, by decide +kernel, by decide +kernel⟩
def spRng1 (K : PySem.W.Frag) : Sp := fun vs H Q _ => ∃ (a : Addr) (k : Int) (ns : List Int), vs = [.ref a, .int k] ∧ SqL K H a (ns.map V.int) ∧ 0 ≤ k ∧ k < 1000 ∧
  ∀ (x y : Int) (p : Addr), RngOk x y → H p = none → Q (.ref p) (upd H p (.lst [.int x, .int y]))
section
variable {P : Program} {w : World} {K : PySem.W.Frag} {mg : Str → Option Value} {base : Heap}
theorem absI_nn (i : Int) : 0 ≤ (if i < 0 then -i else i) := by split <;> omega
theorem rng_nums (k i : Int) : RngOk (if (if i < 0 then -i else i) - 10 ^ (18 : Int).toNat > 0 then (if i < 0 then -i else i) - 10 ^ (18 : Int).toNat else 0) (((if i < 0 then -i else i) % 2147483549 + 1) * (2 * k + 3) ^ (3 : Int).toNat % 2147483543 + 1) := by
  refine ⟨?_, ?_, ?_⟩
  · split <;> omega
  · have := Int.emod_nonneg (((if i < 0 then -i else i) % 2147483549 + 1) * (2 * k + 3) ^ (3 : Int).toNat) (show (2147483543 : Int) ≠ 0 by decide)
    omega
  · have := Int.emod_lt_of_pos (((if i < 0 then -i else i) % 2147483549 + 1) * (2 * k + 3) ^ (3 : Int).toNat) (show (0 : Int) < 2147483543 by decide)
    omega
theorem ok_rng1 {f : Addr} {fd : FuncData} (F : Fun K "_law_rng" "_law_rng" sRng f fd) (B : Bl mg) : FnOk P w K mg base CX0 1 f fd ["_law_script", "_law_k"] (spRng1 K) := by
  refine F.ok scRng (fun vs H Q E h => ?_) (fun cdv A outer s H vs Q E hr h => ?_)
  · obtain ⟨a, k, ns, rfl, _⟩ := h
    rfl
  · obtain ⟨a, k, ns, rfl, hS, k0, k1, hQ⟩ := h
    refine ⟨_, pss_cons (ps_set (i := 2) scRng.nd rfl (.inl rfl) (pe_op op_add (pe_op op_mul pe_int (pv 1)) pe_int))
      (pss_cons (ps_if (pt_cmpR op_lt (pv 1) (pe_callB call_len_seq (by rfl) B.len boot_len (pa_cons (pv 0) pa_nil)) (nomark _))
        (pss_one (ps_set (i := 2) scRng.nd rfl (.inl rfl) (pe_ix ix_list (pv 0) (pv 1) (fun _ _ => rfl)))) pss_nil)
      (pss_one (ps_ret (pe_lst (pa_cons (pe_callB (call_max2 rfl) (by rfl) B.max (by decide +kernel) (pa_cons pe_int (pa_cons (pe_op op_sub (pe_callB call_abs (by rfl) B.abs (by decide +kernel) (pa_cons (pv 2) pa_nil)) (pe_op op_pow pe_int pe_int)) pa_nil)))
        (pa_cons (pe_op op_add (pe_op op_mod (pe_op op_mul (pe_callTy call_int1 (by rfl) B.int (by decide +kernel) (pa_cons (pe_op op_add (pe_op op_mod (pe_callTy call_int1 (by rfl) B.int (by decide +kernel) (pa_cons (pe_callB call_abs (by rfl) B.abs (by decide +kernel) (pa_cons (pv 2) pa_nil)) pa_nil)) pe_int) pe_int) pa_nil)) (pe_op op_pow (pe_op op_add (pe_op op_mul pe_int (pv 1)) pe_int) pe_int)) pe_int) pe_int) pa_nil)))))), ?_⟩
    have fin : ∀ (i : Int) (D : Ends) (σ : St), D.rt = Q → σ[1]? = some (some (V.int k)) → σ[2]? = some (some (V.int i)) → (tRet (tLst (tCons (tCB (fun xs H Q => ∃ i j, xs = [V.int i, V.int j] ∧ Q (V.int (if j > i then j else i)) H) (tCons (tC (V.int 0)) (tCons (tOp (rI0 fun i j => .int (i - j)) (tCB (fun xs H Q => ∃ i, xs = [V.int i] ∧ Q (V.int (if i < 0 then -i else i)) H) (tCons (tVar 2) tNil)) (tOp (rI CPow fun i j => .int (i ^ j.toNat)) (tC (V.int 10)) (tC (V.int 18)))) tNil))) (tCons (tOp (rI0 fun i j => .int (i + j)) (tOp (rI (fun _ j => 0 < j) fun i j => .int (i % j)) (tOp (rI CMul fun i j => .int (i * j)) (tCB (fun xs H Q => (∃ i, xs = [V.int i] ∧ Q (V.int i) H) ∨ ∃ k, xs = [V.bl k] ∧ Q (V.int (if k = true then 1 else 0)) H) (tCons (tOp (rI0 fun i j => .int (i + j)) (tOp (rI (fun _ j => 0 < j) fun i j => .int (i % j)) (tCB (fun xs H Q => (∃ i, xs = [V.int i] ∧ Q (V.int i) H) ∨ ∃ k, xs = [V.bl k] ∧ Q (V.int (if k = true then 1 else 0)) H) (tCons (tCB (fun xs H Q => ∃ i, xs = [V.int i] ∧ Q (V.int (if i < 0 then -i else i)) H) (tCons (tVar 2) tNil)) tNil)) (tC (V.int 2147483549))) (tC (V.int 1))) tNil)) (tOp (rI CPow fun i j => .int (i ^ j.toNat)) (tOp (rI0 fun i j => .int (i + j)) (tOp (rI CMul fun i j => .int (i * j)) (tC (V.int 2)) (tVar 1)) (tC (V.int 3))) (tC (V.int 3)))) (tC (V.int 2147483543))) (tC (V.int 1))) tNil)))) D σ H := by
      intro i D σ hD e1 e2
      have p0 : 0 ≤ (if i < 0 then -i else i) % 2147483549 := Int.emod_nonneg _ (by decide)
      have p1 : (if i < 0 then -i else i) % 2147483549 < 2147483549 := Int.emod_lt_of_pos _ (by decide)
      refine ⟨_, e2, _, rfl, _, _, rfl, rfl, ⟨by decide, by decide, by decide⟩, _, _, rfl, rfl, _, _, rfl, ?_⟩
      refine ⟨_, e2, _, rfl, .inl ⟨_, rfl, _, _, rfl, rfl, (by show (0 : Int) < 2147483549; decide), _, _, rfl, rfl, .inl ⟨_, rfl, ?_⟩⟩⟩
      refine ⟨_, e1, _, _, rfl, rfl, .inl ⟨by decide, by decide⟩, _, _, rfl, rfl, _, _, rfl, rfl, ⟨by decide, by decide, by omega⟩, _, _, rfl, rfl, .inl ⟨by omega, by omega⟩, _, _, rfl, rfl, (by show (0 : Int) < 2147483543; decide), _, _, rfl, rfl, ?_⟩
      refine ⟨(by show 2 ≤ sizeLine; decide), fun p hp => ?_⟩
      rw [hD]
      exact hQ _ _ p (rng_nums k i) hp
    refine ⟨_, rfl, _, _, rfl, rfl, .inl ⟨by decide, by decide⟩, _, _, rfl, rfl, ?_⟩
    refine ⟨_, rfl, _, rfl, a, _, rfl, .inl hS, _, _, rfl, rfl, _, rfl, ?_⟩
    refine ite2 (fun hk => ?_) (fun hk => ?_)
    · have hk' : k < ((ns.map V.int).length : Int) := of_decide_eq_true hk
      have hlt : k.toNat < ns.length := by rw [List.length_map] at hk'; omega
      have e : atI (ns.map V.int) k = some (V.int ns[k.toNat]) := by
        have := atI_nat (xs := ns.map V.int) (j := k.toNat) (v := V.int ns[k.toNat]) (by simp [hlt])
        rw [Int.toNat_of_nonneg k0] at this
        exact this
      refine ⟨_, rfl, _, rfl, a, _, _, _, rfl, rfl, hS, e, ?_⟩
      exact fin _ _ _ rfl rfl rfl
    · exact fin _ _ _ rfl rfl rfl
end
end SS

set_option maxRecDepth 100000
set_option maxHeartbeats 4000000
namespace SS
open PySem L2 SR
/-- a def of the top that may be called: where it stands, what it promises -/
structure Cal (P : Program) (w : World) (K : PySem.W.Frag) (mg : Str → Option Value) (base : Heap) (x : Str) (k : Nat) (ps : List Str) (sp : Sp) : Prop where
  ex : ∃ f fd, FnOk P w K mg base CX0 k f fd ps sp ∧ mg x = some (.ref f) ∧ PySem.W.keepIn K (.ref f) = true ∧ Binds K fd ps []
theorem pe_cal {X : Cx} {x : Str} {k : Nat} {ps : List Str} {sp : Sp} {e : Expr} {es : List Expr} {t : TA} {p pos : Pos} (C : Cal X.prog X.w X.K X.mg X.base x k ps sp) (hr : Room k X.A) (ha : PA X (e :: es) t) (hg : Gl X x := by rfl) (hdb : (x == ("__debug__" : Str)) = false := by decide)
    (he : starEach (e :: es) X.env = (false, eval e X.env) :: starEach es X.env := by rfl) (hpl : (backTo pos (starEach es X.env)).any (·.1) = false := by rfl) : PE X (.Call (.Name x p) (e :: es) [] pos) (tCall sp [] E0 t) := by
  obtain ⟨f, fd, F, m, kp, b⟩ := C.ex
  exact pe_call F hr hg m kp b .nil pass0 ha hdb he hpl
theorem same_new {H : Hp} {p : Addr} {o : HO} (h : H p = none) : Same H (upd H p o) := fun a u e => by
  rw [upd_ne (ne_of_none e h)]
  exact e
theorem same_upd {H H' : Hp} {p : Addr} {o : HO} (e : Same H H') (h : H p = none) : Same H (upd H' p o) := fun a u ha => by
  rw [upd_ne (ne_of_none ha h)]
  exact e a u ha
theorem seqIx {d : Int} {n : Nat} (h0 : 0 ≤ d) (h1 : d < (n : Int)) : seqIndex? d n = some d.toNat := by
  unfold seqIndex?
  have e : (if d < 0 then d + (n : Int) else d) = d := if_neg (by omega)
  simp only [e, h0, h1, decide_true, Bool.and_self, if_true]
theorem map_eraseIdx {α β : Type} (f : α → β) : ∀ (l : List α) (k : Nat), (l.map f).eraseIdx k = (l.eraseIdx k).map f
  | [], _ => rfl
  | _ :: _, 0 => rfl
  | x :: l, k + 1 => by
    show f x :: (l.map f).eraseIdx k = f x :: (l.eraseIdx k).map f
    rw [map_eraseIdx f l k]
section
variable {P : Program} {w : World} {K : PySem.W.Frag} {mg : Str → Option Value} {base : Heap}
/-! ### the drawing list, made -/
def spRng (K : PySem.W.Frag) : Sp := fun vs H Q _ => ∃ (a : Addr) (k : Int) (ns : List Int), vs = [.ref a, .int k] ∧ SqL K H a (ns.map V.int) ∧ 0 ≤ k ∧ k < 1000 ∧
  ∀ (p : Addr) (H' : Hp), H p = none → Same H H' → H' p = some (rngO p) → Q (.ref p) H'
theorem ok_rng {f : Addr} {fd : FuncData} {k : Nat} {ps : List Str} (F : FnOk P w K mg base CX0 k f fd ps (spRng1 K)) (hps : ps.length = 2) : FnOk P w K mg base CX0 k f fd ps (spRng K) := by
  refine ⟨fun vs H Q E h => ?_, fun A outer s H args us vs Q E hr e0 hb hv hs => ?_⟩
  · obtain ⟨a, k, ns, rfl, _⟩ := h
    exact hps.symm
  · obtain ⟨a, k, ns, rfl, hS, k0, k1, hQ⟩ := hs
    refine codeAny_mono (F.run A outer s _ args us _ (fun v H' => ∃ x y p, v = .ref p ∧ RngOk x y ∧ H p = none ∧ H' = upd H p (.lst [.int x, .int y])) E hr e0 hb hv
      ⟨a, k, ns, rfl, hS, k0, k1, fun x y p z hp => ⟨x, y, p, rfl, z, hp, rfl⟩⟩) fun res s' hres => ?_
    unfold CR at hres ⊢
    split at hres
    · obtain ⟨v, H', os, bare, un, hok, rv, x, y, p, rfl, z, hp, rfl⟩ := hres
      have hpl : upd H p (.lst [.int x, .int y]) p = some (.lst [.int x, .int y]) := upd_same
      have eq : upd (upd H p (.lst [.int x, .int y])) p (rngO p) = upd H p (rngO p) := upd_upd
      refine ⟨.ref p, upd H p (rngO p), os, bare, ?_, ?_, rv, hQ p _ hp (same_new hp) upd_same⟩
      · refine ⟨un.keep, un.slot, fun c o q n hx => ?_, un.there, fun c xs q => ?_, fun c o u q => ?_, fun c ps q => ?_⟩
        · have n' := un.free c o q n hx
          have nc : c ≠ p := fun e => by rw [e, hpl] at n'; cases n'
          rw [upd_ne nc]; exact n
        · rw [upd_ne (ne_of_none q hp)]; exact q
        · rw [upd_ne (ne_of_none q hp)]; exact q
        · exact ⟨#[], by rw [upd_ne (ne_of_none q hp), q]; simp⟩
      · rw [← eq]
        exact hok_swap hok hpl (fun _ => nofun) (fun _ => nofun) (rngO_ok z (hok p _ hpl) _)
    · exact hres
    · exact hres
/-! ### _law_choice -/
abbrev sChoice : Stmt := top 57
theorem scChoice : FnScope ["_law_rng_here", "_law_some"] ["_law_rng_here", "_law_some"] (defScope sChoice) := ⟨rfl, rfl, rfl, by decide +kernel, rfl, by decide +kernel, by decide +kernel⟩
def spChoice (K : PySem.W.Frag) : Sp := fun vs H Q _ => (∃ (r l : Addr) (xs : List V), vs = [.ref r, .ref l] ∧ H r = some (rngO r) ∧ SqL K H l xs ∧ 0 < xs.length ∧ xs.length < 1000 ∧ ∀ x H', x ∈ xs → Same H H' → Q x H') ∨
  (∃ (r : Addr) (z : Str), vs = [.ref r, .str z] ∧ H r = some (rngO r) ∧ 0 < z.cps.toList.length ∧ z.cps.toList.length < 1000 ∧ ∀ c H', c ∈ z.cps.toList → Same H H' → Q (ltV c) H')
theorem atI_in {α : Type} {xs : List α} {d : Int} (h0 : 0 ≤ d) (h1 : d < (xs.length : Int)) : ∃ x, atI xs d = some x ∧ x ∈ xs := by
  have hl : d.toNat < xs.length := by omega
  refine ⟨xs[d.toNat], ?_, List.getElem_mem hl⟩
  have := atI_nat (xs := xs) (j := d.toNat) (v := xs[d.toNat]) (by simp [hl])
  rwa [Int.toNat_of_nonneg h0] at this
theorem ok_choice {f : Addr} {fd : FuncData} (F : Fun K "_law_choice" "_law_choice" sChoice f fd) (B : Bl mg) (D : Cal P w K mg base "_law_draw" 1 ["_law_rng_here", "_law_many"] spDraw) : FnOk P w K mg base CX0 2 f fd ["_law_rng_here", "_law_some"] (spChoice K) := by
  refine F.ok scChoice (fun vs H Q E h => ?_) (fun cdv A outer s H vs Q E hr h => ?_)
  · rcases h with ⟨r, l, xs, rfl, _⟩ | ⟨r, z, rfl, _⟩ <;> rfl
  · refine ⟨_, pss_one (ps_ret (pe_ix ix_seq (pv 1) (pe_cal D hr (pa_cons (pv 0) (pa_cons (pe_callB call_len (by rfl) B.len boot_len (pa_cons (pv 1) pa_nil)) pa_nil))) (fun _ _ => rfl))), ?_⟩
    rcases h with ⟨r, l, xs, rfl, hR, hS, h0, h1, k⟩ | ⟨r, z, rfl, hR, h0, h1, k⟩
    · refine ⟨_, rfl, _, rfl, _, rfl, _, xs.length, rfl, .inl ⟨xs, hS, rfl⟩, r, _, rfl, by omega, by omega, hR, fun d H' d0 d1 e => ?_⟩
      obtain ⟨x, hx, hm⟩ := atI_in d0 d1
      exact .inl ⟨l, xs, d, x, rfl, rfl, e.seq hS, hx, k x H' hm e⟩
    · have hz : z.length ≤ sizeLine := Nat.le_trans (Nat.le_of_lt (show z.length < 1000 by simpa [Str.length] using h1)) (by decide)
      refine ⟨_, rfl, _, rfl, _, rfl, _, z.length, rfl, ⟨hz, rfl⟩, r, _, rfl, by have : z.length = z.cps.toList.length := by simp [Str.length]
                                                                                 omega, by have : z.length = z.cps.toList.length := by simp [Str.length]
                                                                                           omega, hR, fun d H' d0 d1 e => ?_⟩
      obtain ⟨c, hc, hm⟩ := atI_in (xs := z.cps.toList) d0 (by have : z.length = z.cps.toList.length := by simp [Str.length]
                                                               omega)
      exact .inr (.inr ⟨z, d, c, rfl, rfl, hz, hc, k c H' hm e⟩)
end
end SS

set_option maxRecDepth 100000
set_option maxHeartbeats 4000000
namespace SS
open PySem L2 SR
abbrev ABC : Str := "abcdefghijklmnopqrstuvwxyz"
/-- len of a list or a tuple -/
def rLenQ (K : PySem.W.Frag) : List V → Hp → VK → Prop := fun xs H Q => ∃ p ys, xs = [.ref p] ∧ (SqL K H p ys ∨ SqT K H p ys) ∧ Q (.int ys.length) H
theorem abc_codes : ABC.cps.toList = (List.range 26).map (· + 97) := by decide +kernel
section
variable {P : Program} {w : World} {K : PySem.W.Frag} {mg : Str → Option Value} {base : Heap}
/-! ### _law_letters -/
abbrev sLetters : Stmt := top 58
abbrev nLetters : List Str := ["_law_rng_here", "_law_many", "_law_left", "_law_k"]
theorem scLetters : FnScope nLetters ["_law_rng_here", "_law_many"] (defScope sLetters) := ⟨rfl, rfl, rfl, by decide +kernel, rfl, by decide +kernel, by decide +kernel⟩
def spLetters : Sp := fun vs H Q _ => ∃ (r : Addr) (m : Nat), vs = [.ref r, .int m] ∧ m ≤ 26 ∧ H r = some (rngO r) ∧
  ∀ (cs : List Nat) (p : Addr) (H' : Hp), cs.length = m → cs.Nodup → (∀ c ∈ cs, 97 ≤ c ∧ c < 123) → H p = none → Same H H' → H' p = some (.lst (cs.map ltV)) → Q (.ref p) H'
theorem ok_letters {f : Addr} {fd : FuncData} (F : Fun K "_law_letters" "_law_letters" sLetters f fd) (B : Bl mg) (D : Cal P w K mg base "_law_draw" 1 ["_law_rng_here", "_law_many"] spDraw) : FnOk P w K mg base CX0 2 f fd ["_law_rng_here", "_law_many"] spLetters := by
  refine F.ok scLetters (fun vs H Q E h => ?_) (fun cdv A outer s H vs Q E hr h => ?_)
  · obtain ⟨r, m, rfl, _⟩ := h
    rfl
  · obtain ⟨r, m, rfl, hm, hR, k⟩ := h
    refine ⟨_, pss_cons (ps_set (i := 2) scLetters.nd rfl (.inr rfl) (pe_callTy (call_list_txt rfl) (by rfl) B.list (by decide +kernel) (pa_cons pe_str pa_nil)))
      (pss_one (ps_ret (pe_lc (own := [("_law_k", 3)]) (g := gName 3) (tt := tYes) (te := tBM K "list" rPopAt (tVar 2) (tCons (tCall spDraw [] E0 (tCons (tVar 0) (tCons (tCB (rLenQ K) (tCons (tVar 2) tNil)) tNil))) tNil)) rfl scLetters.nd (pi_range1 (by rfl) B.range (pa_cons (pv 1) pa_nil)) (blkOk_by (own := [("_law_k", 3)]) (N := nLetters) (sc := defScope sLetters) (by decide +kernel))
        (fun _ _ _ _ _ => pg_name (i := 3) scLetters.nd rfl (.inl rfl)) (fun _ _ _ _ _ => pts_nil)
        (fun _ _ _ _ _ => pe_bm PySem.F.plainAttrs_list PySem.F.slot_list_pop PySem.F.type_list_pop mt_popAt (pv 2) (pa_cons (pe_cal D hr (pa_cons (pv 0) (pa_cons (pe_callB call_len_seq (by rfl) B.len boot_len (pa_cons (pv 2) pa_nil)) pa_nil))) pa_nil))))), ?_⟩
    refine ⟨_, rfl, (by decide +kernel), fun l hl => ?_⟩
    have nrl : r ≠ l := ne_of_none hR hl
    rw [show (Str.ofString "abcdefghijklmnopqrstuvwxyz").cps.toList = (List.range 26).map (· + 97) from abc_codes]
    refine ⟨_, rfl, _, rfl, (by omega), (by omega), fun D hD => lc_range (lo := 0) (n := (m : Int).toNat) (fun i H' => Same H H' ∧ ∃ got left : List Nat, H' l = some (.lst (left.map ltV)) ∧ H' D = some (.lst (got.map ltV)) ∧ (got ++ left).Perm ((List.range 26).map (· + 97)) ∧ got.length = i) ?_ ?_ ?_⟩
    · have nlD : l ≠ D := ne_of_none upd_same hD
      have hDH : H D = none := by rw [upd_ne (Ne.symm nlD)] at hD; exact hD
      exact ⟨same_upd (same_new hl) hDH, [], (List.range 26).map (· + 97), by rw [upd_ne nlD, upd_same], upd_same, List.Perm.refl _, rfl⟩
    · rintro i H3 hi ⟨e, got, left, h1, h2, hp, hg⟩
      have nlD : l ≠ D := ne_of_none upd_same hD
      have hDH : H D = none := by rw [upd_ne (Ne.symm nlD)] at hD; exact hD
      have hlen : got.length + left.length = 26 := by
        have := hp.length_eq
        simpa using this
      refine ⟨rfl, _, rfl, .inl ⟨rfl, _, SqL.of h1⟩, _, rfl, _, rfl, l, _, rfl, .inl (SqL.of h1), r, _, rfl, (by simp only [List.length_map]; omega), (by simp only [List.length_map]; omega), e _ _ hR, fun d H4 d0 d1 e4 => ?_⟩
      have hd : d.toNat < left.length := by simp only [List.length_map] at d1; omega
      refine ⟨l, _, d, d.toNat, ltV left[d.toNat], rfl, rfl, e4 _ _ h1, (by omega), (by simp only [List.length_map] at d1; omega), ?_, (by simp [hd]), got.map ltV, ?_, ?_, ?_⟩
      · simp only [List.length_map] at d1 ⊢
        exact seqIx d0 d1
      · rw [upd_ne (Ne.symm nlD)]; exact e4 _ _ h2
      · rw [List.length_map, sizeLine_eq]; omega
      · refine ⟨same_upd (same_upd (e.trans e4) hl) hDH, got ++ [left[d.toNat]], left.eraseIdx d.toNat, ?_, ?_, ?_, ?_⟩
        · rw [upd_ne nlD, upd_same]
          exact congrArg (fun z => some (HO.lst z)) (map_eraseIdx ltV left d.toNat)
        · rw [upd_same, List.map_append]; rfl
        · refine List.Perm.trans ?_ hp
          rw [List.append_assoc]
          exact List.Perm.append_left got (erase_perm _ _ _ (List.getElem?_eq_getElem hd))
        · rw [List.length_append, hg]; rfl
    · rintro H3 ⟨e, got, left, h1, h2, hp, hg⟩
      have nlD : l ≠ D := ne_of_none upd_same hD
      have hDH : H D = none := by rw [upd_ne (Ne.symm nlD)] at hD; exact hD
      have hnd : (got ++ left).Nodup := hp.nodup_iff.mpr (by decide +kernel)
      refine k got D H3 (by rw [hg]; exact Int.toNat_natCast m) (List.nodup_append.mp hnd).1 (fun c hc => ?_) hDH e h2
      obtain ⟨j, hj, e'⟩ := List.mem_map.mp (hp.mem_iff.mp (List.mem_append_left _ hc))
      have := List.mem_range.mp hj
      omega
end
end SS

set_option maxRecDepth 100000
set_option maxHeartbeats 4000000
namespace SS
open PySem L2 SR TL
/-! ### texts by their codes -/
def txt (cs : List Nat) : Str := ⟨cs.toArray⟩
theorem txt_codes (cs : List Nat) : (txt cs).cps.toList = cs := by simp [txt]
theorem txt_of (z : Str) : z = txt z.cps.toList := by cases z; simp [txt]
theorem txt_inj {a b : List Nat} (h : txt a = txt b) : a = b := by
  have := congrArg (fun z : Str => z.cps.toList) h
  simpa [txt] using this
theorem txt_len (cs : List Nat) : (txt cs).length = cs.length := by simp [txt, Str.length]
theorem txt_one (c : Nat) : lt c = txt [c] := rfl
theorem join_lt (cs : List Nat) : Txt.join "" (cs.map lt) = txt cs := by
  rw [join_eq]
  have key : ∀ cs : List Nat, tl (Str.join "" (cs.map lt)) = cs := by
    intro cs
    rw [tl_join]
    induction cs with
    | nil => rfl
    | cons c cs ih =>
      cases cs with
      | nil => rfl
      | cons d cs =>
        show tl (lt c) ++ (tl ("" : Str) ++ joinL (tl ("" : Str)) ((d :: cs).map lt |>.map tl)) = c :: d :: cs
        rw [ih]
        rfl
  have h := key cs
  rw [txt_of (Str.join "" (cs.map lt))]
  exact congrArg txt h
theorem sorted_lt : ∀ cs : List Nat, PyProof.Rows.sortedS (cs.map lt) = true → cs.Pairwise (· ≤ ·)
  | [], _ => List.Pairwise.nil
  | [c], _ => List.pairwise_singleton _ _
  | c :: d :: cs, h => by
    have h' : (!PySem.Spec.ltCps [d] [c] && PyProof.Rows.risingS (lt d) (cs.map lt)) = true := h
    rw [Bool.and_eq_true] at h'
    have h1 : c ≤ d := by
      have := h'.1
      simp [PySem.Spec.ltCps] at this
      omega
    have ih := sorted_lt (d :: cs) h'.2
    refine List.pairwise_cons.mpr ⟨fun x hx => ?_, ih⟩
    rcases List.mem_cons.mp hx with e | e
    · rw [e]; exact h1
    · exact Nat.le_trans h1 ((List.pairwise_cons.mp ih).1 x e)
theorem lt_of_nodup : ∀ l : List Nat, l.Pairwise (· ≤ ·) → l.Nodup → l.Pairwise (· < ·)
  | [], _, _ => List.Pairwise.nil
  | x :: l, h, d => by
    obtain ⟨h1, h2⟩ := List.pairwise_cons.mp h
    obtain ⟨d1, d2⟩ := List.nodup_cons.mp d
    refine List.pairwise_cons.mpr ⟨fun y hy => ?_, lt_of_nodup l h2 d2⟩
    exact Nat.lt_of_le_of_ne (h1 y hy) fun z => d1 (z ▸ hy)
theorem perm_lt {ys : List Str} {cs : List Nat} (p : ys.Perm (cs.map lt)) : ∃ ds : List Nat, ys = ds.map lt ∧ ds.Perm cs := by
  have hall : ∀ y ∈ ys, ∃ c, y = lt c := fun y hy => by
    obtain ⟨c, _, e⟩ := List.mem_map.mp (p.mem_iff.mp hy)
    exact ⟨c, e.symm⟩
  have ex : ∀ ys : List Str, (∀ y ∈ ys, ∃ c, y = lt c) → ∃ ds : List Nat, ys = ds.map lt := by
    intro ys
    induction ys with
    | nil => intro _; exact ⟨[], rfl⟩
    | cons y ys ih =>
      intro h
      obtain ⟨c, rfl⟩ := h y List.mem_cons_self
      obtain ⟨ds, rfl⟩ := ih fun u hu => h u (List.mem_cons_of_mem _ hu)
      exact ⟨c :: ds, rfl⟩
  obtain ⟨ds, rfl⟩ := ex ys hall
  refine ⟨ds, rfl, ?_⟩
  have q := p.map (fun z : Str => z.cps.toList.headD 0)
  rw [List.map_map, List.map_map] at q
  have e : ∀ u : List Nat, u.map ((fun z : Str => z.cps.toList.headD 0) ∘ lt) = u := fun u => by
    have : ((fun z : Str => z.cps.toList.headD 0) ∘ lt) = (id : Nat → Nat) := rfl
    rw [this, List.map_id]
  rw [e, e] at q
  exact q
/-- one to four ascending letters -/
structure Abc (cs : List Nat) : Prop where
  ris : cs.Pairwise (· < ·)
  abc : ∀ c ∈ cs, 97 ≤ c ∧ c < 123
  one : 1 ≤ cs.length
  four : cs.length ≤ 4
theorem ris_nodup {l : List Nat} (h : l.Pairwise (· < ·)) : l.Nodup := h.imp fun h e => by omega
section
variable {P : Program} {w : World} {K : PySem.W.Frag} {mg : Str → Option Value} {base : Heap}
end
end SS

set_option maxRecDepth 100000
set_option maxHeartbeats 4000000
namespace SR
open PySem PySem.Spec PyProof.Rows L2
/-! enumerate over a tuple, over the keys of a dict. -/
def ItE (src : Hp → Prop) (xs : List V) : It :=
  ⟨fun i H => src H ∧ i < xs.length, fun i H v H' => ∃ T x, v = .ref T ∧ H T = none ∧ H' = upd H T (.tup [.int (i : Nat), x]) ∧ xs[i]? = some x, fun i H => src H ∧ i = xs.length⟩
theorem walk_enumE {src : Hp → Prop} {xs : List V} : Walk (ItE src xs) xs.length src (YPair (fun i => some (.int (i : Nat))) (fun i => xs[i]?)) := by
  refine ⟨fun i _ hi q => ⟨q, hi⟩, fun _ q => ⟨q, rfl⟩, fun i H v H' _ q y => ?_⟩
  obtain ⟨T, x, h1, h2, h3, h4⟩ := y
  exact ⟨T, .int (i : Nat), x, h1, h2, h3, rfl, h4⟩
structure ESrc (P : Program) (w : World) (K : PySem.W.Frag) (src : Hp → Prop) (xs : List V) (a it : Addr) (At : Nat → Heap → Prop) : Prop where
  draws : ∀ (X : Cx), X.prog = P → X.w = w → X.K = K → X.calm = true → ∀ (pins : List (Addr × Obj)) (s : Shared) (σ : L2.St) (H : Hp), Inv X pins σ H s → src H →
    ∃ (Pv : Nat → Value → Prop) (St0 : Nat → Heap → Prop), Draws P w X.A.in1 it [it, a] xs.length Pv St0 ∧ (∀ i, At i s.heap → St0 i s.heap) ∧ (∀ i h', St0 i h' → At i h') ∧ ∀ (i : Nat) (v : Value) (x : V), Pv i v → xs[i]? = some x → RelV x v
  obj : ∀ i h, At i h → ∃ o, h.get? it = some o ∧ ∀ v, o.data ≠ .cell v
  keep : ∀ i h h', At i h → (∀ o, h.get? it = some o → h'.get? it = some o) → At i h'
theorem turn_enumS {P : Program} {w : World} {K : PySem.W.Frag} {src : Hp → Prop} {xs : List V} {a it e : Addr} {At : Nat → Heap → Prop} (S : ESrc P w K src xs a it At) (hei : e ≠ it) (hea : e ≠ a) {elts : List Expr} {kk : Nat} {tpos : Pos} :
    Turn P w K (.Tuple elts kk tpos) (ItE src xs) [e, it] e (fun i h => (∃ old, IsEnum h e it ((i : Nat) : Int) old) ∧ At i h) where
  mem := by simp
  obj := fun i h st b hb => by
    obtain ⟨⟨old, he⟩, ha⟩ := st
    have e' : b = e ∨ b = it := by simpa using hb
    rcases e' with z | z
    · rw [z]; exact ⟨_, he, fun v q => nomatch q⟩
    · rw [z]; exact S.obj i h ha
  keep := fun i h h' st k => ⟨let ⟨old, he⟩ := st.1; ⟨old, k e (by simp) _ he⟩, S.keep i h h' st.2 fun o q => k it (by simp) o q⟩
  item := by
    intro X hP hw hK hc i pins s σ H E I hf st hg
    obtain ⟨Pv, St0, D, d1, d2, d3⟩ := S.draws X hP hw hK hc pins s σ H I hg.1
    subst hP hw hK
    obtain ⟨⟨old, he⟩, ha⟩ := st
    obtain ⟨x, hx⟩ : ∃ x, xs[i]? = some x := ⟨xs[i]'hg.2, List.getElem?_eq_getElem hg.2⟩
    have hel : e < s.heap.objs.size := Heap.lt_size he
    have hil : it < s.heap.objs.size := by obtain ⟨_, q, _⟩ := S.obj i _ ha; exact Heap.lt_size q
    refine wpAny_pyNext_enum_itemD D he (d1 i ha) hg.2 hei (by simp [hei, hea]) fun u h' tk hPu ho hst hT hsz hk => ?_
    have ru := d3 i u x hPu hx
    refine ⟨_, rfl, wpAny_letOwnedTupleGo_enum (s := { s with heap := h', toks := tk + 1 }) ho fun h'' he' sb => ?_⟩
    have hT2 : h''.get? s.heap.objs.size = some { cls := .type "tuple", data := .seq #[.int i tk, u] } := (sb.2 _ (Nat.ne_of_gt hel)).trans hT
    have new : ObjOk X.prog X.w (upd H s.heap.objs.size (.tup [.int (i : Nat), x])) h'' s.heap.objs.size (.tup [.int (i : Nat), x]) :=
      ⟨by show 2 ≤ sizeLine; decide, [.int i tk, u], .cons ⟨_, rfl⟩ (.cons ru .nil), ⟨_, hT2, rfl, _, rfl⟩⟩
    have I1 : Inv X pins σ (upd H s.heap.objs.size (.tup [.int (i : Nat), x])) { s with heap := h'', toks := tk + 1 } :=
      I.turnedNew (ch := [e, it]) (fun b ob hb q => (sb.2 b (fun z => hb (by simp [z]))).trans (hk b ob (fun z => hb (by simp [z])) (fun z => hb (by simp [z])) q)) hf (Nat.le_refl _) new
    refine ⟨.ref s.heap.objs.size, _, I1, rfl, ⟨_, x, rfl, I.hok.fresh (Nat.le_refl _), rfl, hx⟩, ⟨⟨u, ?_⟩, S.keep _ _ _ (d2 _ _ hst) fun o q => (sb.2 it (Ne.symm hei)).trans q⟩, fun b hb => ?_⟩
    · have e1 : ((i + 1 : Nat) : Int) = (i : Int) + 1 := by omega
      rw [e1]; exact he'
    · have hb' : b < s.heap.objs.size := by
        have e' : b = e ∨ b = it := by simpa using hb
        rcases e' with z | z
        · rw [z]; exact hel
        · rw [z]; exact hil
      rw [upd_ne (Nat.ne_of_lt hb')]
      exact (hf b hb).1
  done := by
    intro X hP hw hK hc i pins s σ H E I hf st hg
    obtain ⟨Pv, St0, D, d1, d2, d3⟩ := S.draws X hP hw hK hc pins s σ H I hg.1
    subst hP hw hK
    obtain ⟨⟨old, he⟩, ha⟩ := st
    obtain ⟨hs, rfl⟩ := hg
    obtain ⟨f0, f1, f2, f3, f4, f5⟩ := hf it (by simp)
    exact wpAny_pyNext_enum_endD D he (d1 _ ha) fun h' eb => ⟨rfl, I.turned (t' := s.toks) (fun b o hb q => eb b o hb q) f0 f1 f3 f4 f5⟩
  self := fun A i s Q E st h => let ⟨⟨_, he⟩, _⟩ := st; wpAny_pyIter_enum he h
/-! ### enumerate(v): its two new cells -/
set_option maxHeartbeats 4000000 in
theorem meets_enum1 {v : Value} {o : Obj} {H : Heap → Prop} (B : Begins v o H) :
    Meets (Builtin.«enumerate.__new__» ⟨[.type "enumerate", v], []⟩) (fun _ R s => H s.heap ∧
      R (.ok (.ret (.ref (s.heap.push o).objs.size))) { s with heap := (s.heap.push o).push { cls := .type "enumerate", data := .fields #[.none, .bool false, .ref s.heap.objs.size, rawInt 0, .none, .none] } }) :=
  .of_wp fun prog w A R s h => by
    obtain ⟨hp, g, d, tk, os⟩ := s; obtain ⟨h1, h⟩ := h
    have hsub := sub_enumerate
    have q1 : ∀ {A' : Around} {E : Value → Shared → Prop} {Q : Value → Shared → Prop}, Q (.ref hp.objs.size) ⟨hp.push o, g, d, tk, os⟩ → wpAny (model prog w) A' (pyIter v) Q E ⟨hp, g, d, tk, os⟩ :=
      fun q => B.iter prog w _ _ ⟨hp, g, d, tk, os⟩ _ h1 q
    wp_walk using q1
    refine wpAny_stack_any fun st => wpAny_pure ?_
    split
    · rename_i c _ _ _ _ _
      cases (c == Value.type "enumerate")
      · wp_walk using q1
        exact ⟨_, rfl, h⟩
      · wp_walk using q1
        exact ⟨_, rfl, h⟩
    · wp_walk using q1
      exact ⟨_, rfl, h⟩
section
variable {prog : Program} {w : World} {A : Around} {E : Value → Shared → Prop} {s : Shared}
theorem enum_begins1 {v : Value} {o : Obj} {H : Heap → Prop} {Q : Value → Shared → Prop} (B : Begins v o H) (h1 : H s.heap)
    (h : ∀ h', IsEnum h' (s.heap.objs.size + 1) s.heap.objs.size 0 .none → h'.get? s.heap.objs.size = some o → h'.objs.size = s.heap.objs.size + 2 →
      (∀ b o, s.heap.get? b = some o → h'.get? b = some o) → Q (.ref (s.heap.objs.size + 1)) { s with heap := h' }) :
    wpAny (model prog w) A (call (.type "enumerate") [v]) Q E s := by
  refine callType_new F.called_enumerate (by decide) (F.typeCall_enumerate_1 _) (F.newCall_enumerate_1 _) (fun obj => F.args_object_init_2 obj _) F.entry_enumerate_new (meets_enum1 B) ⟨h1, ?_⟩
  have hz : (s.heap.push o).objs.size = s.heap.objs.size + 1 := Heap.size_push ..
  have he : IsEnum ((s.heap.push o).push { cls := .type "enumerate", data := .fields #[.none, .bool false, .ref s.heap.objs.size, rawInt 0, .none, .none] }) (s.heap.objs.size + 1) s.heap.objs.size 0 .none := by
    have := Heap.get?_push_size (s.heap.push o) (o := { cls := .type "enumerate", data := .fields #[.none, .bool false, .ref s.heap.objs.size, rawInt 0, .none, .none] }) rfl
    rw [hz] at this; exact this
  show _ ∧ _
  rw [hz]
  exact ⟨⟨_, he, rfl⟩, h _ he (Heap.get?_push_of_some _ (Heap.get?_push_size _ B.free)) (by rw [Heap.size_push, hz]) fun b o x => Heap.get?_push_of_some _ (Heap.get?_push_of_some _ x)⟩
end
/-! ### over a tuple -/
theorem src_tuple {P : Program} {w : World} {K : PySem.W.Frag} {a it : Addr} {xs : List V} (hne : a ≠ it) : ESrc P w K (fun H => SqT K H a xs) xs a it (fun i h => h.IsTupleIter it a i) where
  draws := by
    intro X hP hw hK hc pins s σ H I hs
    subst hP hw hK
    obtain ⟨its, rv, ht, hz⟩ := I.tuple hs
    have hl : its.toArray.size = xs.length := by rw [List.size_toArray, ← rv.length]
    have D := Draws.tuple (prog := X.prog) (w := X.w) (A := X.A.in1) (I.ok.hd hc) it a hne its.toArray
    rw [hl] at D
    refine ⟨_, _, D, fun i h => ⟨h, ht⟩, fun i h' h => h.1, fun i v x hv hx => ?_⟩
    obtain ⟨u, hu, ru⟩ := rv.get hx
    have e : its[i]? = some v := by simpa using hv
    rw [hu] at e
    cases e
    exact ru
  obj := fun i h st => by
    obtain ⟨o, ho, hc, hd⟩ := st
    exact ⟨o, ho, fun v q => by rw [hd] at q; cases q⟩
  keep := fun i h h' st k => st.at fun o e => k o e
def iEnumT (K : PySem.W.Frag) (ta : TA) : TI := fun σ H R => ta σ H fun vs H1 => ∃ a xs, vs = [.ref a] ∧ SqT K H1 a xs ∧ R (ItE (fun H => SqT K H a xs) xs) H1
theorem pi_enumT {X : Cx} {e : Expr} {ta : TA} {p pos tpos : Pos} {elts : List Expr} {kk : Nat} (hg : Gl X "enumerate") (hm : X.mg "enumerate" = none) (ha : PA X [e] ta) (hs : starEach [e] X.env = [(false, eval e X.env)] := by rfl) :
    PI X (.Tuple elts kk tpos) (.Call (.Name "enumerate" p) [e] [] pos) (iEnumT X.K ta) := by
  refine ⟨fun pins s σ H R I h => ?_⟩
  refine Call_ (ld_blt I hg hm boot_enumerate (PyProof.Rows.callWith_type1 (thn (ha.run pos pins s σ H _ I h) fun us s1 ⟨vs, H1, I1, r1, q1⟩ => ?_) hs rfl))
  obtain ⟨a, xs, ex, hq, q⟩ := q1
  subst ex
  cases r1 with
  | cons r rr =>
    cases rr
    cases r
    obtain ⟨its, rv, ht, hz⟩ := I1.tuple hq
    have hla : a < s1.heap.objs.size := by obtain ⟨_, z, _⟩ := ht; exact Heap.lt_size z
    refine enum_begins1 (begins_tuple a its.toArray) ht fun h' he hit hsz hk => wpAny_pyIter_enum he ?_
    have I2 : Inv X pins σ H1 { s1 with heap := h' } := I1.kept (t' := s1.toks) hk
    refine ⟨s1.heap.objs.size + 1, [s1.heap.objs.size + 1, s1.heap.objs.size], _, _, H1, rfl, I2, turn_enumS (src_tuple (a := a) (it := s1.heap.objs.size) (xs := xs) (Nat.ne_of_lt hla)) (Nat.succ_ne_self _) (Nat.ne_of_gt (Nat.lt_succ_of_lt hla)), ⟨⟨.none, he⟩, _, hit, rfl, rfl⟩, fun b hb => ?_, q⟩
    have e' : b = s1.heap.objs.size + 1 ∨ b = s1.heap.objs.size := by simpa using hb
    have hle : s1.heap.objs.size ≤ b := by
      rcases e' with z | z
      · rw [z]; exact Nat.le_add_right _ _
      · rw [z]; exact Nat.le_refl _
    exact I1.fpOk hle (I1.hok.fresh hle)
end SR

set_option maxRecDepth 100000
set_option maxHeartbeats 4000000
namespace SR
open PySem PySem.Spec PyProof.Rows L2
/-! A list or a tuple, walked. -/
def LoT (H : Hp) (a : Addr) (xs : List V) : Prop := H a = some (.lst xs) ∨ H a = some (.tup xs)
theorem LoT.mono {H H' : Hp} {a : Addr} {xs : List V} (e : Same H H') (h : LoT H a xs) : LoT H' a xs := h.imp (e _ _) (e _ _)
theorem LoT.seq {K : PySem.W.Frag} {H : Hp} {a : Addr} {xs : List V} (h : LoT H a xs) : SqL K H a xs ∨ SqT K H a xs := h.imp SqL.of SqT.of
theorem isi_LT {K : PySem.W.Frag} {H : Hp} {a : Addr} {xs : List V} (h : LoT H a xs) : ∃ t, TyX K H (.ref a) t ∧ PySem.W.kitAny K t [.type "list", .type "tuple"] = some true := by
  rcases h with h | h
  · exact ⟨_, .base (.lst h), kitAny_cons (kit_ty (b := "list") (r := true) (by decide +kernel)) nofun fun _ => rfl⟩
  · exact ⟨_, .base (.tup h), kitAny_cons (kit_ty (b := "list") (r := false) (by decide +kernel)) (fun _ => kitAny_cons (kit_ty (b := "tuple") (r := true) (by decide +kernel)) nofun fun _ => rfl) nofun⟩
def iLoT (tl : TE) : TI := fun σ H R => tl σ H fun x H1 => ∃ a xs, x = .ref a ∧ LoT H1 a xs ∧ ∀ (J : It) (G : Hp → Prop), Walk J xs.length G (YAt xs) → (∀ H', Same H1 H' → G H') → R J H1
theorem pi_lot {X : Cx} {tg l : Expr} {tl : TE} (hl : PE X l tl) : PI X tg l (iLoT tl) := by
  refine ⟨fun pins s σ H R I h => ?_⟩
  refine thn (hl.run pins s σ H _ I h) fun v s1 ⟨x, H1, I1, r1, q1⟩ => ?_
  obtain ⟨a, xs, e, hq, q⟩ := q1
  subst e
  cases r1
  rcases hq with hq | hq
  · have hq' : SqL X.K H1 a xs := SqL.of hq
    obtain ⟨its, rv, p, hz⟩ := I1.list hq'
    refine wpAny_pyIter_list p.isList ?_
    exact pi_one (tk := s1.toks) I1 _ (turn_list a _) ⟨_, Heap.get?_push_size _ rfl, rfl, rfl⟩ (q (Itl X.K a) _ walk_list fun H' e => e.seq hq')
  · have hq' : SqT X.K H1 a xs := SqT.of hq
    obtain ⟨its, rv, p, hz⟩ := I1.tuple hq'
    refine wpAny_pyIter_tuple (show s1.heap.IsTuple a its.toArray from p) ?_
    exact pi_one (tk := s1.toks) I1 _ (turn_tuple a _) ⟨_, Heap.get?_push_size _ rfl, rfl, rfl⟩ (q (Itt X.K a) _ walk_tup fun H' e => SqT.of (e _ _ hq))
def iEnumL (ta : TA) : TI := fun σ H R => ta σ H fun vs H1 => ∃ a xs, vs = [.ref a] ∧ LoT H1 a xs ∧ ∀ (J : It) (G : Hp → Prop), Walk J xs.length G (YPair (fun i => some (.int (i : Nat))) (fun i => xs[i]?)) → (∀ H', Same H1 H' → G H') → R J H1
theorem pi_enumL {X : Cx} {e : Expr} {ta : TA} {p pos tpos : Pos} {elts : List Expr} {kk : Nat} (hg : Gl X "enumerate") (hm : X.mg "enumerate" = none) (ha : PA X [e] ta) (hs : starEach [e] X.env = [(false, eval e X.env)] := by rfl) :
    PI X (.Tuple elts kk tpos) (.Call (.Name "enumerate" p) [e] [] pos) (iEnumL ta) := by
  refine ⟨fun pins s σ H R I h => ?_⟩
  refine Call_ (ld_blt I hg hm boot_enumerate (PyProof.Rows.callWith_type1 (thn (ha.run pos pins s σ H _ I h) fun us s1 ⟨vs, H1, I1, r1, q1⟩ => ?_) hs rfl))
  obtain ⟨a, xs, ex, hq, q⟩ := q1
  subst ex
  cases r1 with
  | cons r rr =>
    cases rr
    cases r
    rcases hq with hq | hq
    · have hq' : SqL X.K H1 a xs := SqL.of hq
      obtain ⟨its, rv, p', hz⟩ := I1.list hq'
      refine call_enumerate_list p'.isList fun h' he hit hsz hk => wpAny_pyIter_enum he ?_
      have I2 : Inv X pins σ H1 { s1 with heap := h' } := I1.kept (t' := s1.toks) hk
      refine ⟨s1.heap.objs.size + 1, [s1.heap.objs.size + 1, s1.heap.objs.size], _, _, H1, rfl, I2, turn_enum a (s1.heap.objs.size + 1) s1.heap.objs.size, ⟨⟨.none, he⟩, hit, Nat.succ_ne_self _⟩, fun b hb => ?_, q (Ite X.K a) _ walk_enum fun H' e => e.seq hq'⟩
      have e' : b = s1.heap.objs.size + 1 ∨ b = s1.heap.objs.size := by simpa using hb
      have hle : s1.heap.objs.size ≤ b := by
        rcases e' with z | z
        · rw [z]; exact Nat.le_add_right _ _
        · rw [z]; exact Nat.le_refl _
      exact I1.fpOk hle (I1.hok.fresh hle)
    · have hq' : SqT X.K H1 a xs := SqT.of hq
      obtain ⟨its, rv, ht, hz⟩ := I1.tuple hq'
      have hla : a < s1.heap.objs.size := by obtain ⟨_, z, _⟩ := ht; exact Heap.lt_size z
      refine enum_begins1 (begins_tuple a its.toArray) ht fun h' he hit hsz hk => wpAny_pyIter_enum he ?_
      have I2 : Inv X pins σ H1 { s1 with heap := h' } := I1.kept (t' := s1.toks) hk
      refine ⟨s1.heap.objs.size + 1, [s1.heap.objs.size + 1, s1.heap.objs.size], _, _, H1, rfl, I2, turn_enumS (src_tuple (a := a) (it := s1.heap.objs.size) (xs := xs) (Nat.ne_of_lt hla)) (Nat.succ_ne_self _) (Nat.ne_of_gt (Nat.lt_succ_of_lt hla)), ⟨⟨.none, he⟩, _, hit, rfl, rfl⟩, fun b hb => ?_, q (ItE (fun H => SqT X.K H a xs) xs) _ walk_enumE fun H' e => SqT.of (e _ _ hq)⟩
      have e' : b = s1.heap.objs.size + 1 ∨ b = s1.heap.objs.size := by simpa using hb
      have hle : s1.heap.objs.size ≤ b := by
        rcases e' with z | z
        · rw [z]; exact Nat.le_add_right _ _
        · rw [z]; exact Nat.le_refl _
      exact I1.fpOk hle (I1.hok.fresh hle)
end SR

set_option maxRecDepth 100000
set_option maxHeartbeats 4000000
namespace SR
open PySem PySem.Spec PyProof.Rows L2
theorem kv_at {κ : Type} {kvs : List (κ × V)} {vs : List (κ × Value)} (r : KV kvs vs) : ∀ (i : Nat) {y : κ × Value}, vs[i]? = some y → ∃ x, kvs[i]? = some x ∧ RelV x.2 y.2 := by
  unfold KV at r
  induction r with
  | nil => intro i y e; simp at e
  | @cons a b _ _ h _ ih =>
    intro i y e
    match i, e with
    | 0, e => exact ⟨a, rfl, by rw [← Option.some.inj e]; exact h.2⟩
    | i + 1, e =>
      obtain ⟨x, h1, h2⟩ := ih i (by simpa using e)
      exact ⟨x, by simpa using h1, h2⟩
/-! ### d.values() as a thing of its own; its list -/
def ViewO (r d : Addr) : HO := .ext fun h => h.IsValuesView r d
section
variable {X : Cx} {o : Expr} {td : TE} {apos cpos : Pos}
def tView (td : TE) : TE := fun σ H Q => td σ H fun x H1 => ∃ a kvs, x = .ref a ∧ H1 a = some (.dK kvs) ∧ ∀ r, H1 r = none → Q (.ref r) (upd H1 r (ViewO r a))
theorem pe_view (he : PE X o td) (hbase : attributeBase o "values" X.env (eval o X.env) = eval o X.env := by rfl) (hline : (apos.endLine == cpos.line) = true := by rfl) : PE X (.Call (.Attribute o "values" apos) [] [] cpos) (tView td) := by
  refine ⟨fun pins s σ H Q I h => ?_⟩
  refine wpAny_Call_method0_late hbase hline (thn (he.run pins s σ H _ I h) fun u s1 ⟨x, H1, I1, rx, a, kvs, ex, ha, q⟩ => ?_)
  subst ex
  obtain rfl : u = Value.ref a := rx
  obtain ⟨_, hsys, vs, rel, dof⟩ := dk_of I1.hok ha
  refine ⟨"dict", "dict.values", F.plainAttrs_dict, F.slot_dict_values, F.type_dict_values, dof.typeIs, dof.mapOf.noDict, Calls.callWith_builtin rfl (PySem.evalArgs_none ?_)⟩
  refine call_meetsIn F.slot_dict_values dof.typeIs F.entry_dict_values (F.args_dict_values_1 _) (meets_dict_values (mixKind X.prog X.w) a hsys) ⟨⟨vs, dof⟩, ?_⟩
  refine ⟨.ref s1.heap.objs.size, _, I1.laid (a := s1.heap.objs.size) (o := ViewO s1.heap.objs.size a) (t' := s1.toks) (fun _ _ q => Heap.get?_push_of_some _ q) (Nat.le_refl _) ?_, rfl, q _ (I1.hok.fresh (Nat.le_refl _))⟩
  refine ⟨⟨_, Heap.get?_push_size _ rfl, rfl, rfl⟩, ⟨_, Heap.get?_push_size _ rfl⟩, fun h1 h2 z k => ?_⟩
  obtain ⟨ov, z1, z2⟩ := z
  exact ⟨ov, k ov z1, z2⟩
theorem call_list_view (hc : X.calm = true) : CallR X (.type "list") (fun xs H Q => ∃ r a kvs, xs = [.ref r] ∧ H r = some (ViewO r a) ∧ H a = some (.dK kvs) ∧ ∀ l, H l = none → Q (.ref l) (upd H l (.lst (kvs.map (·.2))))) := by
  intro pins s σ H xs us Q I r h
  obtain ⟨r', a, kvs, rfl, hr, ha, q⟩ := h
  obtain ⟨u, rfl, rx⟩ := vals1 r
  obtain rfl : u = Value.ref r' := rx
  obtain ⟨hl, hsys, vs, rel, dof⟩ := dk_of I.hok ha
  obtain ⟨es, ep, raw, hsz, ent⟩ := dof.raw
  have hlen : vs.length = kvs.length := (KV.length rel).symm
  refine PySem.W.kdl_call (KdlSrc.rawValues (es := es) (ep := ep)) (I.ok.hd hc) ⟨(I.hok r' _ hr).1, raw⟩ (by rw [hsz, hlen]; exact hl) fun h' tk acc' c' hk hS' hacc => ?_
  have hv : Vals (kvs.map (·.2)) acc'.toList := by
    have key : ∀ (l : List (Key × V)) (ys : List Value), ys.length = l.length → (∀ (j : Nat) y, ys[j]? = some y → ∃ kx, l[j]? = some kx ∧ RelV kx.2 y) → Vals (l.map (·.2)) ys := by
      intro l
      induction l with
      | nil =>
        intro ys e _
        rw [List.length_eq_zero_iff.mp e]
        exact .nil
      | cons c l ih =>
        intro ys e hy
        cases ys with
        | nil => simp at e
        | cons y ys =>
          obtain ⟨kx, e1, e2⟩ := hy 0 y rfl
          cases (Option.some.inj e1)
          exact .cons e2 (ih ys (by simpa using e) fun j v hv => hy (j + 1) v (by simpa using hv))
    refine key _ _ (by rw [Array.length_toList, hacc.1, hsz, hlen]) fun j y hy => ?_
    obtain ⟨hj, e⟩ := hacc.2 j y (by simpa using hy)
    have hj' : j < vs.length := by rw [← hsz]; exact hj
    obtain ⟨_, e2⟩ := ent j hj _ _ (List.getElem?_eq_getElem hj')
    obtain ⟨x, x1, x2⟩ := kv_at rel _ (List.getElem?_eq_getElem hj')
    refine ⟨_, x1, ?_⟩
    rw [e, e2]
    exact x2
  refine ⟨.ref s.heap.objs.size, _, I.laid (t' := tk) hk (Nat.le_refl _) (show ObjOk X.prog X.w _ h' _ (.lst (kvs.map (·.2))) from ⟨by rw [List.length_map]; exact hl, acc'.toList, c', hv, by simpa using hS'⟩), rfl, q _ (I.hok.fresh (Nat.le_refl _))⟩
/-- repr(flag) -/
theorem call_repr_bl : CallR X (.builtin "repr") (fun xs H Q => ∃ b, xs = [.bl b] ∧ Q (.str (if b then "True" else "False")) H) := by
  intro pins s σ H xs us Q I r h
  obtain ⟨b, rfl, q⟩ := h
  obtain ⟨u, rfl, rx⟩ := vals1 r
  cases rx
  exact PySem.P.repr_of_bool ⟨.str _, H, I.tok _, ⟨_, rfl⟩, q⟩
end
/-! ### enumerate over the keys of a dict -/
section
variable {prog : Program} {w : World} {A : Around} {E : Value → Shared → Prop} {s : Shared}
theorem next_key {it d : Addr} {i ep : Nat} {es : Array DictEntry} {Q : Value → Shared → Prop} (hit : s.heap.IsKeyIter it d i es.size ep) (hm : s.heap.DictRaw d es ep) (hi : i < es.size)
    (hQ : ∀ h', h'.IsKeyIter it d (i + 1) es.size ep → Heap.SameBut it s.heap h' → Q es[i].key { s with heap := h' }) : wpAny (model prog w) A (Builtin.SmallTypes.nextOf (.ref it)) Q E s := by
  obtain ⟨o, e1, e2, e3⟩ := id hit
  obtain ⟨od, d1, d2, d3⟩ := id hm
  have ty := hit.typeIs
  have own : Builtin.Dict_items.ownsTuple "dict_keyiterator" = false := by decide
  unfold Builtin.SmallTypes.nextOf
  refine wpAny_bind (wpAny_callSpecial?_slot (name := Str.ofString "__next__") ty F.slot_dict_keyiterator_next (wpAny_call_entry F.slot_dict_keyiterator_next ty F.entry_dict_keyiterator_next (wpAny_bind (wpAny_pure (wpAny_bind (wpAny_bind ?_)))) (F.args_dict_keyiterator_next_1 _)))
  first | refine wpAny_bind (wpAny_typeNameOfWhole_keyiter ty (wpAny_pure (wpAny_bind (wpAny_fieldsOf e1 e3 ?_)))) | refine wpAny_bind (wpAny_typeNameOf_keyiter ty (wpAny_pure (wpAny_bind (wpAny_fieldsOf e1 e3 ?_))))
  simp only [own, Bool.false_eq_true, if_false]
  refine wpAny_ite_false rfl (wpAny_bind (wpAny_pure (wpAny_bind (wpAny_dictEntries d1 d3 ?_))))
  rw [if_neg (by simp)]
  refine wpAny_bind (wpAny_pure (wpAny_bind (wpAny_dictEpoch d1 d3 ?_)))
  rw [if_neg (by simp)]
  refine wpAny_pure ?_
  have n0 : ¬ ((i : Int) < 0) := by omega
  simp only [n0, if_false, Int.toNat_natCast, Array.getElem?_eq_getElem hi]
  refine wpAny_bind ?_
  first | refine wpAny_bind (wpAny_typeNameOfWhole_keyiter ty (wpAny_pure (wpAny_bind (wpAny_isOneOf_keyiter ty ?_)))) | refine wpAny_bind (wpAny_typeNameOf_keyiter ty (wpAny_pure (wpAny_bind (wpAny_isOneOf_keyiter ty ?_))))
  show wpAny _ _ (setField (.ref it) 1 (rawInt ((i : Int) + 1)) >>= _) _ _ s
  have nx : (s.heap.update it (Obj.mapFields (·.setIfInBounds 1 (rawInt ((i : Int) + 1))))).IsKeyIter it d (i + 1) es.size ep :=
    ⟨_, Heap.get?_update_self _ e1 (Obj.isFreed_of_fields (Obj.data_mapFields e3 _)), (Obj.cls_mapFields ..).trans e2, by rw [Obj.data_mapFields e3]; simp [rawInt]⟩
  refine wpAny_bind (wpAny_setField e1 e3 (by simp) (wpAny_bind (wpAny_holding (wpAny_bind (wpAny_isOneOf_keyiter (s := { s with heap := s.heap.update it (Obj.mapFields (·.setIfInBounds 1 (rawInt ((i : Int) + 1)))) }) nx.typeIs ?_)))))
  show wpAny _ _ (pure es[i].key) _ _ _
  exact wpAny_pure (wpAny_pure ⟨_, rfl, wpAny_pure (hQ _ nx (Heap.SameBut.update ..))⟩)
theorem next_keyE {it d : Addr} {i ep : Nat} {es : Array DictEntry} {Q : Value → Shared → Prop} (hh : A.handled = none) (hit : s.heap.IsKeyIter it d i es.size ep) (hm : s.heap.DictRaw d es ep) (hi : es.size ≤ i)
    (hE : ∀ h' e, Heap.ExtBut it s.heap h' → (∃ o, h'.get? e = some o ∧ o.cls = .type "StopIteration") → E (.ref e) { s with heap := h' }) : wpAny (model prog w) A (Builtin.SmallTypes.nextOf (.ref it)) Q E s := by
  obtain ⟨o, e1, e2, e3⟩ := id hit
  obtain ⟨od, d1, d2, d3⟩ := id hm
  have ty := hit.typeIs
  have own : Builtin.Dict_items.ownsTuple "dict_keyiterator" = false := by decide
  unfold Builtin.SmallTypes.nextOf
  refine wpAny_bind (wpAny_callSpecial?_slot (name := Str.ofString "__next__") ty F.slot_dict_keyiterator_next (wpAny_call_entry F.slot_dict_keyiterator_next ty F.entry_dict_keyiterator_next (wpAny_bind (wpAny_pure (wpAny_bind (wpAny_bind ?_)))) (F.args_dict_keyiterator_next_1 _)))
  first | refine wpAny_bind (wpAny_typeNameOfWhole_keyiter ty (wpAny_pure (wpAny_bind (wpAny_fieldsOf e1 e3 ?_)))) | refine wpAny_bind (wpAny_typeNameOf_keyiter ty (wpAny_pure (wpAny_bind (wpAny_fieldsOf e1 e3 ?_))))
  simp only [own, Bool.false_eq_true, if_false]
  refine wpAny_ite_false rfl (wpAny_bind (wpAny_pure (wpAny_bind (wpAny_dictEntries d1 d3 ?_))))
  rw [if_neg (by simp)]
  refine wpAny_bind (wpAny_pure (wpAny_bind (wpAny_dictEpoch d1 d3 ?_)))
  rw [if_neg (by simp)]
  refine wpAny_pure ?_
  have n0 : ¬ ((i : Int) < 0) := by omega
  simp only [n0, if_false, Int.toNat_natCast, Array.getElem?_eq_none hi]
  refine wpAny_bind ?_
  first | refine wpAny_bind (wpAny_typeNameOfWhole_keyiter ty (wpAny_pure ?_)) | refine wpAny_bind (wpAny_typeNameOf_keyiter ty (wpAny_pure ?_))
  show wpAny _ _ (setField (.ref it) 0 .none >>= _) _ _ s
  refine wpAny_bind (wpAny_setField e1 e3 (by simp) ?_)
  show wpAny _ _ (newExc (.type "StopIteration") [] >>= _) _ _ _
  refine wpAny_bind ?_
  simp only [newExc, newTuple]
  refine wpAny_bind (wpAny_newObj_type (wpAny_bind (m := firstArgMember _ _) (wpAny_of_eq (a := Value.none) (by first | rfl | (simp only [firstArgMember]; rfl)) (wpAny_newObj_type ?_ (by size_fits)))) (by size_fits))
  simp only [raiseNew]
  refine wpAny_bind (wpAny_handled ?_)
  first | rw [show A.in1.handled = none from hh] | rw [hh]
  exact wpAny_bind (wpAny_pure (wpAny_throw (hE _ _ (((Heap.SameBut.update ..).extBut.push _).push _) ⟨_, Heap.get?_push_size _ rfl, rfl⟩)))
end
theorem draws_keys {P : Program} {w : World} {A : Around} (hh : A.handled = none) (it d : Addr) (hne : d ≠ it) (es : Array DictEntry) (ep : Nat) :
    Draws P w A it [it, d] es.size (fun i v => ∃ hi : i < es.size, v = es[i].key) (fun i h => h.IsKeyIter it d i es.size ep ∧ h.DictRaw d es ep) where
  live := fun _ _ st => let ⟨o, ho, _⟩ := st.1; ⟨o, ho⟩
  frame := fun _ _ _ st hk => ⟨let ⟨o, ho, r⟩ := st.1; ⟨o, hk it (by simp) o ho, r⟩, st.2.at fun o e => hk d (by simp) o e⟩
  item := fun i s Q E hi st hQ => next_key st.1 st.2 hi fun h' hit hs => hQ _ h' s.toks ⟨hi, rfl⟩ ⟨hit, st.2.at fun o e => hs.extBut d o hne e⟩ hs
  done := fun s Q E st hE => next_keyE hh st.1 st.2 (Nat.le_refl _) hE
theorem begins_keys (d : Addr) (es : Array DictEntry) (ep : Nat) (hd : (d == sysModules) = false) : Begins (.ref d) { cls := .type "dict_keyiterator", data := .fields #[.ref d, .int 0 0, .int es.size 0, .int ep 0] } fun h => h.DictRaw d es ep where
  iter := fun prog w A E s Q hm h => wpAny_pyIter_dict_raw hd hm h
  keeps := fun h h' x hk => x.at fun o e => hk d o e
  free := rfl
/-- the dict at d, locked: its keys -/
theorem src_keys {P : Program} {w : World} {K : PySem.W.Frag} {d it : Addr} {ob : Obj} {kvs : List (Key × V)} {ep : Nat} (hne : d ≠ it) (hep : ∃ es, ob.data = .dict es ep) :
    ESrc P w K (fun H => H d = some (.frz ob (.dK kvs))) (kvs.map fun kv => kV kv.1) d it (fun i h => h.IsKeyIter it d i kvs.length ep) where
  draws := by
    intro X hP hw hK hc pins s σ H I hs
    subst hP hw hK
    obtain ⟨h1, h2, h3, es, ep', vs, hdt, hsz, kv, hm⟩ := I.frzK hs
    obtain ⟨es', e'⟩ := hep
    obtain ⟨e1, e2⟩ := dict_ep hdt e'
    subst e1 e2
    have hl : kvs.length = vs.length := Paired.length kv
    have hz : es'.size = kvs.length := by rw [hsz]
    have D := draws_keys (P := X.prog) (w := X.w) (A := X.A.in1) (I.ok.hd hc) it d hne es' ep
    refine ⟨fun i v => ∃ hi : i < es'.size, v = es'[i].key, fun i h => h.IsKeyIter it d i es'.size ep ∧ h.DictRaw d es' ep, by rw [List.length_map, ← hz]; exact D, fun i h => ⟨by rw [hz]; exact h, ob, h2, h3, hdt⟩, fun i h' h => by rw [← hz]; exact h.1, fun i v x hv hx => ?_⟩
    obtain ⟨hi, rfl⟩ := hv
    rw [List.getElem?_map] at hx
    obtain ⟨p, hp, rfl⟩ := Option.map_eq_some_iff.mp hx
    obtain ⟨k, y⟩ := p
    obtain ⟨u, hu, _⟩ := kv_get kv hp
    obtain ⟨o2, es2, g2, _, dt2, _, pr, _⟩ := hm
    rw [h2] at g2
    cases g2
    obtain ⟨e3, _⟩ := dict_ep hdt dt2
    subst e3
    exact relV_key (show keyIs k es2[i].key = true from (pr.get? (e := es2[i]) (by simp [hi]) hu).1)
  obj := fun i h st => by
    obtain ⟨o, ho, hc, hd⟩ := st
    exact ⟨o, ho, fun v q => by rw [hd] at q; cases q⟩
  keep := fun i h h' st k => let ⟨o, ho, r⟩ := st; ⟨o, k o ho, r⟩
/-- enumerate(d), d a locked dict -/
def iEnumK (ta : TA) : TI := fun σ H R => ta σ H fun vs H1 => ∃ d ob kvs, vs = [.ref d] ∧ H1 d = some (.frz ob (.dK kvs)) ∧ R (ItE (fun H => H d = some (.frz ob (.dK kvs))) (kvs.map fun kv => kV kv.1)) H1
theorem pi_enumK {X : Cx} {e : Expr} {ta : TA} {p pos tpos : Pos} {elts : List Expr} {kk : Nat} (hg : Gl X "enumerate") (hm : X.mg "enumerate" = none) (ha : PA X [e] ta) (hs : starEach [e] X.env = [(false, eval e X.env)] := by rfl) :
    PI X (.Tuple elts kk tpos) (.Call (.Name "enumerate" p) [e] [] pos) (iEnumK ta) := by
  refine ⟨fun pins s σ H R I h => ?_⟩
  refine Call_ (ld_blt I hg hm boot_enumerate (PyProof.Rows.callWith_type1 (thn (ha.run pos pins s σ H _ I h) fun us s1 ⟨vs, H1, I1, r1, q1⟩ => ?_) hs rfl))
  obtain ⟨d, ob, kvs, ex, hq, q⟩ := q1
  subst ex
  cases r1 with
  | cons r rr =>
    cases rr
    cases r
    obtain ⟨h1, h2, h3, es, ep, ws, hdt, hsz, kv, _⟩ := I1.frzK hq
    have hld : d < s1.heap.objs.size := Heap.lt_size h2
    refine enum_begins1 (begins_keys d es ep h1) ⟨ob, h2, h3, hdt⟩ fun h' he hit _ hk => wpAny_pyIter_enum he ?_
    have I2 : Inv X pins σ H1 { s1 with heap := h' } := I1.kept (t' := s1.toks) hk
    refine ⟨s1.heap.objs.size + 1, [s1.heap.objs.size + 1, s1.heap.objs.size], _, _, H1, rfl, I2, turn_enumS (src_keys (d := d) (it := s1.heap.objs.size) (kvs := kvs) (Nat.ne_of_lt hld) ⟨es, hdt⟩) (Nat.succ_ne_self _) (Nat.ne_of_gt (Nat.lt_succ_of_lt hld)), ⟨⟨.none, he⟩, _, hit, rfl, by rw [hsz]; rfl⟩, fun b hb => ?_, q⟩
    have e' : b = s1.heap.objs.size + 1 ∨ b = s1.heap.objs.size := by simpa using hb
    have hle : s1.heap.objs.size ≤ b := by
      rcases e' with z | z
      · rw [z]; exact Nat.le_add_right _ _
      · rw [z]; exact Nat.le_refl _
    exact I1.fpOk hle (I1.hok.fresh hle)
end SR


set_option maxRecDepth 100000
set_option maxHeartbeats 4000000
namespace SR
open PySem PySem.Spec PyProof.Rows L2
/-! A def's promise where no repr is under way: what repr of lists and dicts asks. -/
structure FnG (P : Program) (w : World) (K : PySem.W.Frag) (mg : Str → Option Value) (base : Heap) (k : Nat) (f : Addr) (fd : FuncData) (ps : List Str) (sp : Sp) : Prop where
  len : ∀ vs H Q E, sp vs H Q E → vs.length = ps.length
  run : ∀ (A : Around) (outer : List Env) (s : Shared) (H : Hp) (args : Args) (us : List Value) (vs : List V) (Q : VK) (E : XK), Room k A → A.guards = some [] → Env0 P w K mg base A outer s H → BindsTo s fd args (ps.zip us) → Vals vs us → sp vs H Q E →
    codeAny (model P w) A (.call (.ref f) args) (CR CX0 outer P w H s Q E) s
theorem FnG.of {P : Program} {w : World} {K : PySem.W.Frag} {mg : Str → Option Value} {base : Heap} {k : Nat} {f : Addr} {fd : FuncData} {ps : List Str} {sp : Sp} (F : FnOk P w K mg base CX0 k f fd ps sp) : FnG P w K mg base k f fd ps sp :=
  ⟨F.len, fun A outer s H args us vs Q E hr _ => F.run A outer s H args us vs Q E hr⟩
theorem FnG.mono {P : Program} {w : World} {K : PySem.W.Frag} {mg : Str → Option Value} {base : Heap} {j k : Nat} {f : Addr} {fd : FuncData} {ps : List Str} {sp : Sp} (F : FnG P w K mg base j f fd ps sp) (h : j ≤ k) : FnG P w K mg base k f fd ps sp :=
  ⟨F.len, fun A outer s H args us vs Q E hr => F.run A outer s H args us vs Q E (hr.mono h)⟩
/-- a def by its body; hgd: no repr is under way -/
theorem okG {P : Program} {w : World} {K : PySem.W.Frag} {mg : Str → Option Value} {base : Heap} {x qual : Str} {st : Stmt} {f : Addr} {fd : FuncData} {N ps : List Str} {k : Nat} {sp : Sp} (F : Fun K x qual st f fd) (S : FnScope N ps (defScope st)) (len : ∀ vs H Q E, sp vs H Q E → vs.length = ps.length)
    (hbody : ∀ (cdv : Value) (A : Around) (outer : List Env) (s : Shared) (H : Hp) (vs : List V) (Q : VK) (E : XK), Room k (A.deeper (envOfC qual (defScope st) s.heap.objs.size f cdv)) → (A.deeper (envOfC qual (defScope st) s.heap.objs.size f cdv)).guards = some [] → sp vs H Q E →
      ∃ t, PSs (cxOf CX0 P w K mg base N qual (defScope st) f cdv A outer s H E).nox (defBody st) t ∧ t { nx := fun _ H' => Q .non H', rt := Q } (L2.start N vs) H) : FnG P w K mg base (k + 1) f fd ps sp := by
  obtain ⟨oc, od, kV, doc, pm, an, cdv, ct, osl, rfl, lk, hcd⟩ := F.ex
  refine ⟨len, fun A outer s H args us vs Q E hr hg e0 hb r hsp => ?_⟩
  have inK : K.In s.heap := e0.mod.kin.keeps fun b o e => (e0.bs b o e).1
  have noL : s.heap.NoLimit := e0.mod.nolimit.keeps fun b o e => (e0.bs b o e).1
  refine codeAny_call_function hr.depth (inK _ _ lk) rfl S.co S.gen rfl (PySem.W.codeRec_of inK hcd) (hb _ _ _ _ (wpAny_newFunctionEnv_cells S.kind ?_ ?_))
  · rintro ⟨n, v⟩ hy
    exact (S.par n (List.of_mem_zip hy).1).elim .inl fun q => .inr ⟨q, PySem.W.cellsFrom_some _ _ _ (.inl q)⟩
  · intro env he s1 new
    subst he
    obtain ⟨t, ht, hq⟩ := hbody cdv A outer s H vs Q E (hr.deeper _) hg hsp
    have I : Inv (cxOf CX0 P w K mg base N qual (defScope st) f cdv A outer s H E) [] (L2.start N vs) H s1 := inv_start S hr.hd e0 (len _ _ _ _ hsp) r new
    refine ⟨noL.keeps new.toInCall.keep, codeAny_func (wpAny_mono (ht.nox.run [] s1 (L2.start N vs) H _ I hq) (fun fl s' hs => ?_) fun e s' hs => hs)⟩
    cases fl with
    | ret u =>
      obtain ⟨v, σ', H', J, rv, q⟩ := hs
      exact ⟨v, H', J.os, J.bare, J.base, J.hok, rv, q⟩
    | next =>
      obtain ⟨σ', H', J, q⟩ := hs
      exact ⟨V.non, H', J.os, J.bare, J.base, J.hok, rfl, q⟩
    | brk => exact hs.elim fun _ z => z.elim fun _ z => z.2.elim
    | cont => exact hs.elim fun _ z => z.elim fun _ z => z.2.elim
section
variable {X : Cx} {k : Nat} {f : Addr} {fd : FuncData} {ps : List Str} {sp : Sp}
theorem run_fnG {pins : List (Addr × Obj)} {σ : L2.St} {H : Hp} {s : Shared} {Q : VK} {us : List Value} {vs : List V} (F : FnG X.prog X.w X.K X.mg X.base k f fd ps sp) (hr : Room k X.A) (hg : X.A.guards = some []) (hb : Binds X.K fd ps [])
    (I : Inv X pins σ H s) (r : Vals vs us) (h : sp vs H Q E0) : wpAny (model X.prog X.w) X.A (call (.ref f) us) (EP X pins σ Q) X.xe s := by
  have hl : us.length = ps.length := by rw [← r.length]; exact F.len _ _ _ _ h
  have b := hb s us I.kIn (by simpa using hl)
  rw [List.append_nil] at b
  refine wpAny_call (codeAny_mono (F.run X.A X.stack s H ⟨us, []⟩ us vs Q E0 hr hg I.env0 b r h) fun r s' hq => ?_)
  cases r with
  | error e => exact pass0 pins σ H s e s' I hq
  | ok fl =>
    cases fl with
    | ret u => exact I.after hq
    | next => exact False.elim hq
    | brk => exact False.elim hq
    | cont => exact False.elim hq
/-- a def of the top that may be called where no repr is under way -/
structure CalG (P : Program) (w : World) (K : PySem.W.Frag) (mg : Str → Option Value) (base : Heap) (x : Str) (k : Nat) (ps : List Str) (sp : Sp) : Prop where
  ex : ∃ f fd, FnG P w K mg base k f fd ps sp ∧ mg x = some (.ref f) ∧ PySem.W.keepIn K (.ref f) = true ∧ Binds K fd ps []
theorem pe_calG {x : Str} {e : Expr} {es : List Expr} {t : TA} {p pos : Pos} (C : CalG X.prog X.w X.K X.mg X.base x k ps sp) (hr : Room k X.A) (hgd : X.A.guards = some []) (ha : PA X (e :: es) t) (hg : Gl X x := by rfl) (hdb : (x == ("__debug__" : Str)) = false := by decide)
    (he : starEach (e :: es) X.env = (false, eval e X.env) :: starEach es X.env := by rfl) (hpl : (backTo pos (starEach es X.env)).any (·.1) = false := by rfl) : PE X (.Call (.Name x p) (e :: es) [] pos) (tCall sp [] E0 t) := by
  obtain ⟨f, fd, F, m, kp, b⟩ := C.ex
  refine ⟨fun pins s σ H Q I h => wpAny_Call_Name_kw (ld_glob I hg m (PySem.W.callWith_K (h₀ := X.base) I.ok.mod.kin kp (thn (ha.run pos pins s σ H _ I h) fun us s1 ⟨vs, H1, I1, r, q⟩ => ⟨I1.kIn, ?_⟩) he hpl) hdb)⟩
  have q' : sp (vs ++ []) H1 Q E0 := q
  rw [List.append_nil] at q'
  exact run_fnG F hr hgd b I1 r q'
/-! ### repr of data: None, flags, ints, texts, lists, tuples -/
def rReprD (K : PySem.W.Frag) : List V → Hp → VK → Prop := fun xs H Q => ∃ a d, xs = [.ref a] ∧ Dp K H (.ref a) d ∧ d.showable = true ∧ d.hasDict = false ∧ d.depth ≤ 64 ∧ d.shown.length ≤ sizeLine ∧ Q (.str d.shown) H
theorem call_reprD (hgd : X.A.guards = some []) (hu : X.A.units + 65 < cLine) : CallR X (.builtin "repr") (rReprD X.K) := by
  intro pins s σ H xs us Q I r h
  obtain ⟨a, d, rfl, hd, hs, hn, hdp, hz, q⟩ := h
  obtain ⟨u, rfl, rx⟩ := vals1 r
  obtain ⟨as, rd⟩ := Dp.reads I d _ u hd rx
  obtain rfl : u = Value.ref a := rx
  refine repr_of_reads' rd hs (fun z => by rw [hn] at z; cases z) hgd (by omega) (fun _ _ e => e) (fun h' t tk k => ?_) hz
  exact ⟨.str d.shown, H, I.kept (t' := tk) k, ⟨t, rfl⟩, q⟩
end
end SR

set_option maxRecDepth 100000
set_option maxHeartbeats 4000000
namespace SR
open PySem PySem.Spec PyProof.Rows L2
/-- the law's call, its promise given where no repr is under way -/
theorem law_callG {P : Program} {w : World} {K : PySem.W.Frag} {mg mb : Str → Option Value} {k : Nat} {fa a : Addr} {fd : FuncData} {x : Str} {sp : Sp} {s1 : Shared} {vs : List Value} {ns : List Int}
    (KX : K.In s1.heap) (gns : s1.heap.Ns mainGlobals mg) (bns : s1.heap.Ns builtinsNs mb) (bis : ∀ x : Str, x ≠ "__name__" → mb x = bootBuiltins x) (lim : s1.heap.NoLimit) (g0 : s1.gens = #[])
    (ha : s1.heap.get? a = some { cls := .type "list", data := .seq vs.toArray }) (hi : IntsAre vs ns) (hl : ns.length ≤ sizeLine) (hr : Room k callerA)
    (F : ∀ base : Heap, K.In base → base.Ns mainGlobals mg → FnG P w K mg base k fa fd [x] sp) (hbind : ∀ (s : Shared) (u : Value), BindsTo s fd ⟨[u], []⟩ [(x, u)])
    (hsp : ∀ H : Hp, SqL K H a (ns.map V.int) → sp [.ref a] H (fun v _ => v = .bl true) E0) :
    codeAny (model P w) callerA (.call (.ref fa) ⟨[.ref a], []⟩) (fun r s' => r = .ok (.ret (.bool true)) ∧ OldK s1.heap s'.heap ∧ s'.os = s1.os ∧ AllBare s'.gens) s1 := by
  have core : ∀ H : Hp, SqL K H a (ns.map V.int) → HOk P w H s1.heap → (∀ b u, H b = some u → b = a ∧ K.lookup a = none ∧ ∃ ob xs, u = .frz ob (.lst xs)) →
      codeAny (model P w) callerA (.call (.ref fa) ⟨[.ref a], []⟩) (fun r s' => r = .ok (.ret (.bool true)) ∧ OldK s1.heap s'.heap ∧ s'.os = s1.os ∧ AllBare s'.gens) s1 := by
    intro H hS ok only
    have free : ∀ {b : Addr} {o : Obj}, s1.heap.get? b = some o → (b = a → False) → (hidT s1.heap H).get? b = some o := fun {b o} e n => hidT_get e (by
      cases z : H b with
      | none => rfl
      | some u => exact (n (only b u z).1).elim)
    have notD : ∀ {b : Addr} {o : Obj} {es : Array DictEntry} {ep : Nat}, s1.heap.get? b = some o → o.data = .dict es ep → b = a → False := fun {b o es ep} e d z => by
      subst z
      rw [ha] at e
      cases e
      cases d
    have ns' : ∀ {b : Addr} {m : Str → Option Value}, s1.heap.Ns b m → (hidT s1.heap H).Ns b m := fun {b m} ⟨o, es, ep, e, d, r⟩ => ⟨o, es, ep, free e (notD e d), d, r⟩
    have kin : K.In (hidT s1.heap H) := fun b o e => hidT_get (KX b o e) (by
      cases z : H b with
      | none => rfl
      | some u =>
        obtain ⟨z1, z2, _⟩ := only b u z
        rw [z1, z2] at e
        cases e)
    have md : Mod K mg (hidT s1.heap H) := ⟨kin, ns' gns, ⟨mb, ns' bns, bis⟩, let ⟨mc, h1, h2⟩ := lim; ⟨mc, ns' h1, h2⟩⟩
    have en : Env0 P w K mg (hidT s1.heap H) callerA [] s1 H := ⟨rfl, md, fun b o e => of_hidT e, Nat.le_of_eq (hidT_size _ _), trivial, fun b hb => absurd (show b ∈ ([] : List Addr) from hb) (by simp), ok, .of_eq g0⟩
    refine codeAny_mono ((F _ kin (ns' gns)).run callerA [] s1 H ⟨[.ref a], []⟩ [.ref a] [.ref a] _ _ hr rfl en (hbind s1 (.ref a)) (.cons rfl .nil) (hsp H hS)) fun r s' h => ?_
    cases r with
    | error e => exact False.elim h
    | ok fl =>
      cases fl with
      | next => exact False.elim h
      | brk => exact False.elim h
      | cont => exact False.elim h
      | ret u =>
        obtain ⟨v, H', os, bare, un, ok', rel, q⟩ := h
        obtain rfl : v = .bl true := q
        obtain rfl : u = Value.bool true := rel
        refine ⟨rfl, OldK.of_keep fun b o e => ?_, os, bare⟩
        cases z : H b with
        | none => exact un.keep b o e z (by intro z; exact absurd (show b ∈ ([] : List Addr) from z) (by simp)) (by simp)
        | some u =>
          obtain ⟨_, _, ob, xs, rfl⟩ := only b u z
          obtain ⟨e1, _⟩ := ok b _ z
          obtain ⟨e2, _⟩ := ok' b _ (un.frzs b ob _ z)
          rw [e] at e1
          cases e1
          exact e2
  have rv := vals_ints hi
  cases hk : K.lookup a with
  | some o =>
    have e := KX a o hk
    rw [ha] at e
    cases e
    exact core (fun _ => none) (.inr ⟨_, vs.toArray, _, hk, rfl, rfl, rfl, by rw [List.size_toArray, hi.length]; exact hl, by simpa using rv⟩) (fun b u z => nomatch z) (fun b u z => nomatch z)
  | none =>
    refine core (fun b => if b = a then some (.frz { cls := .type "list", data := .seq vs.toArray } (.lst (ns.map V.int))) else none) (.inl (.inr ⟨_, if_pos rfl⟩)) (fun b u z => ?_) (fun b u z => ?_)
    · revert z
      show (if b = a then some _ else none) = some u → _
      split
      · rename_i hb
        subst hb
        rintro ⟨⟩
        exact ⟨ha, by rw [List.length_map]; exact hl, vs, _, rv, ha⟩
      · rintro ⟨⟩
    · revert z
      show (if b = a then some _ else none) = some u → _
      split
      · rename_i hb
        rintro ⟨⟩
        exact ⟨hb, hk, _, _, rfl⟩
      · rintro ⟨⟩
theorem walk_ofG {l : PySem.W.OpenLaw} {n k : Nat} {q : Program} {loose : List Str} {XP : (Str → Option Value) → Heap → Prop} {YP : World → Heap → Prop} {d : DefRec} {K : Params → PySem.W.Frag} {sp : World → Sp} {x : Str}
    (hn : l.most = some n) (hn2 : n ≤ sizeLine) (hdf : d.params.defaults = []) (hr : Room k callerA) (hY : ∀ (w : World) (h : Heap), YP w h → (K w.params).In h)
    (F : ∀ (w : World) (mg : Str → Option Value) (fa : Addr) (h : Heap), (K w.params).In h → h.Ns mainGlobals mg → mg d.name = some (.ref fa) → ∃ fd : FuncData, (∀ (s : Shared) (u : Value), BindsTo s fd ⟨[u], []⟩ [(x, u)]) ∧
      ∀ base : Heap, (K w.params).In base → base.Ns mainGlobals mg → FnG l.prog w (K w.params) mg base k fa fd [x] (sp w))
    (hsp : ∀ (w : World) (H : Hp) (a : Addr) (ns : List Int), ns.length ≤ n → SqL (K w.params) H a (ns.map V.int) → sp w [.ref a] H (fun v _ => v = .bl true) E0) :
    PySem.W.WalkO q loose XP YP l.row.toRowW d [] (fun f vs => PySem.call f vs) := by
  refine Att.attach_call hn hdf fun w s0 s1 mg mb fa o pm cd doc a vs ns G Y ho hd hcd hmg hobj hints hlen hg => ?_
  obtain ⟨fd, hb, hF⟩ := F w mg fa _ (hY w _ Y) G.T.g hmg
  exact law_callG (hY w _ Y) G.T.g G.T.b G.T.builtins G.T.nolimit hg hobj hints (Nat.le_trans hlen hn2) hr hF hb fun H hS => hsp w H a ns hlen hS
end SR

set_option maxRecDepth 100000
set_option maxHeartbeats 4000000
/-! a generator's body: if, for -/
namespace SR
open PySem PySem.Spec PyProof.Rows L2 GenW

section
variable {X : Cx} {st : Stmt} {rest : List Stmt}
def tGIf (tc : TT) (tb te : TGn) : TGn := fun D ys σ H => tc σ H fun b H1 => if b = true then tb D ys σ H1 else te D ys σ H1
theorem gs_if {test : Expr} {body orelse : List Stmt} {pos : Pos} {tc : TT} {tb te : TGn} (hc : PT X test tc) (hb : GSs X body tb) (he : GSs X orelse te) : GS X (.If test body orelse pos) (tGIf tc tb te) := by
  refine ⟨fun A S ip R n ys s₀ c fs K J gd lv s σ H D g hn k hI ht => ?_⟩
  obtain ⟨acc, cc, r, I⟩ := hI
  rw [exec_If]
  refine seg_bind_wrap (wpAny_standAt ?_)
  refine seg_bind_wrap ?_
  rw [g.over]
  refine wpAny_mono (hc.run _ s σ H _ I ht) (fun b s' hb' => ?_) fun x s' hx => k.exc n s₀ x s' hx
  obtain ⟨H2, I2, q2⟩ := hb'
  cases b with
  | true =>
    rw [if_pos rfl] at q2 ⊢
    exact hb.run A S ip R n ys s₀ c fs K J gd lv s' σ H2 D g hn k ⟨acc, cc, r, I2⟩ q2
  | false =>
    rw [if_neg Bool.false_ne_true] at q2 ⊢
    exact he.run A S ip R n ys s₀ c fs K J gd lv s' σ H2 D g hn k ⟨acc, cc, r, I2⟩ q2

/-! ### for -/
def tGFor (wi : TI) (g : TG) (tb : TGn) : TGn := fun D ys σ H => wi σ H fun J H1 => ∃ W : Nat → Nat → List V → L2.St → Hp → Prop, (∃ m, W 0 m ys σ H1) ∧ ∀ i m ys σ H, W i m ys σ H →
  (J.stop i H ∧ D.nx ys σ H) ∨ (J.go i H ∧ ∃ N : List V → L2.St → Hp → Prop, (∀ ys' σ' H', N ys' σ' H' → ∃ m', m' < m ∧ W (i + 1) m' ys' σ' H') ∧ ∀ x H', J.yld i H x H' → g x σ H' fun σ2 H2 => tb { D with nx := N, ct := N, bk := D.nx } ys σ2 H2)
theorem seg_For {M : Model} {A : Around} {R : GenEnd} {Y : Protocol} {n : Nat} {s₀ : Shared} {c : Code} {fs : List Frame} {s : Shared} {env : Env} {K : Flow → Sem PySem.Fin} {J : Value → Sem PySem.Fin} {gd : Bool → Bool} {lv : List Value → List Value} {tg iter : Expr} {body orelse : List Stmt} {pos : Pos}
    (h : wpAny M (A.over c fs) (eval iter env) (fun x s1 => wpAny M (A.over c fs) (pyIter x) (fun it s2 => ∀ p, Seg M A R Y n s₀ (.forLoop tg it body orelse env) (M.den (.forLoop tg it body orelse env))
      (.ret (fun r => ((match r with | .ok f => (.pure f : Sem Flow) | .error e => .raise e).onRaise (cameBack env)).wrap K J gd lv) none (gd false) (lv []) c p [] :: fs) s2) (fun x s' => Seg M A R Y n s₀ c (J x) fs s') s1) (fun x s' => Seg M A R Y n s₀ c (J x) fs s') s)
    (hs : ∀ x, foldedSetIterable iter env x = pure x := by intro _; rfl) :
    Seg M A R Y n s₀ c ((exec (.For tg iter body orelse pos) env).wrap K J gd lv) fs s := by
  rw [exec_For]
  refine seg_bind_wrap (wpAny_standAt ?_)
  refine seg_bind_wrap (wpAny_mono h (fun x s1 h1 => ?_) fun x s' hx => hx)
  refine seg_bind_wrap (wpAny_of_eq (hs x) ?_)
  refine seg_bind_wrap (wpAny_standAt ?_)
  refine seg_bind_wrap (wpAny_holding (wpAny_mono h1 (fun it s2 h2 => ?_) fun x s' hx => hx))
  exact seg_call h2
theorem gs_for {tg iter : Expr} {body : List Stmt} {wi : TI} {g : TG} {tb : TGn} {pos : Pos} (hp : PassesOwn (model X.prog X.w) X.A X.env X.xe) (hc : X.calm = true) (hi : PI X tg iter wi) (hg : PG X tg g) (hb : GSs X body tb)
    (hs : ∀ x, foldedSetIterable iter X.env x = pure x := by intro _; rfl) : GS X (.For tg iter body [] pos) (tGFor wi g tb) := by
  refine ⟨fun A S ip R n ys s₀ c fs K J gd lv s σ H D gc hn k hI ht => ?_⟩
  obtain ⟨acc, cc, r, I⟩ := hI
  refine seg_For ?_ hs
  rw [gc.over]
  refine wpAny_mono (hi.run _ s σ H _ I ht) (fun v s1 h1 => wpAny_mono h1 (fun itv s2 h2 => ?_) fun x s' hx => k.exc n s₀ x s' hx) fun x s' hx => k.exc n s₀ x s' hx
  obtain ⟨it, fp, tn, Jt, H2, e, I2, T, st2, f2, W, ⟨m0, w0⟩, turn⟩ := h2
  subst e
  intro p
  have fS : ∀ b ∈ fp, b ≠ S := fun b hb z => (f2 b hb).2.2.2.2.2 (S, lstObj acc cc) (List.mem_append_right _ List.mem_cons_self) z.symm
  have stat : ∀ {H' : Hp} {acc' : Array Value} {c' : Nat}, (∀ b ∈ fp, H' b = none) → ∀ b ∈ fp, FpOk X ((S, lstObj acc' c') :: ip) H' b := fun {H' acc' c'} hn b hb => by
    obtain ⟨_, q1, q2, q3, q4, q5⟩ := f2 b hb
    refine ⟨hn b hb, q1, q2, q3, q4, fun p hp => ?_⟩
    rcases List.mem_append.mp hp with z | z
    · exact q5 p (List.mem_append_left _ z)
    · rcases List.mem_cons.mp z with z | z
      · rw [z]; exact fun y => fS b hb y.symm
      · exact q5 p (List.mem_append_right _ (List.mem_cons_of_mem _ z))
  have gl : ∀ (c' : Code) (kk : Result → Sem PySem.Fin), c'.weight = 0 → c'.cUnits = 0 → GC X S ip A c' (.ret kk none (gd false) (lv []) c p [] :: fs) id := fun c' kk h1 h2 => gc_loop (k := kk) (c' := c') (l := lv []) (kp := []) (p := p) gc h1 h2
  have gi : ∀ {ys : List V} {σ' : L2.St} {H' : Hp} {s' : Shared}, GI X S ip ys σ' H' s' → GI X S ip ys σ' H' s' := fun h => h
  have loop : ∀ (m i n : Nat) (ys : List V) (s₀ s : Shared) (σ : L2.St) (H : Hp), n + ys.length = sizeLine → W i m ys σ H → GI X S ip ys σ H s → tn i s.heap → (∀ b ∈ fp, H b = none) →
      Seg (model X.prog X.w) A R (GY X S) n s₀ (.forLoop tg (.ref it) body [] X.env) ((model X.prog X.w).den (.forLoop tg (.ref it) body [] X.env))
        (.ret (fun r => ((match r with | .ok f => (.pure f : Sem Flow) | .error e => .raise e).onRaise (cameBack X.env)).wrap K J gd lv) none (gd false) (lv []) c p [] :: fs) s := by
    intro m
    induction m using Nat.strongRecOn with
    | ind m ih =>
      intro i n ys s₀ s σ H hn w hI st3 fr3
      have ee : ∀ (n : Nat) (s₀ : Shared) (x : Value) (s' : Shared), X.xe x s' → Seg (model X.prog X.w) A R (GY X S) n s₀ (.forLoop tg (.ref it) body [] X.env)
          ((do noteFrame x X.env; theTreesLotGoes x : Sem Unit).bind (fun _ => .raise x))
          (.ret (fun r => ((match r with | .ok f => (.pure f : Sem Flow) | .error e => .raise e).onRaise (cameBack X.env)).wrap K J gd lv) none (gd false) (lv []) c p [] :: fs) s' := fun n s₀ x s' hx => by
        rw [Sem.bind_eq_wrap]
        refine seg_wrap ?_
        rw [(gl _ _ rfl rfl).over]
        refine wpAny_bind (wpAny_mono (hp x s' hx) (fun _ s'' hcb => wpAny_theTreesLotGoes ?_) fun y s'' hcb => ?_)
        · exact seg_leaf (.error x) (seg_cameBack gc k hcb)
        · exact seg_leaf (.error y) (seg_cameBack gc k hcb)
      show Seg _ A R _ n s₀ _ ((forTurn tg (.ref it) body [] X.env).onRaise (fun x => do noteFrame x X.env; theTreesLotGoes x)) _ s
      rw [Sem.onRaise_eq_wrap]
      unfold forTurn
      refine seg_bind_wrap (wpAny_standAt ?_)
      obtain ⟨acc3, c3, r3, I3⟩ := hI
      rcases turn i m ys σ H w with ⟨stop, qn⟩ | ⟨go, N, hN, step⟩
      · refine seg_bind_wrap (wpAny_onRaise ?_)
        rw [(gl _ _ rfl rfl).over]
        refine wpAny_mono (T.done X rfl rfl rfl hc i _ s σ H X.xe I3 (stat fr3) st3 stop) (fun rr s4 ⟨hr, I4⟩ => ?_) fun x s' hx => wpAny_standAt (ee n s₀ x s' hx)
        subst hr
        show Seg _ A R _ n s₀ _ (.pure (.again (.block [] X.env))) _ s4
        refine seg_again rfl ?_
        show Seg _ A R _ n s₀ _ ((execs [] X.env >>= fun f => pure (.done f))) _ s4
        refine seg_bind (wpAny_execs_nil ?_)
        exact seg_leaf (.ok .next) (k.ok n ys s₀ s4 .next hn ⟨σ, H, ⟨acc3, c3, r3, I4⟩, qn⟩)
      · refine seg_bind_wrap (wpAny_onRaise ?_)
        rw [(gl _ _ rfl rfl).over]
        refine wpAny_mono (T.item X rfl rfl rfl hc i _ s σ H X.xe I3 (stat fr3) st3 go) (fun rr s4 ⟨u, hr, h4⟩ => ?_) fun x s' hx => wpAny_standAt (ee n s₀ x s' hx)
        subst hr
        refine seg_bind_wrap ?_
        rw [(gl _ _ rfl rfl).over]
        refine wpAny_mono h4 (fun _ s5 ⟨x, H5, I5, r5, y5, st5, fr5⟩ => ?_) fun x s' hx => ee n s₀ x s' hx
        have I5' := I5.pinned (stat fr5) (T.obj _ _ st5)
        refine seg_bind_wrap ?_
        rw [(gl _ _ rfl rfl).over]
        refine wpAny_mono (hg.run _ s5 σ H5 x u _ I5' r5 (step x H5 y5)) (fun _ s6 ⟨σ6, H6, I6, q6⟩ => ?_) fun x s' hx => ee n s₀ x s' hx
        rw [Sem.bind_eq_wrap', Sem.wrap_wrap]
        refine hb.run A S (ip ++ pinsAt fp s5.heap) R n ys s₀ _ _ _ _ _ _ s6 σ6 H6 { D with nx := N, ct := N, bk := D.nx } ?_ hn ⟨fun n' ys' s₀' s7 f hn' hs7 => ?_, fun n' s₀' x s7 hx => ee n' s₀' x s7 hx⟩ ⟨acc3, c3, r3, I6⟩ q6
        · have gl' := gl (.forLoop tg (.ref it) body [] X.env) (fun r => ((match r with | .ok f => (.pure f : Sem Flow) | .error e => .raise e).onRaise (cameBack X.env)).wrap K J gd lv) rfl rfl
          refine ⟨gl'.pn, fun q hq => ?_, gl'.apart, gl'.over, gl'.split, gl'.guard, rfl⟩
          rcases List.mem_append.mp hq with z | z
          · exact gl'.ip q z
          · exact fS _ (of_pinsAt z).1
        · have again : ∀ {σ7 : L2.St} {H7 : Hp}, GI X S (ip ++ pinsAt fp s5.heap) ys' σ7 H7 s7 → N ys' σ7 H7 → Seg (model X.prog X.w) A R (GY X S) n' s₀' (.forLoop tg (.ref it) body [] X.env) (.pure (.again (.forLoop tg (.ref it) body [] X.env)))
              (.ret (fun r => ((match r with | .ok f => (.pure f : Sem Flow) | .error e => .raise e).onRaise (cameBack X.env)).wrap K J gd lv) none (gd false) (lv []) c p [] :: fs) s7 := fun {σ7 H7} hI7 n7 => by
            obtain ⟨acc7, c7, r7, I7⟩ := hI7
            obtain ⟨m', hm, w7⟩ := hN ys' σ7 H7 n7
            have I7' : Inv X (((S, lstObj acc7 c7) :: ip) ++ pinsAt fp s5.heap) σ7 H7 s7 := I7
            refine seg_again rfl (ih m' hm (i + 1) n' ys' s₀' s7 σ7 H7 hn' w7 ⟨acc7, c7, r7, I7'.unpinned⟩ (T.keep _ _ _ st5 fun b hb o e => (I7'.pin (b, o) (List.mem_append_right _ (List.mem_append_right _ (mem_pinsAt hb e)))).1) fun b hb => ?_)
            obtain ⟨o, e, d⟩ := T.obj _ _ st5 b hb
            exact (I7'.pin (b, o) (List.mem_append_right _ (List.mem_append_right _ (mem_pinsAt hb e)))).2.1
          have un : ∀ {σ7 : L2.St} {H7 : Hp}, GI X S (ip ++ pinsAt fp s5.heap) ys' σ7 H7 s7 → GI X S ip ys' σ7 H7 s7 := fun {σ7 H7} hI7 => by
            obtain ⟨acc7, c7, r7, I7⟩ := hI7
            have I7' : Inv X (((S, lstObj acc7 c7) :: ip) ++ pinsAt fp s5.heap) σ7 H7 s7 := I7
            exact ⟨acc7, c7, r7, I7'.unpinned⟩
          cases f with
          | next => obtain ⟨σ7, H7, I7, n7⟩ := hs7; exact again I7 n7
          | cont => obtain ⟨σ7, H7, I7, n7⟩ := hs7; exact again I7 n7
          | brk => obtain ⟨σ7, H7, I7, q7⟩ := hs7; exact seg_leaf (.ok .next) (k.ok n' ys' s₀' s7 .next hn' ⟨σ7, H7, un I7, q7⟩)
          | ret v => obtain ⟨x7, σ7, H7, I7, r7, q7⟩ := hs7; exact seg_leaf (.ok (.ret v)) (k.ok n' ys' s₀' s7 (.ret v) hn' ⟨x7, σ7, H7, un I7, r7, q7⟩)
  exact loop m0 0 n ys s₀ s2 σ H2 hn w0 ⟨acc, cc, r, I2⟩ st2 fun b hb => (f2 b hb).1
/-- a cut: what stands between two statements -/
def tGCut (t u : TGn) : TGn := fun D ys σ H => ∃ N : List V → L2.St → Hp → Prop, t { D with nx := N } ys σ H ∧ ∀ ys' σ' H', N ys' σ' H' → u D ys' σ' H'
theorem gss_cut {t u : TGn} (a : GS X st t) (b : GSs X rest u) : GSs X (st :: rest) (tGCut t u) := by
  refine ⟨fun A S ip R n ys s₀ c fs K J gd lv s σ H D g hn k hI ht => ?_⟩
  obtain ⟨N, ht, hN⟩ := ht
  refine seg_execs_cons ?_
  refine a.run A S ip R n ys s₀ c fs _ J gd lv s σ H { D with nx := N } g hn ⟨fun n' ys' s₀' s' f hn' hs => ?_, k.exc⟩ hI ht
  cases f with
  | next =>
    obtain ⟨σ', H', I', q⟩ := hs
    exact b.run A S ip R n' ys' s₀' c fs K J gd lv s' σ' H' D g hn' k I' (hN _ _ _ q)
  | brk => exact k.ok n' ys' s₀' s' .brk hn' hs
  | cont => exact k.ok n' ys' s₀' s' .cont hn' hs
  | ret u => exact k.ok n' ys' s₀' s' (.ret u) hn' hs
theorem gss_one {t : TGn} (a : GS X st t) : GSs X [st] (tGThen t tG0) := gss_cons a gss_nil
/-- a generator's for over anything that is walked -/
theorem gfor_it {J : It} {n : Nat} {G : Hp → Prop} {Y : Nat → Hp → V → Hp → Prop} (w : Walk J n G Y) {g : TG} {tb : TGn} {D : GEnds} {ys : List V} {σ : L2.St} {H : Hp} (Pv : Nat → List V → L2.St → Hp → Prop) (h0 : Pv 0 ys σ H) (hG : ∀ i ys σ H, i ≤ n → Pv i ys σ H → G H)
    (hs : ∀ i x ys σ H H', i < n → Pv i ys σ H → Y i H x H' → g x σ H' fun σ2 H2 => tb { D with nx := Pv (i + 1), ct := Pv (i + 1), bk := D.nx } ys σ2 H2) (hd : ∀ ys σ H, Pv n ys σ H → D.nx ys σ H) :
    ∃ W : Nat → Nat → List V → L2.St → Hp → Prop, (∃ m, W 0 m ys σ H) ∧ ∀ i m ys σ H, W i m ys σ H →
      (J.stop i H ∧ D.nx ys σ H) ∨ (J.go i H ∧ ∃ N : List V → L2.St → Hp → Prop, (∀ ys' σ' H', N ys' σ' H' → ∃ m', m' < m ∧ W (i + 1) m' ys' σ' H') ∧ ∀ x H', J.yld i H x H' → g x σ H' fun σ2 H2 => tb { D with nx := N, ct := N, bk := D.nx } ys σ2 H2) := by
  refine ⟨fun i m ys σ H => m = n - i ∧ i ≤ n ∧ Pv i ys σ H, ⟨n, by simp, Nat.zero_le _, h0⟩, ?_⟩
  rintro i m ys σ H ⟨rfl, hi, p⟩
  have q := hG i ys σ H hi p
  by_cases hlt : i < n
  · exact .inr ⟨w.goes i H hlt q, Pv (i + 1), fun ys' σ' H' p' => ⟨n - (i + 1), by omega, rfl, hlt, p'⟩, fun x H' y => hs i x ys σ H H' hlt p (w.yields i H x H' hlt q y)⟩
  · have e : i = n := by omega
    subst e
    exact .inl ⟨w.stops H q, hd ys σ H p⟩
theorem passG0 : Passes (CX X.prog X.w) X E0 := fun _ _ _ _ _ _ _ h => by
  obtain ⟨a, B, H', cls, d, z1, fl, z2, ub, z3, z4, z5, z6⟩ := h
  exact z6.elim
theorem noStop0 {K : PySem.W.Frag} : NoStop K E0 := fun _ _ _ h => h.elim
end
section
variable {P : Program} {w : World} {K : PySem.W.Frag} {mg : Str → Option Value} {base : Heap}
/-- a generator def by its body -/
theorem _root_.L2.Fun.gen {x qual : Str} {st : Stmt} {f : Addr} {fd : FuncData} {N ps : List Str} {k : Nat} {sp : SpG} (F : Fun K x qual st f fd) (S : GScope N ps (defScope st)) (len : ∀ vs H Q E, sp vs H Q E → vs.length = ps.length)
    (hbody : ∀ (cdv : Value) (A : Around) (outer : List Env) (s : Shared) (H : Hp) (vs : List V) (Q : List V → Hp → Prop) (E : XK) (pn : List (Addr × Obj)), Room k (A.deeper (envOfC qual (defScope st) s.heap.objs.size f cdv)) → sp vs H Q E →
      ∃ t, GSs (gcxOf P w K mg base N qual (defScope st) f cdv A outer s H E pn) (defBody st) t ∧ t { nx := fun ys _ H' => Q ys H', rt := fun ys v H' => v = .non ∧ Q ys H' } [] (start N vs) H) : GFn P w K mg base (k + 1) f fd ps sp := by
  obtain ⟨oc, od, kV, doc, pm, an, cdv, ct, osl, rfl, lk, hcd⟩ := F.ex
  exact gfn_of lk hcd S len fun A outer s H vs Q E pn hr hsp => hbody cdv A outer s H vs Q E pn hr hsp
end
section
variable {X : Cx} {k : Nat} {f : Addr} {fd : FuncData} {ps ks : List Str} {sp : SpG} {x : Str} {p pos' : Pos}
/-- f(k=v, ..) of a generator def -/
def tCallGK0 (sp : SpG) (n : Nat) (gV : List V → List V → List V) (E : XK) (tk : TA) : TGen := fun σ H cont => tk σ H fun zs H1 => zs.length = n ∧ sp (gV [] zs) H1 cont E
theorem pgen_callK0 {E : XK} {kws : List Keyword} {tk : TA} {g : List Value → List Value → List Value} {gV : List V → List V → List V} (F : GFn X.prog X.w X.K X.mg X.base k f fd ps sp) (hr : Room k X.A) (hg : Gl X x) (hm : X.mg x = some (.ref f)) (hk : PySem.W.keepIn X.K (.ref f) = true) (hb : KBn X.K fd ps 0 ks g gV) (hkw : PK X kws tk)
    (hall : (backToKw pos' (keywordEach kws X.env)).all (·.1.isSome) = true := by rfl) (hks : (backToKw pos' (keywordEach kws X.env)).filterMap (·.1) = ks := by rfl) (hdb : (x == ("__debug__" : Str)) = false := by decide)
    (hpl : ((backTo pos' (starEach [] X.env)).any (·.1) || (backToKw pos' (keywordEach kws X.env)).any (·.1.isNone)) = false := by rfl) :
    PGen X k (.Call (.Name x p) [] kws pos') (tCallGK0 sp ks.length gV E tk) E := by
  refine ⟨fun pins s σ H cont I h => ?_⟩
  refine wpAny_Call_Name_kw (ld_glob I hg hm ?_ hdb)
  refine PySem.W.callWith_KW0 (h₀ := X.base) I.ok.mod.kin hk hall ?_ hpl
  refine thn (hkw.run pos' pins s σ H _ I h) fun ws s2 ⟨zs, H2, I2, rz, l2, q2⟩ => ⟨I2.kIn, ?_⟩
  rw [hks]
  refine wpAny_call (codeAny_mono (F.run X.A X.stack s2 H2 ⟨[] ++ [], ks.zip ws⟩ (g [] ws) (gV [] zs) cont E hr I2.env0 (hb.to _ [] ws I2.kIn rfl (rz.length.symm.trans l2)) (hb.rel .nil rz) q2) fun r s' hq => ?_)
  cases r with
  | error e => exact False.elim hq
  | ok fl =>
    cases fl with
    | ret u => exact ⟨H2, s2, [], I2, .nil, hq⟩
    | next => exact False.elim hq
    | brk => exact False.elim hq
    | cont => exact False.elim hq
end
end SR

set_option maxRecDepth 100000
set_option maxHeartbeats 4000000
namespace L2
open PySem PySem.Spec PyProof.Rows
section
variable {X : Cx}
/-- [elt for t1 in it1 if .. for t2 in it2 if ..], the inner one over a dict (locked in its turn) -/
def tLc2L (wi : TI) (g : TG) (tt : TT) (wi2 : TI) (g2 : TG) (tt2 : TT) (te : TE) (vs vs2 : List Nat) : TE := fun σ H Q => wi σ H fun J H1 => ∀ D, H1 D = none → ∃ W : Nat → Nat → Hp → Prop, (∃ m, W 0 m (upd H1 D (.lst []))) ∧ ∀ i m H, W i m H →
  (J.stop i H ∧ Q (.ref D) H) ∨ (J.go i H ∧ ∃ Nx : Hp → Prop, (∀ H', Nx H' → ∃ m', m' < m ∧ W (i + 1) m' H') ∧ ∀ x H', J.yld i H x H' → g x (wipe σ vs) H' fun σ2 H2 => wipe σ2 vs = wipe σ vs ∧ tt σ2 H2 fun b H3 =>
    if b = true then (∃ d u, H3 d = some u ∧ Mut (some u) ∧ ∀ od, wi2 σ2 (upd H3 d (.frz od u)) fun J2 H4 => ∃ W2 : Nat → Nat → Hp → Prop, (∃ m, W2 0 m H4) ∧ ∀ j m H5, W2 j m H5 →
      (J2.stop j H5 ∧ H5 d = some (.frz od u) ∧ Nx (upd H5 d u)) ∨ (J2.go j H5 ∧ ∃ N2 : Hp → Prop, (∀ H', N2 H' → ∃ m', m' < m ∧ W2 (j + 1) m' H') ∧ ∀ y H6, J2.yld j H5 y H6 → g2 y (wipe σ2 vs2) H6 fun σ3 H7 => wipe σ3 vs2 = wipe σ2 vs2 ∧ tt2 σ3 H7 fun b H8 =>
        if b = true then te σ3 H8 fun z H9 => ∃ acc, H9 D = some (.lst acc) ∧ acc.length < sizeLine ∧ N2 (upd H9 D (.lst (acc ++ [z]))) else N2 H8)) else Nx H3)
theorem lc2_coreL {pins : List (Addr × Obj)} {s : Shared} {σ : St} {H : Hp} {Q : VK} {elt tg iter tg2 iter2 : Expr} {ifs ifs2 : List Expr} {scope : Scope} {own : List (Str × Nat)} {vs2 : List Nat} {pos pos' : Pos} {wi wi2 : TI} {g g2 : TG} {tt tt2 : TT} {te : TE} {use : Option (Value → Sem Unit)} {Qf : Value → Shared → Prop}
    (hc : X.calm = true) (hN : X.N.Nodup) (I : Inv X pins σ H s) (hi : PI X tg iter wi) (ok : BlkOk X.N X.env.scope scope own) (hv : ∀ i ∈ vs2, i ∈ own.map (·.2))
    (hg : ∀ (s : Shared) (H : Hp) (C : Addr) (cl : List (Str × Addr)) (fp : List Addr), PG (X.blk s H scope (compEnvC scope cl C X.env) fp) tg g) (ht : ∀ (s : Shared) (H : Hp) (C : Addr) (cl : List (Str × Addr)) (fp : List Addr), PTs (X.blk s H scope (compEnvC scope cl C X.env) fp) ifs tt)
    (hi2 : ∀ (s : Shared) (H : Hp) (C : Addr) (cl : List (Str × Addr)) (fp : List Addr), PI (X.blk s H scope (compEnvC scope cl C X.env) fp) tg2 iter2 wi2)
    (hg2 : ∀ (s : Shared) (H : Hp) (C : Addr) (cl : List (Str × Addr)) (fp : List Addr), PG (X.blk s H scope (compEnvC scope cl C X.env) fp) tg2 g2) (ht2 : ∀ (s : Shared) (H : Hp) (C : Addr) (cl : List (Str × Addr)) (fp : List Addr), PTs (X.blk s H scope (compEnvC scope cl C X.env) fp) ifs2 tt2)
    (he : ∀ (s : Shared) (H : Hp) (C : Addr) (cl : List (Str × Addr)) (fp : List Addr), PE (X.blk s H scope (compEnvC scope cl C X.env) fp) elt te) (hs : ∀ x, foldedSetIterable iter X.env x = pure x) (hs2 : ∀ env x, foldedSetIterable iter2 env x = pure x)
    (h : tLc2L wi g tt wi2 g2 tt2 te (own.map (·.2)) vs2 σ H Q)
    (hRR : ∀ D C s' m H', Inv X pins σ H' s' → Q (.ref D) H' → s'.heap.Ns C m → FpOk X pins H' C → compPost (model X.prog X.w) X.A X.xe use Qf (.ref D) C (.ok .next) s') :
    wpAny (model X.prog X.w) X.A (comprehension (.ListComp elt [⟨tg, iter, ifs, 0⟩, ⟨tg2, iter2, ifs2, 0⟩] scope pos) scope X.env pos' (newList []) false (eval iter X.env) use) Qf X.xe s := by
  have hfree : ∀ y ∈ scope.names, y.2 = .free → ∃ c, X.env.cells.lookup y.1 = some c := fun y hy e => by
    rcases ok.free y hy e with k | k
    · exact I.ok.has _ (.inl k)
    · exact I.ok.has _ (.inr k)
  refine wpAny_comprehension_free (use := use) rfl hs (closure_ok hfree) ok.kind (fun y hy e => by rw [ok.uniq y hy, e])
    (thn (hi.run pins s σ H _ I h) fun xv s1 hx => thn hx fun itv s2 h2 => ?_)
  obtain ⟨it, fp, tn, J, H2, e, I2, T, st2, f2, q⟩ := h2
  subst e
  refine wpAny_newObj_type (newEnv_comp ?_) (by show 0 ≤ sizeLine; decide)
  generalize hD : s2.heap.objs.size = D
  have hDn : H2 D = none := I2.hok.fresh (Nat.le_of_eq hD)
  obtain ⟨W, ⟨m0, w0⟩, turn⟩ := q D hDn
  -- the new list
  generalize hs3 : ({ s2 with heap := s2.heap.push { cls := .type "list", data := .seq ([] : List Value).toArray } } : Shared) = s3
  have I3 : Inv X pins σ (upd H2 D (.lst [])) s3 := by
    rw [← hs3]
    refine I2.laid (t' := s2.toks) (fun b o e => Heap.get?_push_of_some _ e) (Nat.le_of_eq hD) ⟨Nat.zero_le _, [], 0, .nil, ?_⟩
    rw [← hD]
    exact Heap.get?_push_size _ rfl
  have h3 : s3.heap = s2.heap.push { cls := .type "list", data := .seq ([] : List Value).toArray } := by rw [← hs3]
  have sz : ∀ b ∈ fp, b < s2.heap.objs.size := fun b hb => by
    obtain ⟨o, e, _⟩ := T.obj _ _ st2 b hb
    exact Heap.lt_size e
  have f3 : ∀ b ∈ fp, FpOk X pins (upd H2 D (.lst [])) b ∧ b < s3.heap.objs.size := fun b hb => by
    have hlt := sz b hb
    refine ⟨⟨?_, (f2 b hb).2⟩, by rw [h3, Heap.size_push]; exact Nat.lt_succ_of_lt hlt⟩
    rw [upd_ne (by rw [← hD]; exact Nat.ne_of_lt hlt)]
    exact (f2 b hb).1
  have st3 : tn 0 s3.heap := T.keep _ _ _ st2 fun b _ o e => by rw [h3]; exact Heap.get?_push_of_some _ e
  have I4 := block_start I3 ok hN f3
  have pg := hg s3 (upd H2 D (.lst [])) s3.heap.objs.size (cellsFrom (s3.heap.objs.size + 1) scope.names (cloFrom X.env.cells scope.names [])) fp
  have pt := ht s3 (upd H2 D (.lst [])) s3.heap.objs.size (cellsFrom (s3.heap.objs.size + 1) scope.names (cloFrom X.env.cells scope.names [])) fp
  have pi2 := hi2 s3 (upd H2 D (.lst [])) s3.heap.objs.size (cellsFrom (s3.heap.objs.size + 1) scope.names (cloFrom X.env.cells scope.names [])) fp
  have pg2 := hg2 s3 (upd H2 D (.lst [])) s3.heap.objs.size (cellsFrom (s3.heap.objs.size + 1) scope.names (cloFrom X.env.cells scope.names [])) fp
  have pt2 := ht2 s3 (upd H2 D (.lst [])) s3.heap.objs.size (cellsFrom (s3.heap.objs.size + 1) scope.names (cloFrom X.env.cells scope.names [])) fp
  have pe := he s3 (upd H2 D (.lst [])) s3.heap.objs.size (cellsFrom (s3.heap.objs.size + 1) scope.names (cloFrom X.env.cells scope.names [])) fp
  show codeAny _ _ (.compStart (.ListComp elt [⟨tg, iter, ifs, 0⟩, ⟨tg2, iter2, ifs2, 0⟩] scope pos) 0 (.ref it) (.ref D) (compEnvC scope (cellsFrom (s3.heap.objs.size + 1) scope.names (cloFrom X.env.cells scope.names [])) s3.heap.objs.size X.env)) (compPost (model X.prog X.w) X.A X.xe use Qf (.ref D) s3.heap.objs.size) { s3 with heap := pushCells (s3.heap.push { cls := .type "dict", data := .dict #[] }) scope.names }
  have nfp : ∀ b ∈ fp, (upd H2 D (.lst [])) b = none := fun b hb => (f3 b hb).1.1
  generalize hce : compEnvC scope (cellsFrom (s3.heap.objs.size + 1) scope.names (cloFrom X.env.cells scope.names [])) s3.heap.objs.size X.env = ce at I4 pg pt pi2 pg2 pt2 pe ⊢
  have cL : ce.locals = s3.heap.objs.size := by subst hce; rfl
  generalize hH3 : upd H2 D (.lst []) = H3 at I3 I4 pg pt pi2 pg2 pt2 pe w0 nfp f3
  generalize hs4 : ({ s3 with heap := pushCells (s3.heap.push { cls := .type "dict", data := .dict #[] }) scope.names } : Shared) = s4 at I4 ⊢
  have st4 : tn 0 s4.heap := T.keep _ _ _ st3 fun b _ o e => by rw [← hs4]; exact pushCells_keeps _ _ _ _ (Heap.get?_push_of_some _ e)
  have stat : ∀ {σ' : St} {H' : Hp} {s' : Shared}, Inv (X.blk s3 H3 scope ce fp) [] σ' H' s' → (∀ b ∈ fp, H' b = none) → ∀ b ∈ fp, FpOk (X.blk s3 H3 scope ce fp) [] H' b := fun {σ' H' s'} I' hn b hb =>
    ⟨hn b hb, (I'.ok.exf b hb).1, I'.ok.exfs b hb, .inl hb, fun x c e => (I'.ok.exf b hb).2 x c e, fun p hp => absurd (show p ∈ ([] : List (Addr × Obj)) ++ [] from hp) (by simp)⟩
  have loop : codeAny (model X.prog X.w) X.A (.compLoop (.ListComp elt [⟨tg, iter, ifs, 0⟩, ⟨tg2, iter2, ifs2, 0⟩] scope pos) 0 (.ref it) (.ref D) ce) (compPost (model X.prog X.w) X.A X.xe use Qf (.ref D) s3.heap.objs.size) s4 := by
    refine compLoop2_out (hs2 ce) (fun n s' => ∃ i H', Inv (X.blk s3 H3 scope ce fp) [] (wipe σ (own.map (·.2))) H' s' ∧ tn i s'.heap ∧ (∀ b ∈ fp, H' b = none) ∧ W i n H') ?_ m0 ⟨0, H3, I4, st4, nfp, w0⟩
    rintro n s5 ⟨i, H5, I5, st5, n5, w5⟩
    rcases turn i n H5 w5 with ⟨stop, qq⟩ | ⟨go, Nx, hNx, step⟩
    · have td := T.done (X.blk s3 H3 scope ce fp) rfl rfl rfl hc i [] s5 _ H5 (fun _ _ => False) I5 (stat I5 n5) st5 stop
      refine thnF td fun r s6 ⟨hr, I6⟩ => ?_
      subst hr
      -- back in the def's context
      have I7 : Inv X pins σ H5 s6 := I3.call' (ch := fp) I6.os I6.base I6.hok I6.bare fun b hb => ⟨(f3 b hb).1.2.2.2.1, (f3 b hb).1.2.1, (f3 b hb).1.2.2.2.2.1, (f3 b hb).1.2.2.2.2.2⟩
      have nC : H5 s3.heap.objs.size = none := by
        have z : H5 ce.locals = none := I6.free
        rw [cL] at z
        exact z
      obtain ⟨m, hn, _⟩ := I6.loc
      have hn : s6.heap.Ns ce.locals m := hn
      rw [cL] at hn
      exact hRR D s3.heap.objs.size s6 m H5 I7 qq hn (I3.fpOk (Nat.le_refl _) nC)
    · have ti := T.item (X.blk s3 H3 scope ce fp) rfl rfl rfl hc i [] s5 _ H5 (fun _ _ => False) I5 (stat I5 n5) st5 go
      refine thnF ti fun r s6 ⟨u, hr, h6⟩ => ?_
      subst hr
      refine thnF h6 fun _ s7 ⟨x, H7, I7, r7, y7, st7, n7⟩ => ?_
      have I7' := I7.pinned (stat I7 n7) (T.obj _ _ st7)
      refine thnF (pg.run _ s7 _ H7 x u _ I7' r7 (step x H7 y7)) fun _ s8 ⟨σ8, H8, I8, hw8, q8⟩ => ?_
      refine thnF (pt.run _ s8 σ8 H8 _ I8 q8) fun b s9 ⟨H9, I9, q9⟩ => ?_
      -- the turn's end
      have fin : ∀ {s' : Shared} {H' : Hp} {σ' : St}, σ'.length = σ8.length → (∀ (j : Nat) v, (wipe σ8 (own.map (·.2)))[j]? = some (some v) → σ'[j]? = some (some v)) → Inv (X.blk s3 H3 scope ce fp) ([] ++ pinsAt fp s7.heap) σ' H' s' → Nx H' → ∃ m, m < n ∧ ∃ i H', Inv (X.blk s3 H3 scope ce fp) [] (wipe σ (own.map (·.2))) H' s' ∧ tn i s'.heap ∧ (∀ b ∈ fp, H' b = none) ∧ W i m H' := fun {s' H' σ'} hl' hσ' I' nx => by
        obtain ⟨m', hm, w'⟩ := hNx H' nx
        have pin' : ∀ b ∈ fp, ∀ o, s7.heap.get? b = some o → s'.heap.get? b = some o ∧ H' b = none := fun b hb o e =>
          let z := I'.pin (b, o) (List.mem_append_right _ (List.mem_append_right _ (mem_pinsAt hb e)))
          ⟨z.1, z.2.1⟩
        have hl : (wipe σ (own.map (·.2))).length = σ'.length := by rw [← hw8, wipe_length, hl']
        refine ⟨m', hm, i + 1, H', (I'.unpinned (pins := [])).weak hl (fun j v e => ?_), T.keep _ _ _ st7 fun b hb o e => (pin' b hb o e).1, fun b hb => ?_, w'⟩
        · rw [← hw8] at e
          exact hσ' j v e
        · obtain ⟨o, e, _⟩ := T.obj _ _ st7 b hb
          exact (pin' b hb o e).2
      cases b with
      | false =>
        simp only [Bool.false_eq_true, if_false] at q9 ⊢
        exact fin rfl (fun j v e => (wipe_some e).1) I9 q9
      | true =>
        simp only [if_true] at q9 ⊢
        obtain ⟨d, u', hd, mu, q9⟩ := q9
        obtain ⟨od, I9l⟩ := I9.lock hd mu
        refine thnF (pi2.run _ s9 σ8 _ _ I9l (q9 od)) fun xv2 s10 hx2 => thnF hx2 fun itv2 s11 h11 => ?_
        obtain ⟨it2, fp2, tn2, J2, H10, e10, I10, T2, st10, f10, W2, ⟨k0, v0⟩, turn2⟩ := h11
        subst e10
        have stat2 : ∀ {H' : Hp}, (∀ b ∈ fp2, H' b = none) → ∀ b ∈ fp2, FpOk (X.blk s3 H3 scope ce fp) ([] ++ pinsAt fp s7.heap) H' b := fun hn b hb => ⟨hn b hb, (f10 b hb).2⟩
        have loop2 : codeAny (model X.prog X.w) X.A (.compLoop (.ListComp elt [⟨tg, iter, ifs, 0⟩, ⟨tg2, iter2, ifs2, 0⟩] scope pos) 1 (.ref it2) (.ref D) ce) (fun r s₆ => match r with | .ok _ => ∃ m, m < n ∧ ∃ i H', Inv (X.blk s3 H3 scope ce fp) [] (wipe σ (own.map (·.2))) H' s₆ ∧ tn i s₆.heap ∧ (∀ b ∈ fp, H' b = none) ∧ W i m H' | .error _ => False) s11 := by
          refine compLoop2_in (fun n s' => ∃ j H', Inv (X.blk s3 H3 scope ce fp) ([] ++ pinsAt fp s7.heap) (wipe σ8 vs2) H' s' ∧ tn2 j s'.heap ∧ (∀ b ∈ fp2, H' b = none) ∧ W2 j n H') ?_ k0 ⟨0, H10, I10.weak (wipe_length _ _) (fun j v e => (wipe_some e).1), st10, fun b hb => (f10 b hb).1, v0⟩
          rintro k s12 ⟨j, H12, I12, st12, n12, w12⟩
          rcases turn2 j k H12 w12 with ⟨stop, hfz, qq⟩ | ⟨go, N2, hN2, step2⟩
          · refine thnF (T2.done (X.blk s3 H3 scope ce fp) rfl rfl rfl hc j _ s12 _ H12 (fun _ _ => False) I12 (stat2 n12) st12 stop) fun r s13 ⟨hr, I13⟩ => ?_
            subst hr
            refine fin (wipe_length _ _) (fun j v e => ?_) (I13.unlock hfz (I9.nofrz hd mu)) qq
            obtain ⟨e1, e2⟩ := wipe_some e
            rw [wipe_out fun hm => e2 (hv _ hm)]
            exact e1
          · refine thnF (T2.item (X.blk s3 H3 scope ce fp) rfl rfl rfl hc j _ s12 _ H12 (fun _ _ => False) I12 (stat2 n12) st12 go) fun r s13 ⟨u2, hr, h13⟩ => ?_
            subst hr
            refine thnF h13 fun _ s14 ⟨y, H14, I14, r14, y14, st14, n14⟩ => ?_
            have I14' := I14.pinned (stat2 n14) (T2.obj _ _ st14)
            refine thnF (pg2.run _ s14 _ H14 y u2 _ I14' r14 (step2 y H14 y14)) fun _ s15 ⟨σ15, H15, I15, hw15, q15⟩ => ?_
            refine thnF (pt2.run _ s15 σ15 H15 _ I15 q15) fun b s16 ⟨H16, I16, q16⟩ => ?_
            have fin2 : ∀ {s' : Shared} {H' : Hp}, Inv (X.blk s3 H3 scope ce fp) (([] ++ pinsAt fp s7.heap) ++ pinsAt fp2 s14.heap) σ15 H' s' → N2 H' → ∃ m, m < k ∧ ∃ j H', Inv (X.blk s3 H3 scope ce fp) ([] ++ pinsAt fp s7.heap) (wipe σ8 vs2) H' s' ∧ tn2 j s'.heap ∧ (∀ b ∈ fp2, H' b = none) ∧ W2 j m H' := fun {s' H'} I' nx => by
              obtain ⟨m', hm, w'⟩ := hN2 H' nx
              have pin' : ∀ b ∈ fp2, ∀ o, s14.heap.get? b = some o → s'.heap.get? b = some o ∧ H' b = none := fun b hb o e =>
                let z := I'.pin (b, o) (List.mem_append_right _ (List.mem_append_right _ (mem_pinsAt hb e)))
                ⟨z.1, z.2.1⟩
              have hl : (wipe σ8 vs2).length = σ15.length := by rw [← hw15, wipe_length]
              refine ⟨m', hm, j + 1, H', (I'.unpinned).weak hl (fun j v e => ?_), T2.keep _ _ _ st14 fun b hb o e => (pin' b hb o e).1, fun b hb => ?_, w'⟩
              · rw [← hw15] at e
                exact (wipe_some e).1
              · obtain ⟨o, e, _⟩ := T2.obj _ _ st14 b hb
                exact (pin' b hb o e).2
            cases b with
            | false =>
              simp only [Bool.false_eq_true, if_false] at q16 ⊢
              exact fin2 I16 q16
            | true =>
              simp only [if_true] at q16 ⊢
              refine thnF (pe.run _ s16 σ15 H16 _ I16 q16) fun z s17 ⟨yv, H17, I17, r17, acc, hD17, hz17, nx⟩ => ?_
              exact app_ok (X := X.blk s3 H3 scope ce fp) I17 hD17 hz17 r17 fun s18 I18 => fin2 I18 nx
        exact compStart1_ok loop2 (T2.self X.A 0 _ _ _ st10 loop2)
  exact codeAny_compStart_list loop (T.self X.A 0 _ _ _ st4 loop)
/-- as a value -/
theorem pe_lc2L {elt tg iter tg2 iter2 : Expr} {ifs ifs2 : List Expr} {scope : Scope} {own : List (Str × Nat)} {vs2 : List Nat} {pos : Pos} {wi wi2 : TI} {g g2 : TG} {tt tt2 : TT} {te : TE} (hc : X.calm = true) (hN : X.N.Nodup) (hi : PI X tg iter wi) (ok : BlkOk X.N X.env.scope scope own) (hv : ∀ i ∈ vs2, i ∈ own.map (·.2))
    (hg : ∀ (s : Shared) (H : Hp) (C : Addr) (cl : List (Str × Addr)) (fp : List Addr), PG (X.blk s H scope (compEnvC scope cl C X.env) fp) tg g) (ht : ∀ (s : Shared) (H : Hp) (C : Addr) (cl : List (Str × Addr)) (fp : List Addr), PTs (X.blk s H scope (compEnvC scope cl C X.env) fp) ifs tt)
    (hi2 : ∀ (s : Shared) (H : Hp) (C : Addr) (cl : List (Str × Addr)) (fp : List Addr), PI (X.blk s H scope (compEnvC scope cl C X.env) fp) tg2 iter2 wi2)
    (hg2 : ∀ (s : Shared) (H : Hp) (C : Addr) (cl : List (Str × Addr)) (fp : List Addr), PG (X.blk s H scope (compEnvC scope cl C X.env) fp) tg2 g2) (ht2 : ∀ (s : Shared) (H : Hp) (C : Addr) (cl : List (Str × Addr)) (fp : List Addr), PTs (X.blk s H scope (compEnvC scope cl C X.env) fp) ifs2 tt2)
    (he : ∀ (s : Shared) (H : Hp) (C : Addr) (cl : List (Str × Addr)) (fp : List Addr), PE (X.blk s H scope (compEnvC scope cl C X.env) fp) elt te) (hs : ∀ x, foldedSetIterable iter X.env x = pure x := by intro _; rfl) (hs2 : ∀ env x, foldedSetIterable iter2 env x = pure x := by intro _ _; rfl) :
    PE X (.ListComp elt [⟨tg, iter, ifs, 0⟩, ⟨tg2, iter2, ifs2, 0⟩] scope pos) (tLc2L wi g tt wi2 g2 tt2 te (own.map (·.2)) vs2) := by
  refine ⟨fun pins s σ H Q I h => ?_⟩
  rw [eval_ListComp]
  show wpAny _ X.A (comprehension (.ListComp elt [⟨tg, iter, ifs, 0⟩, ⟨tg2, iter2, ifs2, 0⟩] scope pos) scope X.env (firstIterPos [⟨tg, iter, ifs, 0⟩, ⟨tg2, iter2, ifs2, 0⟩] pos) (newList []) false (eval iter X.env) none) _ _ s
  refine lc2_coreL hc hN I hi ok hv hg ht hi2 hg2 ht2 he hs hs2 h fun D C s' m H' I' q hn f => ⟨m, hn, fun h'' sb => ?_⟩
  obtain ⟨f0, f1, f2, f3, f4, f5⟩ := f
  exact ⟨.ref D, H', I'.turned (t' := s'.toks) (fun b o hb e => (sb.2 b hb).trans e) f0 f1 f3 f4 f5, rfl, q⟩
end
end L2

set_option maxRecDepth 100000
set_option maxHeartbeats 4000000
namespace VSI
open PySem PySem.Spec PyProof.Rows L2 SrtO
/-- the text ahead in the tuple that v is -/
def kTx (h : Heap) (v : Value) : Str := DT.txOf (DT.seqAt0 h (DT.refOf (some v)))
theorem kTx_of {h : Heap} {a : Addr} {o : Obj} {y : Str} {t : Tok} {u : Value} {n : Nat} (e : h.get? a = some o) (d : o.data = .seq #[.str y t, u] n) : kTx h (.ref a) = y := by
  show DT.txOf (DT.seqAt0 h a) = y
  have : DT.seqAt0 h a = some (.str y t) := by
    simp only [DT.seqAt0, e, d]
    rfl
  rw [this]
  rfl
def tLt (a b : Str) : Bool := decide (a.cps.toList < b.cps.toList)
theorem swo_tx (k : Value → Str) : Swo fun v u => tLt (k v) (k u) := by
  refine ⟨fun x y h => ?_, fun x y z h1 h2 => ?_⟩
  · unfold tLt at *
    exact decide_eq_false (fun z => List.lt_irrefl _ (List.lt_trans (of_decide_eq_true h) z))
  · unfold tLt at *
    have a := List.not_lt.mp (of_decide_eq_false h1)
    have b := List.not_lt.mp (of_decide_eq_false h2)
    exact decide_eq_false (List.not_lt.mpr (List.le_trans a b))
section
variable {prog : Program} {w : World} {A : Around} {s : Shared}
/-- v is a pair with a text ahead; one text, one pair -/
structure PairK (h : Heap) (vs : List Value) : Prop where
  is : ∀ v ∈ vs, ∃ (a : Addr) (o : Obj) (y : Str) (t : Tok) (u : Value) (n : Nat), v = .ref a ∧ h.get? a = some o ∧ o.cls = .type "tuple" ∧ o.data = .seq #[.str y t, u] n
  one : ∀ v ∈ vs, ∀ u ∈ vs, kTx h v = kTx h u → v = u
theorem firsts_ofK {h : Heap} : ∀ vs : List Value, (∀ v ∈ vs, ∃ (a : Addr) (o : Obj) (y : Str) (t : Tok) (u : Value) (n : Nat), v = .ref a ∧ h.get? a = some o ∧ o.cls = .type "tuple" ∧ o.data = .seq #[.str y t, u] n) → ∃ fs : List Value, PySem.W.KatTups h vs fs ∧ fs.length = vs.length ∧ ∀ f ∈ fs, ∃ (y : Str) (t : Tok), f = Value.str y t
  | [], _ => ⟨[], PySem.W.KatTups.nil, rfl, fun f hf => by simp at hf⟩
  | v :: vs, x => by
    obtain ⟨fs, k, hl, hi⟩ := firsts_ofK vs fun u hu => x u (List.mem_cons_of_mem _ hu)
    obtain ⟨a, o, y, t, u, n, rfl, ho, hc, hd⟩ := x v (List.mem_cons_self ..)
    refine ⟨.str y t :: fs, PySem.W.KatTups.cons ho hc hd rfl k, by rw [List.length_cons, List.length_cons, hl], fun f hf => ?_⟩
    rcases List.mem_cons.mp hf with rfl | hf
    · exact ⟨y, t, rfl⟩
    · exact hi f hf
theorem PairK.cmp {h : Heap} {vs : List Value} (p : PairK h vs) (hk : ∀ v ∈ vs, kTx s.heap v = kTx h v) (q : ∀ v ∈ vs, ∀ a o, v = .ref a → h.get? a = some o → s.heap.get? a = some o) : Cmp prog w A s (tuples' true) (fun p => p.1 ∈ vs) (lt2 fun v u => tLt (kTx h v) (kTx h u)) := by
  intro x y hx hy
  show wpAny (model prog w) A (keyLt' (tuples' true) x.1 y.1) (fun r s' => s' = s ∧ r = tLt (kTx h x.1) (kTx h y.1)) (fun _ _ => False) s
  have one := p.one _ hx _ hy
  obtain ⟨a, o, y1, t, u, n, e, ho, hc, hd⟩ := p.is _ hx
  obtain ⟨a', o', y2, t', u', n', e', ho', hc', hd'⟩ := p.is _ hy
  have ho2 := q _ hx _ _ e ho
  have ho2' := q _ hy _ _ e' ho'
  rw [e, e'] at one ⊢
  rw [kTx_of ho hd, kTx_of ho' hd'] at one ⊢
  refine PySem.W.kat_lt ho2 hd ho2' hd' ?_
  show PySem.W.KatLex prog w A true (decide (2 < 2)) _ [(.str y1 t, .str y2 t'), (u, u')] 0 s
  refine PySem.W.kat_cons (SeqAt.EqAt.str_str y1 t y2 t' prog w _ _ ?_)
  refine PySem.W.kat_go (fun e1 => ?_) (fun e1 => ?_)
  · have ex : y1 = y2 := by simpa using e1
    have ev := one ex
    cases ev
    rw [ho] at ho'
    cases ho'
    rw [hd] at hd'
    cases hd'
    refine PySem.W.kat_yes (PySem.W.kat_cons (SeqAt.EqAt.same u prog w _ _ ?_))
    refine PySem.W.kat_yes (PySem.W.kat_nil ⟨rfl, ?_⟩)
    unfold tLt
    exact (decide_eq_false (List.lt_irrefl _)).symm
  · exact PySem.W.kat_no (oneLt_str ⟨rfl, rfl⟩)
theorem PairK.sortable {a : Addr} {vs : List Value} (h0 : 0 < vs.length) (p : PairK s.heap vs) (ha : ∀ o, s.heap.get? a = some o → o.cls ≠ .type "tuple") : SortableO prog w A s a vs fun v u => tLt (kTx s.heap v) (kTx s.heap u) := by
  intro h' keep
  have kk : ∀ v ∈ vs, ∀ b o, v = .ref b → s.heap.get? b = some o → h'.get? b = some o := fun v hv b o e eo => by
    obtain ⟨b', o', _, _, _, _, e', ho', hc', _⟩ := p.is v hv
    rw [e] at e'
    cases e'
    rw [eo] at ho'
    cases ho'
    exact keep b o (fun z => ha o (z ▸ eo) hc') eo
  have is' : ∀ v ∈ vs, ∃ (a : Addr) (o : Obj) (y : Str) (t : Tok) (u : Value) (n : Nat), v = .ref a ∧ h'.get? a = some o ∧ o.cls = .type "tuple" ∧ o.data = .seq #[.str y t, u] n := fun v hv => by
    obtain ⟨b, o, y, t, u, n, e, ho, r⟩ := p.is v hv
    exact ⟨b, o, y, t, u, n, e, kk v hv b o e ho, r⟩
  have hk : ∀ v ∈ vs, kTx h' v = kTx s.heap v := fun v hv => by
    obtain ⟨b, o, y, t, u, n, e, ho, hc, hd⟩ := p.is v hv
    rw [e, kTx_of ho hd, kTx_of (kk v hv b o e ho) hd]
  obtain ⟨fs, h1, h2, h3⟩ := firsts_ofK vs is'
  refine ⟨tuples' true, fun Q E hq => ?_, p.cmp (s := { s with heap := h' }) hk kk⟩
  refine PySem.W.kat_kind (T := .type "str") h1 (by omega) (fun f hm => ?_) (by rfl) ?_
  · obtain ⟨x, t, rfl⟩ := h3 f hm
    exact PySem.W.Looks.now
  · have e : (Value.type "str" != Value.type "tuple") = true := by first | decide +kernel | rfl | decide
    rw [e]
    exact hq
end
section
variable {X : Cx}
def rItemsK : V → List V → Hp → VK → Prop := fun x xs H Q => ∃ (a : Addr) (kvs : List (Key × V)), x = .ref a ∧ xs = [] ∧ H a = some (.dK kvs) ∧ ∀ p, H p = none → Q (.ref p) (upd H p (L2.DX.itemsO p a))
theorem mt_itemsK : MtR X "dict.items" rItemsK := by
  intro pins s σ H x xs v us Q I rx rxs h
  obtain ⟨a, kvs, rfl, rfl, ha, q⟩ := h
  cases rx
  cases rxs
  obtain ⟨hz, hs0, vs, kv, hdo⟩ := I.hok a _ ha
  obtain ⟨o, es, ep, ho, hx, hdat, _⟩ := hdo
  refine DT.callItems (es := es) (ep := ep) hs0 ⟨o, ho, hx, hdat⟩ ?_
  have hf : H s.heap.objs.size = none := I.hok.fresh (Nat.le_refl _)
  exact ⟨.ref s.heap.objs.size, upd H s.heap.objs.size (L2.DX.itemsO s.heap.objs.size a), I.laid (t' := s.toks) (fun b u e => Heap.get?_push_of_some _ e) (Nat.le_refl _) (L2.DX.itemsO_ok (Heap.get?_push_size _ rfl)), rfl, q _ hf⟩
/-- sorted(d.items()), the keys texts -/
def rSortItK : List V → Hp → VK → Prop := fun us H Q => ∃ (p a : Addr) (kvs : List (Key × V)), us = [.ref p] ∧ H p = some (L2.DX.itemsO p a) ∧ H a = some (.dK kvs) ∧ (∀ q ∈ kvs, ∃ z : Str, q.1 = .inr z) ∧ (kvs.map (·.1)).Nodup ∧
  ∀ (H' : Hp) (l : Addr) (ts : List Addr) (out : List (Key × V)), (∀ b o, H b = some o → H' b = some o) → H l = none → (∀ t ∈ ts, H t = none) → l ∉ ts → H' l = some (.lst (ts.map V.ref)) → Paired (fun (t : Addr) (q : Key × V) => H' t = some (.tup [kV q.1, q.2])) ts out → out.Perm kvs →
    out.Pairwise (fun e f => ∀ y z : Str, e.1 = .inr y → f.1 = .inr z → ¬ z.cps.toList < y.cps.toList) → Q (.ref l) H'
theorem cr_sortedItK (hc : X.calm = true) : CallR X (.builtin "sorted") rSortItK := by
  intro pins s σ H xs us Q I r h
  obtain ⟨p, a, kvs, rfl, hp, ha, htx, hnd, q⟩ := h
  obtain rfl := Vals.ref1 r
  have view : s.heap.IsItemsView p a := (show ObjOk X.prog X.w H s.heap p (L2.DX.itemsO p a) from I.hok p _ hp).1
  obtain ⟨hz, hs0, vs, kv, hdo⟩ := I.hok a _ ha
  obtain ⟨o0, es, ep, ho0, hx0, hdat0, _, hpr0, _⟩ := hdo
  have lk : kvs.length = vs.length := Paired.length kv
  have lk2 : es.size = vs.length := by
    have := hpr0.length
    rw [Array.length_toList] at this
    exact this
  have hh : X.A.handled = none := I.ok.hd hc
  refine DT.sortedI (es := es) (ep := ep) hh view ⟨o0, ho0, hx0, hdat0⟩ (by omega) fun h' tk as hk hlt0 hl hG => ?_
  have lak : as.length = kvs.length := by omega
  have nd : as.Nodup := List.Pairwise.imp (fun {a b} (h : a < b) => Nat.ne_of_lt h) hG.rise
  -- the pairs that were made
  have pr : ∀ (j : Nat) (b : Addr), as[j]? = some b → ∃ (e : Key × V) (y : Str) (t : Tok) (x : Value), kvs[j]? = some e ∧ e.1 = .inr y ∧ RelV e.2 x ∧ h'.get? b = some { cls := .type "tuple", data := .seq #[Value.str y t, x] } := by
    intro j b hj
    obtain ⟨en, f1, f3⟩ := hG.pairs j b hj
    have hjl : j < kvs.length := by
      have := (List.getElem?_eq_some_iff.mp hj).1
      omega
    obtain ⟨qv, g1, g2, g3⟩ := LiI.paired_get kv (List.getElem?_eq_getElem hjl)
    obtain ⟨k, x⟩ := qv
    obtain ⟨f2, f4⟩ := hpr0.get? (by rw [Array.getElem?_toList]; exact f1) g1
    rw [f4] at f3
    obtain ⟨y, hy⟩ := htx _ (List.getElem_mem hjl)
    have hky : k = .inr y := g2.symm.trans hy
    rw [hky] at f2
    rcases keyIs_shape (show keyIs (Sum.inr y) en.key = true from f2) with ⟨_, _, e, _⟩ | ⟨y', t, e, ev⟩
    · cases e
    · cases e
      rw [ev] at f3
      exact ⟨_, y, t, x, List.getElem?_eq_getElem hjl, hy, g3, f3⟩
  have hzl : (as.map Value.ref).length ≤ sizeLine := by rw [List.length_map, lak]; exact hz
  have hob : (h'.push (seqObj "list" (as.map Value.ref).toArray 0)).get? h'.objs.size = some (seqObj "list" (as.map Value.ref).toArray 0) := Heap.get?_push_size _ rfl
  have ne0 : ∀ b o, h'.get? b = some o → b ≠ h'.objs.size := fun b o e => Nat.ne_of_lt (Heap.lt_size e)
  show wpAny _ _ _ _ _ { s with heap := h'.push (seqObj "list" (as.map Value.ref).toArray 0), toks := tk }
  have ka : ∀ b o, h'.get? b = some o → (h'.push (seqObj "list" (as.map Value.ref).toArray 0)).get? b = some o := fun b o e => Heap.get?_push_of_some _ e
  have hsz : (h'.push (seqObj "list" (as.map Value.ref).toArray 0)).objs.size = h'.objs.size + 1 := Heap.size_push ..
  generalize hh2 : h'.push (seqObj "list" (as.map Value.ref).toArray 0) = h2 at hob ka hsz ⊢
  have tx : ∀ (j : Nat) (b : Addr) (e : Key × V) (y : Str), as[j]? = some b → kvs[j]? = some e → e.1 = .inr y → kTx h2 (.ref b) = y := by
    intro j b e y hj he hy
    obtain ⟨e', y', t, x, he', hy', _, hg⟩ := pr j b hj
    rw [he] at he'
    cases he'
    rw [hy] at hy'
    cases hy'
    exact kTx_of (ka _ _ hg) rfl
  have PK : PairK h2 (as.map Value.ref) := by
    refine ⟨fun v hv => ?_, fun v hv u hu e => ?_⟩
    · obtain ⟨b, hb, rfl⟩ := List.mem_map.mp hv
      obtain ⟨j, hj⟩ := List.mem_iff_getElem?.mp hb
      obtain ⟨e, y, t, x, he, hy, _, hg⟩ := pr j b hj
      exact ⟨b, _, y, t, x, 0, rfl, ka _ _ hg, rfl, rfl⟩
    · obtain ⟨b, hb, rfl⟩ := List.mem_map.mp hv
      obtain ⟨c, hc', rfl⟩ := List.mem_map.mp hu
      obtain ⟨j, hj⟩ := List.mem_iff_getElem?.mp hb
      obtain ⟨i, hi⟩ := List.mem_iff_getElem?.mp hc'
      obtain ⟨e1, y1, t1, x1, he1, hy1, _, _⟩ := pr j b hj
      obtain ⟨e2, y2, t2, x2, he2, hy2, _, _⟩ := pr i c hi
      rw [tx j b e1 y1 hj he1 hy1, tx i c e2 y2 hi he2 hy2] at e
      have hlt : j < (kvs.map (·.1)).length := by rw [List.length_map]; exact (List.getElem?_eq_some_iff.mp he1).1
      have eji : j = i := (List.getElem?_inj hlt hnd).mp (by rw [List.getElem?_map, List.getElem?_map, he1, he2]; show some e1.1 = some e2.1; rw [hy1, hy2, e])
      rw [eji, hi] at hj
      cases hj
      rfl
  refine (wpAny_call_entry PyProof.Rows.slot_list_sort ⟨_, hob, rfl⟩ PyProof.Rows.entry_list_sort (list_sort_ord (s := { s with heap := h2, toks := tk }) (ltv := fun v u => tLt (kTx h2 v) (kTx h2 u)) (swo_tx _) hob hzl (fun h2' => PairK.sortable (s := { s with heap := h2, toks := tk }) (by omega) PK fun o e c => ?_) fun out hs hb => ⟨_, rfl, ?_⟩) (PyProof.Rows.args_list_sort _))
  · rw [show o = seqObj "list" (as.map Value.ref).toArray 0 from Option.some.inj (e.symm.trans hob)] at c
    exact absurd (Value.type.inj c) (by decide)
  show EP X pins σ Q (.ref h'.objs.size) { s with heap := sortedHeap h2 h'.objs.size (as.map Value.ref) out.toArray, toks := tk }
  obtain ⟨zs, pz, ez⟩ : ∃ zs : List (Addr × (Key × V)), zs.Perm (as.zip kvs) ∧ out = zs.map fun z => Value.ref z.1 := by
    have m0 : (as.zip kvs).map (·.1) = as := List.map_fst_zip (by rw [lak]; exact Nat.le_refl _)
    have m1 : (as.zip kvs).map (fun z => Value.ref z.1) = as.map Value.ref := by
      have e := congrArg (List.map Value.ref) m0
      rw [List.map_map] at e
      exact e
    obtain ⟨zs, h1, h2'⟩ := perm_lift (fun z : Addr × (Key × V) => Value.ref z.1) hb.perm (as.zip kvs) m1
    exact ⟨zs, h1, h2'.symm⟩
  have idx : ∀ z ∈ zs, ∃ j : Nat, as[j]? = some z.1 ∧ kvs[j]? = some z.2 := by
    intro z' hz'
    obtain ⟨j, hj⟩ := List.mem_iff_getElem?.mp (pz.mem_iff.mp hz')
    exact ⟨j, List.getElem?_zip_eq_some.mp hj⟩
  have hperm : (zs.map (·.2)).Perm kvs := by
    have e := pz.map (·.2)
    rw [show (as.zip kvs).map (·.2) = kvs from List.map_snd_zip (by rw [lak]; exact Nat.le_refl _)] at e
    exact e
  have hsort : (zs.map (·.2)).Pairwise (fun e f => ∀ y z : Str, e.1 = .inr y → f.1 = .inr z → ¬ z.cps.toList < y.cps.toList) := by
    have hs' : (zs.map fun z => Value.ref z.1).Pairwise (fun v u => tLt (kTx h2 u) (kTx h2 v) = false) := by
      rw [← ez]
      exact hs
    rw [List.pairwise_map] at hs' ⊢
    refine List.Pairwise.imp_of_mem (fun {x y} hx hy h y1 y2 e1 e2 => ?_) hs'
    obtain ⟨j, j1, j2⟩ := idx x hx
    obtain ⟨i, i1, i2⟩ := idx y hy
    have h' : tLt (kTx h2 (.ref y.1)) (kTx h2 (.ref x.1)) = false := h
    rw [tx j _ _ _ j1 j2 e1, tx i _ _ _ i1 i2 e2] at h'
    exact of_decide_eq_false h'
  -- behind the sort
  have hlt : s.heap.objs.size ≤ h'.objs.size := Nat.le_of_lt hlt0
  have kF : ∀ b o, b ≠ h'.objs.size → h2.get? b = some o → (sortedHeap h2 h'.objs.size (as.map Value.ref) out.toArray).get? b = some o := fun b o hb e => (PyProof.Rows.sortedHeap_old hb (Heap.lt_size e)).trans e
  have kS : ∀ b o, s.heap.get? b = some o → (sortedHeap h2 h'.objs.size (as.map Value.ref) out.toArray).get? b = some o := fun b o e => kF b o (ne0 _ _ (hk b o e)) (ka _ _ (hk b o e))
  obtain ⟨eF, heF⟩ := PyProof.Rows.sortedHeap_at (vs := as.map Value.ref) (out := out.toArray) hob
  have I1 : Inv X pins σ H { s with heap := sortedHeap h2 h'.objs.size (as.map Value.ref) out.toArray, toks := tk } := I.kept (t' := tk) kS
  have hn0 : H h'.objs.size = none := I.hok.fresh hlt
  have hlen : (zs.map fun z => V.ref z.1).length ≤ sizeLine := by
    have e := hperm.length_eq
    rw [List.length_map] at e
    rw [List.length_map]
    omega
  have rv : Vals (zs.map fun z => V.ref z.1) out := by
    rw [ez]
    exact vals_maps (fun z : Addr × (Key × V) => V.ref z.1) (fun z => Value.ref z.1) zs fun _ _ => rfl
  have I2 : Inv X pins σ (upd H h'.objs.size (.lst (zs.map fun z => V.ref z.1))) { s with heap := sortedHeap h2 h'.objs.size (as.map Value.ref) out.toArray, toks := tk } :=
    I1.take (h' := sortedHeap h2 h'.objs.size (as.map Value.ref) out.toArray) (t' := tk) (fun b ob _ e => e) (I.fpOk hlt hn0) ⟨hlen, out, eF, rv, heF⟩
  obtain ⟨H2, I3, g, qt⟩ := L2.DX.takeT (P := fun b vs => ∃ (j : Nat) (e : Key × V), as[j]? = some b ∧ kvs[j]? = some e ∧ vs = [kV e.1, e.2]) I as _ I2 nd fun b hb => by
    obtain ⟨j, hj⟩ := List.mem_iff_getElem?.mp hb
    obtain ⟨e, y, t, x, he, hy, rx, hg⟩ := pr j b hj
    have hbl : s.heap.objs.size ≤ b := Nat.le_of_lt (hG.above b hb)
    refine ⟨hbl, ?_, [kV e.1, e.2], ⟨j, e, hj, he, rfl⟩, fun H3 => ⟨(by rw [sizeLine_eq]; show 2 ≤ 16777216; omega), [Value.str y t, x], .cons (by rw [hy]; exact ⟨t, rfl⟩) (.cons rx .nil), ⟨_, kF _ _ (ne0 _ _ hg) (ka _ _ hg), rfl, 0, rfl⟩⟩⟩
    rw [upd_ne (ne0 _ _ hg)]
    exact I.hok.fresh hbl
  have gr : ∀ b o, H b = some o → H2 b = some o := fun b o e => g b o (by rw [upd_ne (ne_of_none e hn0)]; exact e)
  have asn : ∀ b ∈ as, H b = none ∧ b ≠ h'.objs.size := fun b hb => by
    obtain ⟨j, hj⟩ := List.mem_iff_getElem?.mp hb
    obtain ⟨e, y, t, x, he, hy, rx, hg⟩ := pr j b hj
    exact ⟨I.hok.fresh (Nat.le_of_lt (hG.above b hb)), ne0 _ _ hg⟩
  refine ⟨.ref h'.objs.size, H2, I3, rfl, q H2 h'.objs.size (zs.map (·.1)) (zs.map (·.2)) gr hn0 (fun b hb => ?_) (fun hb => ?_) (by rw [List.map_map]; exact g _ _ upd_same) ?_ hperm hsort⟩
  · obtain ⟨z', hz', rfl⟩ := List.mem_map.mp hb
    obtain ⟨j, j1, _⟩ := idx z' hz'
    exact (asn _ (List.mem_of_getElem? j1)).1
  · obtain ⟨z', hz', e⟩ := List.mem_map.mp hb
    obtain ⟨j, j1, _⟩ := idx z' hz'
    exact (asn _ (List.mem_of_getElem? j1)).2 e
  · have key : ∀ zs' : List (Addr × (Key × V)), (∀ z ∈ zs', z ∈ zs) → Paired (fun (t : Addr) (q : Key × V) => H2 t = some (.tup [kV q.1, q.2])) (zs'.map (·.1)) (zs'.map (·.2)) := by
      intro zs'
      induction zs' with
      | nil => intro _; exact .nil
      | cons z zs' ih =>
        intro hm
        refine .cons ?_ (ih fun z' hz' => hm z' (List.mem_cons_of_mem _ hz'))
        obtain ⟨i, i1, i2⟩ := idx z (hm z List.mem_cons_self)
        obtain ⟨vs, ⟨j, e, j1, j2, ev⟩, hH⟩ := qt z.1 (List.mem_of_getElem? i1)
        have eij : i = j := (List.getElem?_inj (List.getElem?_eq_some_iff.mp i1).1 nd).mp (i1.trans j1.symm)
        subst eij
        have ee : e = z.2 := Option.some.inj (j2.symm.trans i2)
        rw [ev, ee] at hH
        exact hH
    exact key zs fun _ h => h
end
end VSI

set_option maxRecDepth 100000
set_option maxHeartbeats 4000000
namespace SS
open PySem L2 SR TL
/-- all but D stays -/
def SameB (D : Addr) (H H' : Hp) : Prop := ∀ a o, a ≠ D → H a = some o → H' a = some o
theorem Same.b {D : Addr} {H H' : Hp} (e : Same H H') : SameB D H H' := fun a o _ h => e a o h
theorem SameB.upd {D : Addr} {H : Hp} {o : HO} : SameB D H (upd H D o) := fun a u ha h => by rw [upd_ne ha]; exact h
/-- a comprehension that changes nothing but its own list D: S tells what is gathered -/
theorem lc_S {J : It} {n : Nat} {G : Hp → Prop} {Y : Nat → Hp → V → Hp → Prop} (w : Walk J n G Y) {g : TG} {tt : TT} {te : TE} {vs : List Nat} {σ : St} {H1 : Hp} {D : Addr} {Qd : Hp → Prop} (hD : H1 D = none) (hn : n ≤ 1000000)
    (S : Nat → List V → Hp → Prop) (hS : ∀ i acc acc' H H', H D = some (.lst acc') → SameB D H H' → S i acc H → S i acc H') (h0 : S 0 [] (upd H1 D (.lst []))) (hG : ∀ H, Same H1 H → G H)
    (hs : ∀ i x H H' acc (Qt : V → Hp → Prop) (Qf : Hp → Prop), i < n → Same H1 H → H D = some (.lst acc) → S i acc H → Y i H x H' → (∀ y H4, Same H H4 → S (i + 1) (acc ++ [y]) H4 → Qt y H4) → (∀ H3, Same H H3 → S (i + 1) acc H3 → Qf H3) →
      g x (wipe σ vs) H' fun σ2 H2 => wipe σ2 vs = wipe σ vs ∧ tt σ2 H2 fun b H3 => if b = true then te σ2 H3 Qt else Qf H3)
    (hd : ∀ H acc, Same H1 H → H D = some (.lst acc) → S n acc H → Qd H) :
    ∃ W : Nat → Nat → Hp → Prop, (∃ m, W 0 m (upd H1 D (.lst []))) ∧ ∀ i m H, W i m H →
      (J.stop i H ∧ Qd H) ∨ (J.go i H ∧ ∃ Nx : Hp → Prop, (∀ H', Nx H' → ∃ m', m' < m ∧ W (i + 1) m' H') ∧ ∀ x H', J.yld i H x H' → g x (wipe σ vs) H' fun σ2 H2 => wipe σ2 vs = wipe σ vs ∧ tt σ2 H2 fun b H3 =>
        if b = true then te σ2 H3 fun y H4 => ∃ acc, H4 D = some (.lst acc) ∧ acc.length < sizeLine ∧ Nx (upd H4 D (.lst (acc ++ [y]))) else Nx H3) := by
  refine lc_it w (fun i H => Same H1 H ∧ ∃ acc, H D = some (.lst acc) ∧ acc.length ≤ i ∧ S i acc H) ⟨same_new hD, [], upd_same, Nat.le_refl _, h0⟩ (fun i H _ p => hG H p.1) (fun i x H H' hi p y => ?_) (fun H p => ?_)
  · obtain ⟨e, acc, hd', hl, s⟩ := p
    refine hs i x H H' acc _ _ hi e hd' s y (fun z H4 e4 s4 => ⟨acc, e4 _ _ hd', by rw [sizeLine_eq]; omega, same_upd (e.trans e4) hD, acc ++ [z], upd_same, by rw [List.length_append]; exact Nat.succ_le_succ hl, ?_⟩) (fun H3 e3 s3 => ⟨e.trans e3, acc, e3 _ _ hd', Nat.le_succ_of_le hl, s3⟩)
    exact hS _ _ _ _ _ (e4 _ _ hd') SameB.upd s4
  · obtain ⟨e, acc, hd', _, s⟩ := p
    exact hd H acc e hd' s
theorem ne_lst {H : Hp} {D q : Addr} {acc : List V} {o : HO} (hd : H D = some (.lst acc)) (h : H q = some o) (n : ∀ xs, o ≠ .lst xs) : q ≠ D := fun e => by
  rw [e, hd] at h
  exact n acc (Option.some.inj h).symm
theorem Paired.mono {α β : Type} {R R' : α → β → Prop} : ∀ {xs : List α} {ys : List β}, Paired R xs ys → (∀ a b, R a b → R' a b) → Paired R' xs ys
  | _, _, .nil, _ => .nil
  | _, _, .cons r t, f => .cons (f _ _ r) (Paired.mono t f)
theorem mergeK_nil {kvs : List (Key × V)} (nd : (kvs.map (·.1)).Nodup) : mergeK [] kvs = kvs := by
  have key : ∀ (more acc : List (Key × V)), ((acc ++ more).map (·.1)).Nodup → mergeK acc more = acc ++ more := by
    intro more
    induction more with
    | nil => intro acc _; exact (List.append_nil acc).symm
    | cons p more ih =>
      intro acc nd
      have hv : valV acc p.1 = none := by
        unfold valV
        rw [Option.map_eq_none_iff, List.find?_eq_none]
        intro q hq hk
        have e : q.1 = p.1 := by simpa using hk
        rw [List.map_append, List.nodup_append] at nd
        exact nd.2.2 q.1 (List.mem_map.mpr ⟨q, hq, rfl⟩) p.1 (by simp) e
      have e1 : mergeK acc (p :: more) = mergeK (acc ++ [p]) more := by
        show mergeK (putK acc p.1 p.2) more = _
        rw [putK_new _ hv]
      rw [e1, ih (acc ++ [p]) (by rwa [List.append_assoc])]
      rw [List.append_assoc]; rfl
  exact key kvs [] nd
theorem paired_get {α β : Type} {R : α → β → Prop} : ∀ {xs : List α} {ys : List β} (i : Nat) {y : β}, Paired R xs ys → ys[i]? = some y → ∃ x, xs[i]? = some x ∧ R x y
  | _, _, _, _, .nil, h => by simp at h
  | x :: xs, y :: ys, 0, z, .cons r _, h => by
    have e : y = z := Option.some.inj h
    exact ⟨x, rfl, e ▸ r⟩
  | x :: xs, y :: ys, i + 1, z, .cons _ t, h => by
    obtain ⟨a, h1, h2⟩ := paired_get i t (by simpa using h)
    exact ⟨a, by simpa using h1, h2⟩
theorem inV_ints (q : Int) (es : List Int) : inV (.int q) (es.map .int) = decide (q ∈ es) := by
  unfold inV
  induction es with
  | nil => rfl
  | cons e es ih =>
    rw [List.map_cons, List.any_cons, ih]
    show ((e == q) || decide (q ∈ es)) = _
    by_cases h : e = q
    · subst h; simp
    · have : (e == q) = false := beq_eq_false_iff_ne.mpr h
      rw [this, Bool.false_or]
      have h' : ¬ q = e := fun z => h z.symm
      simp [h']
theorem flat_ints (es : List Int) : (es.map V.int).all flatV = true := by
  induction es with
  | nil => rfl
  | cons e es ih => rw [List.map_cons, List.all_cons, ih]; rfl
theorem atI_of {α : Type} {xs : List α} {q : Int} {x : α} (q0 : 0 ≤ q) (h : xs[q.toNat]? = some x) : atI xs q = some x := by
  have := atI_nat h
  rwa [Int.toNat_of_nonneg q0] at this
theorem nodup_len : ∀ (m : Nat) (l : List Int), l.Nodup → (∀ q ∈ l, 0 ≤ q ∧ q < (m : Int)) → l.length ≤ m := by
  intro m
  induction m with
  | zero =>
    intro l _ b
    cases l with
    | nil => exact Nat.le_refl _
    | cons q l => have := b q List.mem_cons_self; omega
  | succ m ih =>
    intro l nd b
    by_cases hm : ((m : Nat) : Int) ∈ l
    · have := ih (l.erase (m : Int)) (nd.erase _) (fun q hq => by
        have h1 := b q (List.mem_of_mem_erase hq)
        have h2 : q ≠ (m : Int) := (List.Nodup.mem_erase_iff nd).mp hq |>.1
        omega)
      rw [List.length_erase_of_mem hm] at this
      omega
    · have := ih l nd (fun q hq => by
        have h1 := b q hq
        have h2 : q ≠ (m : Int) := fun z => hm (z ▸ hq)
        omega)
      omega
def NonStr (H : Hp) (v : V) : Prop := v = .non ∨ (∃ i, v = .int i) ∨ (∃ b, v = .bl b) ∨ ∃ a, v = .ref a ∧ ((∃ xs, H a = some (.lst xs)) ∨ (∃ xs, H a = some (.tup xs)) ∨ ∃ kvs, H a = some (.dK kvs))
theorem NonStr.mono {H H' : Hp} {v : V} (e : Same H H') (h : NonStr H v) : NonStr H' v := by
  rcases h with h | h | h | ⟨a, h, h' | h' | h'⟩
  · exact .inl h
  · exact .inr (.inl h)
  · exact .inr (.inr (.inl h))
  · obtain ⟨xs, z⟩ := h'; exact .inr (.inr (.inr ⟨a, h, .inl ⟨xs, e _ _ z⟩⟩))
  · obtain ⟨xs, z⟩ := h'; exact .inr (.inr (.inr ⟨a, h, .inr (.inl ⟨xs, e _ _ z⟩)⟩))
  · obtain ⟨xs, z⟩ := h'; exact .inr (.inr (.inr ⟨a, h, .inr (.inr ⟨xs, e _ _ z⟩)⟩))
theorem NonStr.isi {K : PySem.W.Frag} {H : Hp} {v : V} (h : NonStr H v) : ∃ t, TyX K H v t ∧ PySem.W.kitOne K t (.type "str") = some false := by
  rcases h with rfl | ⟨i, rfl⟩ | ⟨b, rfl⟩ | ⟨a, rfl, ⟨xs, z⟩ | ⟨xs, z⟩ | ⟨xs, z⟩⟩
  · exact ⟨_, .base .non, kit_ty (by decide +kernel)⟩
  · exact ⟨_, .base (.int i), kit_ty (by decide +kernel)⟩
  · exact ⟨_, .base (.bl b), kit_ty (by decide +kernel)⟩
  · exact ⟨_, .base (.lst z), kit_ty (by decide +kernel)⟩
  · exact ⟨_, .base (.tup z), kit_ty (by decide +kernel)⟩
  · exact ⟨_, .base (.dK z), kit_ty (by decide +kernel)⟩
theorem len_sub : ∀ (l D : List Nat), l.Nodup → (∀ x ∈ l, x ∈ D) → l.length ≤ D.length
  | [], _, _, _ => Nat.zero_le _
  | x :: l, D, nd, h => by
    obtain ⟨n1, n2⟩ := List.nodup_cons.mp nd
    have hx := h x List.mem_cons_self
    have := len_sub l (D.erase x) n2 fun y hy => (List.mem_erase_of_ne (fun (e : y = x) => n1 (e ▸ hy))).mpr (h y (List.mem_cons_of_mem _ hy))
    rw [List.length_erase_of_mem hx] at this
    have hpos : 0 < D.length := List.length_pos_of_mem hx
    show l.length + 1 ≤ D.length
    omega
abbrev abc26 : List Nat := (List.range 26).map (· + 97)
def rNotInSg : R2 := fun x y H Q => ∃ (c : Nat) (z : Str), x = .str ⟨#[c]⟩ ∧ y = .str z ∧ Q (.bl (!decide (c ∈ z.cps.toList))) H
def txtV (x : List Nat) : V := .str (txt x)
theorem txt_app (x y : List Nat) : txt x ++ txt y = txt (x ++ y) := by
  rw [txt_of (txt x ++ txt y)]
  exact congrArg txt (by rw [show (txt x ++ txt y).cps.toList = tl (txt x ++ txt y) from rfl, tl_append]; simp [txt])
def rAddT : R2 := fun x y H Q => ∃ i j, x = .str i ∧ y = .str j ∧ i.length + j.length ≤ sizeLine ∧ Q (.str (i ++ j)) H
def rInSg : R2 := fun x y H Q => ∃ (c : Nat) (z : Str), x = .str ⟨#[c]⟩ ∧ y = .str z ∧ Q (.bl (decide (c ∈ z.cps.toList))) H
theorem in26 (c : Nat) : c ∈ (Str.ofString "abcdefghijklmnopqrstuvwxyz").cps.toList ↔ 97 ≤ c ∧ c < 123 := by
  rw [abc_codes]
  constructor
  · intro h
    obtain ⟨j, hj, e⟩ := List.mem_map.mp h
    have := List.mem_range.mp hj
    omega
  · intro h
    exact List.mem_map.mpr ⟨c - 97, List.mem_range.mpr (by omega), by omega⟩
/-! ### flat data -/
def Leaf (d : PyData) : Prop := d.canLay0 = true ∧ d.depth = 0
theorem leaf_lay : ∀ ds : List PyData, (∀ d ∈ ds, Leaf d) → PyData.canLayAll0 ds = true
  | [], _ => rfl
  | d :: ds, h => by
    rw [PyData.canLayAll0, (h d List.mem_cons_self).1, leaf_lay ds fun x hx => h x (List.mem_cons_of_mem _ hx)]
    rfl
theorem leaf_depth : ∀ ds : List PyData, (∀ d ∈ ds, Leaf d) → PyData.depthAll ds = 0
  | [], _ => by simp [PyData.depthAll]
  | d :: ds, h => by
    rw [PyData.depthAll, (h d List.mem_cons_self).2, leaf_depth ds fun x hx => h x (List.mem_cons_of_mem _ hx)]
    rfl
theorem leaf_list {ds : List PyData} (h : ∀ d ∈ ds, Leaf d) : SeqAt.shaped (.list ds) = true := by
  unfold SeqAt.shaped
  rw [PyData.canLay0, leaf_lay ds h, PyData.depth, leaf_depth ds h]
  rfl
theorem leaf_tuple {ds : List PyData} (h : ∀ d ∈ ds, Leaf d) : SeqAt.shaped (.tuple ds) = true := by
  unfold SeqAt.shaped
  rw [PyData.canLay0, leaf_lay ds h, PyData.depth, leaf_depth ds h]
  rfl
theorem leaf_int (i : Int) : Leaf (.int i) := ⟨by simp [PyData.canLay0], by simp [PyData.depth]⟩
theorem leaf_bool (b : Bool) : Leaf (.bool b) := ⟨by simp [PyData.canLay0], by simp [PyData.depth]⟩
theorem leaf_lt {c : Nat} (h : c < 123) : Leaf (.str (lt c)) := ⟨by
    have key : ∀ k : Fin 123, PyData.canLay0 (.str (lt k.val)) = true := by decide +kernel
    exact key ⟨c, h⟩, by simp [PyData.depth]⟩
theorem dp_map {α : Type} {K : PySem.W.Frag} {H : Hp} {f : α → V} {g : α → PyData} (h : ∀ a, Dp K H (f a) (g a)) : ∀ xs : List α, DpAll K H (xs.map f) (xs.map g)
  | [] => .nil
  | a :: xs => .cons (h a) (dp_map h xs)

/-- all letters -/
def Lets (x : List Nat) : Prop := ∀ c ∈ x, 97 ≤ c ∧ c < 123
/-! ### a reader's data -/
/-- what a move leads to and tells -/
abbrev Mv := Int × Option (List Nat)
/-- a state: sign, move -/
abbrev Rw := List (Nat × Mv)
def tellV : Option (List Nat) → V
  | none => .non
  | some x => txtV x
def MvAt (H : Hp) (p : Addr) (m : Mv) : Prop := H p = some (.tup [.int m.1, tellV m.2])
def entK (e : Nat × Mv) (p : Addr) : Key × V := (Sum.inr (lt e.1), V.ref p)
def RwAt (H : Hp) (q : Addr) (row : Rw) : Prop := ∃ ps : List Addr, H q = some (.dK (List.zipWith entK row ps)) ∧ Paired (fun p e => MvAt H p e.2) ps row
theorem RwAt.mono {H H' : Hp} {q : Addr} {row : Rw} (e : Same H H') (h : RwAt H q row) : RwAt H' q row := by
  obtain ⟨ps, h1, h2⟩ := h
  exact ⟨ps, e _ _ h1, Paired.mono h2 fun a b g => e _ _ g⟩
/-- what is no list stands -/
def SameN (H H' : Hp) : Prop := ∀ b o, H b = some o → (∀ xs, o ≠ .lst xs) → H' b = some o
theorem Same.n {H H' : Hp} (e : Same H H') : SameN H H' := fun b o h _ => e b o h
theorem SameN.upd {H : Hp} {p : Addr} {xs ys : List V} (h : H p = some (.lst xs)) : SameN H (upd H p (.lst ys)) := fun b o hb no => by
  rw [upd_ne fun z => ?_]
  · exact hb
  · rw [z, h] at hb
    cases hb
    exact no _ rfl
theorem RwAt.nl {H H' : Hp} {q : Addr} {row : Rw} (e : SameN H H') (h : RwAt H q row) : RwAt H' q row := by
  obtain ⟨ps, h1, h2⟩ := h
  exact ⟨ps, e _ _ h1 fun _ => nofun, Paired.mono h2 fun a b g => e _ _ g fun _ => nofun⟩
theorem val_new : ∀ {row : Rw} {ps : List Addr} {c : Nat}, c ∉ row.map (·.1) → valV (List.zipWith entK row ps) (Sum.inr (lt c)) = none := by
  intro row ps c h
  unfold valV
  rw [Option.map_eq_none_iff, List.find?_eq_none]
  intro x hx hk
  obtain ⟨i, hi, e⟩ := List.getElem_of_mem hx
  rw [List.getElem_zipWith] at e
  rw [← e] at hk
  have hk' : (Sum.inr (lt (row[i]'(by simp at hi; omega)).1) : Key) = Sum.inr (lt c) := by simpa [entK] using hk
  have hc : (row[i]'(by simp at hi; omega)).1 = c := by
    have := congrArg (fun z : Str => z.cps.toList) (Sum.inr.inj hk')
    simpa [lt] using this
  exact h (List.mem_map.mpr ⟨_, List.getElem_mem _, hc⟩)
/-- a name that a move tells -/
def Name (x : List Nat) : Prop := Lets x ∧ 1 ≤ x.length ∧ x.length ≤ 8
/-- the form of a reader, over page signs cs, text signs ts and marks ms -/
structure WfR (cs ts : List Nat) (ms : List (List Nat)) (rows : List Rw) (ends : List Int) (start : Int) : Prop where
  one : 1 ≤ rows.length
  most : rows.length ≤ 12
  nd : ∀ row ∈ rows, (row.map (·.1)).Nodup
  key : ∀ row ∈ rows, ∀ e ∈ row, e.1 ∈ cs
  goal : ∀ row ∈ rows, ∀ e ∈ row, 0 ≤ e.2.1 ∧ e.2.1 < (rows.length : Int)
  told : ∀ row ∈ rows, ∀ e ∈ row, ∀ x, e.2.2 = some x → (∃ c ∈ ts, x = [c]) ∨ x ∈ ms
  end0 : ∀ s ∈ ends, 0 ≤ s ∧ s < (rows.length : Int)
  endN : ends.Nodup
  st0 : 0 ≤ start
  st1 : start < (rows.length : Int)
/-- the letters and marks that are drawn -/
structure Pal (cs ts : List Nat) (ms : List (List Nat)) : Prop where
  csl : Lets cs
  tsl : Lets ts
  msl : ∀ x ∈ ms, Lets x ∧ 2 ≤ x.length ∧ x.length ≤ 8
  csn : cs.length ≤ 6
  tsn : ts.length ≤ 4
  msn : ms.length ≤ 6
/-- the law's tuple (rows, ends, start) -/
structure ModAt (H : Hp) (t : Addr) (rows : List Rw) (ends : List Int) (start : Int) : Prop where
  ex : ∃ (pr pe : Addr) (qs : List Addr), H t = some (.tup [.ref pr, .ref pe, .int start]) ∧ H pr = some (.lst (qs.map .ref)) ∧ Paired (RwAt H) qs rows ∧ H pe = some (.lst (ends.map .int))
theorem ModAt.mono {H H' : Hp} {t : Addr} {rows : List Rw} {ends : List Int} {start : Int} (e : Same H H') (m : ModAt H t rows ends start) : ModAt H' t rows ends start := by
  obtain ⟨pr, pe, qs, h1, h2, h3, h4⟩ := m.ex
  exact ⟨pr, pe, qs, e _ _ h1, e _ _ h2, Paired.mono h3 fun a b h => h.mono e, e _ _ h4⟩
/-- the move of a row by a sign -/
def mvOf (row : Rw) (c : Nat) : Option Mv := (row.find? fun e => decide (e.1 = c)).map (·.2)
end SS

set_option maxRecDepth 100000
set_option maxHeartbeats 4000000
set_option pp.maxSteps 1500
namespace SS
open PySem L2 SR TL
theorem sum_lt : ∀ l : List Nat, ((l.map lt).map (·.length)).sum = l.length := by
  intro l
  induction l with
  | nil => rfl
  | cons c l ih =>
    show (lt c).length + ((l.map lt).map (·.length)).sum = l.length + 1
    rw [ih]
    show 1 + l.length = l.length + 1
    omega
theorem inV_txts (y : List Nat) (ms : List (List Nat)) : inV (txtV y) (ms.map txtV) = decide (y ∈ ms) := by
  unfold inV
  induction ms with
  | nil => simp
  | cons a as ih =>
    rw [List.map_cons, List.any_cons, ih]
    show ((txt a == txt y) || decide (y ∈ as)) = _
    by_cases h : a = y
    · subst h; simp
    · have : (txt a == txt y) = false := beq_eq_false_iff_ne.mpr fun z => h (txt_inj z)
      rw [this, Bool.false_or]
      have h' : ¬ y = a := fun z => h z.symm
      simp [h']
theorem flat_txts (ms : List (List Nat)) : (ms.map txtV).all flatV = true := by
  rw [List.all_eq_true]
  intro v hv
  obtain ⟨y, _, rfl⟩ := List.mem_map.mp hv
  rfl
theorem len_subG {α : Type} [DecidableEq α] : ∀ (l D : List α), l.Nodup → (∀ x ∈ l, x ∈ D) → l.length ≤ D.length
  | [], _, _, _ => Nat.zero_le _
  | x :: l, D, nd, h => by
    obtain ⟨n1, n2⟩ := List.nodup_cons.mp nd
    have hx := h x List.mem_cons_self
    have := len_subG l (D.erase x) n2 fun y hy => (List.mem_erase_of_ne (fun (e : y = x) => n1 (e ▸ hy))).mpr (h y (List.mem_cons_of_mem _ hy))
    rw [List.length_erase_of_mem hx] at this
    have hpos : 0 < D.length := List.length_pos_of_mem hx
    show l.length + 1 ≤ D.length
    omega
theorem fresh_ex (ms : List (List Nat)) (x : List Nat) (h : ms.length ≤ 6) : ∃ y ys, ((x :: abc26.map fun c => [109, c]).filter fun y => decide (y ∉ ms)) = y :: ys ∧ y ∉ ms := by
  cases e : (x :: abc26.map fun c => [109, c]).filter fun y => decide (y ∉ ms) with
  | nil =>
    exfalso
    have : ∀ y ∈ abc26.map (fun c => [109, c]), y ∈ ms := fun y hy => by
      have := List.filter_eq_nil_iff.mp e y (List.mem_cons_of_mem _ hy)
      simpa using this
    have := len_subG (abc26.map fun c => [109, c]) ms (by decide +kernel) this
    simp at this
    omega
  | cons y ys =>
    have hm : y ∈ (x :: abc26.map fun c => [109, c]).filter fun y => decide (y ∉ ms) := by rw [e]; exact List.mem_cons_self
    exact ⟨y, ys, rfl, by simpa using (List.mem_filter.mp hm).2⟩
section
variable {P : Program} {w : World} {K : PySem.W.Frag} {mg : Str → Option Value} {base : Heap}
/-! ### _law_marks -/
abbrev sMarks : Stmt := top 59
abbrev nMarks : List Str := ["_law_rng_here", "_law_many", "_law_found", "_law_k", "_law_size", "_law_mark", "_law_turn", "_law_spare", "_law_letter", "_law_one"]
abbrev psMarks : List Str := ["_law_rng_here", "_law_many"]
theorem scMarks : FnScope nMarks psMarks (defScope sMarks) := ⟨rfl, rfl, rfl, by decide +kernel, rfl, by decide +kernel, by decide +kernel⟩
def spMarks : Sp := fun vs H Q _ => ∃ (r : Addr) (m : Nat), vs = [.ref r, .int m] ∧ m ≤ 6 ∧ H r = some (rngO r) ∧
  ∀ (ms : List (List Nat)) (p : Addr) (H' : Hp), ms.length = m → ms.Nodup → (∀ x ∈ ms, Lets x ∧ 2 ≤ x.length ∧ x.length ≤ 8) → H p = none → Same H H' → H' p = some (.lst (ms.map txtV)) → Q (.ref p) H'
theorem ok_marks {f : Addr} {fd : FuncData} (F : Fun K "_law_marks" "_law_marks" sMarks f fd) (B : Bl mg) (D : Cal P w K mg base "_law_draw" 1 ["_law_rng_here", "_law_many"] spDraw) : FnOk P w K mg base CX0 2 f fd psMarks spMarks := by
  refine F.ok scMarks (fun vs H Q E h => ?_) (fun cdv A outer s H vs Q E hr h => ?_)
  · obtain ⟨r, m, rfl, _⟩ := h
    rfl
  · obtain ⟨r, m, rfl, h6, hR, k⟩ := h
    have hr1 := hr
    refine ⟨_, pss_cons (ps_set (i := 2) scMarks.nd rfl (.inr rfl) (pe_lst pa_nil))
      (pss_cons (ps_for PassesOwn.never rfl (pi_range1 (by rfl) B.range (pa_cons (pv 1) pa_nil)) (pg_name (i := 3) scMarks.nd rfl (.inl rfl))
        (pss_cons (ps_set (i := 4) scMarks.nd rfl (.inl rfl) (pe_op op_add pe_int (pe_ix ix_list (pe_lst (pa_cons pe_int (pa_cons pe_int (pa_cons pe_int (pa_cons pe_int pa_nil))))) (pe_cal D hr1 (pa_cons (pv 0) (pa_cons pe_int pa_nil))) (fun _ _ => rfl))))
      (pss_cons (ps_set (i := 5) scMarks.nd rfl (.inl rfl) (pe_join pe_str (pe_lc (own := [("_law_turn", 6)]) (g := gName 6) (tt := tYes) (te := tOp (rIxS) (tC (.str (Str.ofString "abcdefghijklmnopqrstuvwxyz"))) (tCall spDraw [] E0 (tCons (tVar 0) (tCons (tC (.int 26)) tNil)))) rfl scMarks.nd (pi_range1 (by rfl) B.range (pa_cons (pv 4) pa_nil)) (blkOk_by (by kernel_rfl)) (fun _ _ _ _ _ => pg_name (i := 6) scMarks.nd rfl (.inl rfl)) (fun _ _ _ _ _ => pts_nil) (fun _ _ _ _ _ => pe_ix ix_str pe_str (pe_cal D hr1 (pa_cons (pv 0) (pa_cons pe_int pa_nil))) (fun _ _ => rfl)))))
      (pss_cons (ps_setLc (i := 7) (own := [("_law_letter", 8)]) (g := gName 8) (tt := tYes) (te := tOp (rAddT) (tC (.str (Str.ofString "m"))) (tVar 8)) rfl scMarks.nd rfl rfl (sw_true rfl rfl rfl (by decide +kernel)) (pi_str pe_str) (blkOk_by (by kernel_rfl)) (fun _ _ _ _ _ => pg_name (i := 8) scMarks.nd rfl (.inl rfl)) (fun _ _ _ _ _ => pts_nil) (fun _ _ _ _ _ => pe_op op_add_str pe_str (pv 8)))
      (pss_one (ps_expr (pe_bm PySem.F.plainAttrs_list PySem.F.slot_list_append PySem.F.type_list_append mt_append (pv 2) (pa_cons (pe_ix ix_list (pe_lc (own := [("_law_one", 9)]) (g := gName 9) (tt := tTest (tOp (rIn K true) (tVar 9) (tVar 2))) (te := tVar 9) rfl scMarks.nd (pi_list (pe_op op_cat (pe_lst (pa_cons (pv 5) pa_nil)) (pv 7))) (blkOk_by (by kernel_rfl)) (fun _ _ _ _ _ => pg_name (i := 9) scMarks.nd rfl (.inl rfl)) (fun _ _ _ _ _ => pts_one (pt_cmpR op_notIn_seq (pv 9) (pv 2) (by rfl))) (fun _ _ _ _ _ => pv 9)) pe_int (fun _ _ => rfl)) pa_nil))))))))
      (pss_one (ps_ret (pv 2)))), ?_⟩
    refine ⟨by show 0 ≤ sizeLine; decide, fun po hpo => ?_⟩
    have e1 : Same H (upd H po (.lst [])) := same_new hpo
    refine ⟨_, rfl, _, rfl, by omega, by omega, ?_⟩
    rw [show ((m : Nat) : Int).toNat = m from Int.toNat_natCast _]
    refine for_it (walk_range (lo := 0) (n := m)) (fun i σ H' => Same H H' ∧ ∃ a3 a4 a5 a6 a7 a8 a9, ∃ ms : List (List Nat), σ = [some (.ref r), some (.int m), some (.ref po), a3, a4, a5, a6, a7, a8, a9] ∧ H' po = some (.lst (ms.map txtV)) ∧ ms.length = i ∧ ms.Nodup ∧ ∀ x ∈ ms, Lets x ∧ 2 ≤ x.length ∧ x.length ≤ 8) ⟨e1, none, none, none, none, none, none, none, [], rfl, upd_same, rfl, List.Pairwise.nil, fun x hx => by cases hx⟩ (fun _ _ _ _ _ => trivial) ?_ ?_
    · rintro i v σ H1 H1' hi ⟨em, a3, a4, a5, a6, a7, a8, a9, ms, rfl, hpo1, hml, hmn, hms⟩ ⟨rfl, rfl⟩
      refine ⟨by show 4 ≤ sizeLine; decide, fun p4 hp4 => ?_⟩
      have f1 : Same H1' (upd H1' p4 (.lst [.int 1, .int 1, .int 2, .int 7])) := same_new hp4
      refine ⟨_, rfl, r, _, rfl, by decide, by decide, f1 _ _ (em _ _ hR), fun d H2 d0 d1 e2 => ?_⟩
      obtain ⟨v, hv1, hv2⟩ := atI_in (xs := [V.int 1, .int 1, .int 2, .int 7]) d0 d1
      obtain ⟨sz, rfl, hsz⟩ : ∃ sz : Nat, v = .int sz ∧ 1 ≤ sz ∧ sz ≤ 7 := by
        simp only [List.mem_cons, List.not_mem_nil, or_false] at hv2
        rcases hv2 with rfl | rfl | rfl | rfl
        · exact ⟨1, rfl, by decide, by decide⟩
        · exact ⟨1, rfl, by decide, by decide⟩
        · exact ⟨2, rfl, by decide, by decide⟩
        · exact ⟨7, rfl, by decide, by decide⟩
      refine ⟨p4, _, _, _, rfl, rfl, SqL.of (e2 _ _ upd_same), hv1, _, _, rfl, rfl, ?_⟩
      have f2 := f1.trans e2
      have em2 := em.trans f2
      -- the mark
      refine ⟨⟨_, rfl⟩, _, rfl, _, rfl, by omega, by omega, fun D1 hD1 => lc_S (walk_range (lo := 0) (n := (1 + (sz : Int)).toNat)) hD1 (by omega) (fun j acc _ => ∃ x : List Nat, acc = x.map ltV ∧ x.length = j ∧ Lets x) (fun _ _ _ _ _ _ _ h => h) ⟨[], rfl, rfl, fun c hc => by cases hc⟩ (fun _ _ => trivial) ?_ ?_⟩
      · rintro j v H3 H3' acc Qt Qf hj e3 hd ⟨x, rfl, hxl, hx⟩ ⟨rfl, rfl⟩ kt kf
        refine ⟨rfl, _, rfl, r, _, rfl, by decide, by decide, (em2.trans e3) _ _ hR, fun d' H4 d0' d1' e4 => ?_⟩
        have hlen : (Str.ofString "abcdefghijklmnopqrstuvwxyz").cps.toList.length = 26 := by decide +kernel
        obtain ⟨c, hc1, hc2⟩ := atI_in (xs := (Str.ofString "abcdefghijklmnopqrstuvwxyz").cps.toList) (d := d') d0' (by rw [hlen]; exact d1')
        refine ⟨_, d', c, rfl, rfl, by decide +kernel, hc1, kt _ _ e4 ⟨x ++ [c], by rw [List.map_append]; rfl, by rw [List.length_append, hxl]; rfl, fun b hb => ?_⟩⟩
        rcases List.mem_append.mp hb with z | z
        · exact hx b z
        · rw [List.mem_singleton.mp z]; exact (in26 c).mp hc2
      rintro H3 acc e3 hd3 ⟨x, rfl, hxl, hx⟩
      have hxl' : x.length = 1 + sz := by omega
      refine ⟨_, D1, x.map lt, rfl, rfl, .inl (SqL.of (by rw [List.map_map]; exact hd3)), ?_, ?_⟩
      · rw [sum_lt, List.length_map]
        show x.length + x.length * 0 ≤ 16777216
        omega
      rw [join_lt]
      have f3 := f2.trans e3
      -- the spare ones
      have h26 : (Str.ofString "abcdefghijklmnopqrstuvwxyz").cps.size = 26 := by decide +kernel
      refine ⟨_, rfl, fun D2 hD2 => lc_S walk_str hD2 (by rw [h26]; decide) (fun j acc _ => acc = (abc26.take j).map fun c => txtV [109, c]) (fun _ _ _ _ _ _ _ h => h) rfl (fun _ _ => trivial) ?_ ?_⟩
      · rintro j v H4 H4' acc Qt Qf hj e4 hd rfl ⟨rfl, c, hc, rfl⟩ kt kf
        have hc' : abc26[j]? = some c := by
          have e := abc_codes
          show ((List.range 26).map (· + 97))[j]? = some c
          rw [← e, Array.getElem?_toList]
          exact hc
        refine ⟨rfl, _, rfl, _, _, rfl, rfl, by show 1 + 1 ≤ sizeLine; decide, kt _ _ (Same.refl _) ?_⟩
        rw [List.take_add_one, hc', List.map_append]
        rfl
      rintro H4 acc e4 hd4 rfl
      rw [h26, show abc26.take 26 = abc26 from rfl] at hd4
      have f4 := f3.trans e4
      have hpo4 := f4 _ _ hpo1
      refine ⟨_, rfl, .inl ⟨rfl, _, SqL.of hpo4⟩, ?_⟩
      refine ⟨_, rfl, by show 1 ≤ sizeLine; decide, fun p5 hp5 => ⟨_, rfl, p5, D2, _, _, rfl, rfl, upd_same, (same_new hp5) _ _ hd4, by rw [List.length_map]; show 1 + 26 ≤ sizeLine; decide, fun p6 hp6 => ?_⟩⟩
      have f5 : Same H4 (upd (upd H4 p5 (.lst [.str (txt x)])) p6 (.lst ([.str (txt x)] ++ abc26.map fun c => txtV [109, c]))) := (same_new hp5).trans (same_new hp6)
      have h6' : (upd (upd H4 p5 (.lst [.str (txt x)])) p6 (.lst ([.str (txt x)] ++ abc26.map fun c => txtV [109, c]))) p6 = some (.lst ((x :: abc26.map fun c => [109, c]).map txtV)) := by
        rw [upd_same]
        show some (HO.lst (txtV x :: _)) = some (HO.lst (txtV x :: _))
        rw [List.map_map]
        rfl
      generalize upd (upd H4 p5 (.lst [.str (txt x)])) p6 (.lst ([.str (txt x)] ++ abc26.map fun c => txtV [109, c])) = H5 at f5 h6'
      have f15 := f4.trans f5
      generalize hall : (x :: abc26.map fun c => [109, c]) = all at h6'
      have hall27 : all.length = 27 := by rw [← hall]; rfl
      refine ⟨p6, rfl, ⟨_, SqL.of h6'⟩, fun D3 hD3 => lc_S (walk_list (K := K) (a := p6) (xs := all.map txtV)) hD3 (by rw [List.length_map]; omega) (fun j acc _ => acc = ((all.take j).filter fun y => decide (y ∉ ms)).map txtV) (fun _ _ _ _ _ _ _ h => h) rfl (fun H' e' => SqL.of (e' _ _ h6')) ?_ ?_⟩
      · rintro j v H6 H6' acc Qt Qf hj e6 hd rfl ⟨rfl, hv⟩ kt kf
        rw [List.getElem?_map] at hv
        obtain ⟨y, hy, rfl⟩ := Option.map_eq_some_iff.mp hv
        refine ⟨rfl, _, rfl, _, rfl, po, _, rfl, .inl (SqL.of (e6 _ _ (f15 _ _ hpo1))), rfl, flat_txts ms, _, rfl, ?_⟩
        rw [inV_txts]
        by_cases hm : y ∈ ms
        · rw [decide_eq_true hm]
          refine kf _ (Same.refl _) ?_
          rw [List.take_add_one, hy]
          simp [hm]
        · rw [decide_eq_false hm]
          refine ⟨_, rfl, kt _ _ (Same.refl _) ?_⟩
          rw [List.take_add_one, hy]
          simp [hm]
      rintro H6 acc e6 hd6 rfl
      rw [List.length_map, List.take_length] at hd6
      obtain ⟨y, ys, ey, ym⟩ := fresh_ex ms x (by omega)
      rw [← hall, ey] at hd6
      have hy : Lets y ∧ 2 ≤ y.length ∧ y.length ≤ 8 := by
        have : y ∈ (x :: abc26.map fun c => [109, c]) := (List.mem_filter.mp (by rw [ey]; exact List.mem_cons_self)).1
        rcases List.mem_cons.mp this with rfl | z
        · exact ⟨hx, by omega, by omega⟩
        · obtain ⟨c, hc, rfl⟩ := List.mem_map.mp z
          obtain ⟨j, hj, rfl⟩ := List.mem_map.mp hc
          have := List.mem_range.mp hj
          refine ⟨fun b hb => ?_, by show 2 ≤ 2; decide, by show 2 ≤ 8; decide⟩
          simp only [List.mem_cons, List.not_mem_nil, or_false] at hb
          rcases hb with rfl | rfl <;> omega
      refine ⟨D3, _, _, txtV y, rfl, rfl, SqL.of hd6, atI_of (Int.le_refl _) rfl, ?_⟩
      have f6 := f15.trans e6
      refine ⟨po, _, _, rfl, rfl, f6 _ _ hpo1, by rw [List.length_map, sizeLine_eq]; omega, ?_⟩
      refine ⟨same_upd (em.trans f6) hpo, _, _, _, _, _, _, _, ms ++ [y], rfl, by rw [upd_same, List.map_append]; rfl, by rw [List.length_append, hml]; rfl, ?_, fun z hz => ?_⟩
      · rw [List.nodup_append]
        refine ⟨hmn, List.pairwise_singleton _ _, fun a ha b hb => ?_⟩
        rw [List.mem_singleton.mp hb]
        exact fun z => ym (z ▸ ha)
      · rcases List.mem_append.mp hz with h | h
        · exact hms z h
        · rw [List.mem_singleton.mp h]; exact hy
    · rintro σ H1 ⟨em, a3, a4, a5, a6, a7, a8, a9, ms, rfl, hpo1, hml, hmn, hms⟩
      exact ⟨_, rfl, k ms po H1 hml hmn hms hpo em hpo1⟩
end
end SS

set_option maxRecDepth 100000
set_option maxHeartbeats 4000000
set_option pp.maxSteps 1500
namespace SS
open PySem L2 SR TL
theorem tell_choice {ts : List Nat} {ms : List (List Nat)} {x : V} (h : x ∈ [V.non] ++ (List.replicate 2 (ts.map ltV)).flatten ++ ms.map txtV) : ∃ o : Option (List Nat), x = tellV o ∧ ∀ z, o = some z → (∃ c ∈ ts, z = [c]) ∨ z ∈ ms := by
  rcases List.mem_append.mp h with h | h
  · rcases List.mem_append.mp h with h | h
    · exact ⟨none, List.mem_singleton.mp h, fun z e => by cases e⟩
    · obtain ⟨l, hl, hx⟩ := List.mem_flatten.mp h
      rw [List.eq_of_mem_replicate hl] at hx
      obtain ⟨c, hc, rfl⟩ := List.mem_map.mp hx
      exact ⟨some [c], rfl, fun z e => by cases e; exact .inl ⟨c, hc, rfl⟩⟩
  · obtain ⟨m, hm, rfl⟩ := List.mem_map.mp h
    exact ⟨some m, rfl, fun z e => by cases e; exact .inr hm⟩
/-- rows as they grow -/
def RowOk (cs ts : List Nat) (ms : List (List Nat)) (n : Nat) (row : Rw) : Prop := (row.map (·.1)).Nodup ∧ ∀ e ∈ row, e.1 ∈ cs ∧ (0 ≤ e.2.1 ∧ e.2.1 < (n : Int)) ∧ ∀ z, e.2.2 = some z → (∃ c ∈ ts, z = [c]) ∨ z ∈ ms
section
variable {P : Program} {w : World} {K : PySem.W.Frag} {mg : Str → Option Value} {base : Heap}
/-! ### _law_any_format -/
abbrev sAny : Stmt := top 60
abbrev nAny : List Str := ["_law_rng_here", "_law_cap", "_law_paper", "_law_tells", "_law_marks_here", "_law_many", "_law_rows", "_law_spot", "_law_line", "_law_letter", "_law_told", "_law_stops"]
abbrev psAny : List Str := ["_law_rng_here", "_law_cap", "_law_paper", "_law_tells", "_law_marks_here"]
theorem scAny : FnScope nAny psAny (defScope sAny) := ⟨rfl, rfl, rfl, by decide +kernel, rfl, by decide +kernel, by decide +kernel⟩
def spAny : Sp := fun vs H Q _ => ∃ (r pc pt pm : Addr) (cap : Nat) (cs ts : List Nat) (ms : List (List Nat)), vs = [.ref r, .int cap, .ref pc, .ref pt, .ref pm] ∧ 1 ≤ cap ∧ cap ≤ 12 ∧ Pal cs ts ms ∧ cs.Nodup ∧ H r = some (rngO r) ∧
  H pc = some (.lst (cs.map ltV)) ∧ H pt = some (.lst (ts.map ltV)) ∧ H pm = some (.lst (ms.map txtV)) ∧
  ∀ (t : Addr) (rows : List Rw) (ends : List Int) (start : Int) (H' : Hp), WfR cs ts ms rows ends start → rows.length ≤ cap → H t = none → Same H H' → ModAt H' t rows ends start → Q (.ref t) H'
theorem ok_any {f : Addr} {fd : FuncData} (F : Fun K "_law_any_format" "_law_any_format" sAny f fd) (B : Bl mg) (D : Cal P w K mg base "_law_draw" 1 ["_law_rng_here", "_law_many"] spDraw) (C : Cal P w K mg base "_law_choice" 2 ["_law_rng_here", "_law_some"] (spChoice K)) : FnOk P w K mg base CX0 3 f fd psAny spAny := by
  refine F.ok scAny (fun vs H Q E h => ?_) (fun cdv A outer s H vs Q E hr h => ?_)
  · obtain ⟨r, pc, pt, pm, cap, cs, ts, ms, rfl, _⟩ := h
    rfl
  · obtain ⟨r, pc, pt, pm, cap, cs, ts, ms, rfl, c1, c12, PA', cnd, hR, hc, ht, hm, k⟩ := h
    have hr1 := hr.mono (by decide : 1 ≤ 2)
    have hu := hu_of hr
    refine ⟨_, pss_cons (ps_set (i := 5) scAny.nd rfl (.inl rfl) (pe_op op_add pe_int (pe_cal D hr1 (pa_cons (pv 0) (pa_cons (pv 1) pa_nil)))))
      (pss_cons (ps_set (i := 6) scAny.nd rfl (.inl rfl) (pe_lst pa_nil))
      (pss_cons (ps_for PassesOwn.never rfl (pi_range1 (by rfl) B.range (pa_cons (pv 5) pa_nil)) (pg_name (i := 7) scAny.nd rfl (.inl rfl))
        (pss_cons (ps_set (i := 8) scAny.nd rfl (.inl rfl) pe_dnewK)
      (pss_cons (ps_for PassesOwn.never rfl (pi_list (pv 2)) (pg_name (i := 9) scAny.nd rfl (.inl rfl))
        (pss_one (ps_if (pt_cmpR op_gt (pe_cal D hr1 (pa_cons (pv 0) (pa_cons pe_int pa_nil))) pe_int (nomark _))
        (pss_cons (ps_set (i := 10) scAny.nd rfl (.inl rfl) (pe_cal C hr (pa_cons (pv 0) (pa_cons (pe_op op_cat (pe_op op_cat (pe_lst (pa_cons pe_non pa_nil)) (pe_op op_rep (pv 3) pe_int)) (pv 4)) pa_nil))))
      (pss_one (ps_dput hu (pv 8) (pv 9) (pe_tup (pa_cons (pe_cal D hr1 (pa_cons (pv 0) (pa_cons (pv 5) pa_nil))) (pa_cons (pv 10) pa_nil))) rfl))) pss_nil)))
      (pss_one (ps_expr (pe_bm PySem.F.plainAttrs_list PySem.F.slot_list_append PySem.F.type_list_append mt_append (pv 6) (pa_cons (pv 8) pa_nil)))))))
      (pss_cons (ps_setLc (i := 11) (own := [("_law_spot", 7)]) (g := gName 7) (tt := tTest (tOp (rEq) (tCall spDraw [] E0 (tCons (tVar 0) (tCons (tC (.int 2)) tNil))) (tC (.int 0)))) (te := tVar 7) rfl scAny.nd rfl rfl (sw_true rfl rfl rfl (by decide +kernel)) (pi_range1 (by rfl) B.range (pa_cons (pv 5) pa_nil)) (blkOk_by (by kernel_rfl)) (fun _ _ _ _ _ => pg_name (i := 7) scAny.nd rfl (.inl rfl)) (fun _ _ _ _ _ => pts_one (pt_cmpR op_eq (pe_cal D hr1 (pa_cons (pv 0) (pa_cons pe_int pa_nil))) pe_int (nomark _))) (fun _ _ _ _ _ => pv 7))
      (pss_one (ps_ret (pe_tup (pa_cons (pv 6) (pa_cons (pv 11) (pa_cons (pe_cal D hr1 (pa_cons (pv 0) (pa_cons (pv 5) pa_nil))) pa_nil))))))))), ?_⟩
    refine ⟨_, rfl, _, rfl, r, _, rfl, by omega, by omega, hR, fun d H1 d0 d1 e1 => ⟨_, _, rfl, rfl, ?_⟩⟩
    obtain ⟨n, hn⟩ : ∃ n : Nat, 1 + d = (n : Int) := ⟨(1 + d).toNat, by omega⟩
    have n1 : 1 ≤ n ∧ n ≤ cap := by omega
    show gName 5 (V.int (1 + d)) _ _ _
    rw [hn]
    refine ⟨by show 0 ≤ sizeLine; decide, fun po hpo => ?_⟩
    have hpoH : H po = none := e1.free hpo
    refine ⟨_, rfl, _, rfl, by omega, by omega, ?_⟩
    rw [show ((n : Nat) : Int).toNat = n from Int.toNat_natCast _]
    refine for_it (walk_range (lo := 0) (n := n)) (fun i σ H' => Same H H' ∧ ∃ a7 a8 a9 a10 a11, ∃ (qs : List Addr) (rows : List Rw), σ = [some (.ref r), some (.int cap), some (.ref pc), some (.ref pt), some (.ref pm), some (.int n), some (.ref po), a7, a8, a9, a10, a11] ∧ H' po = some (.lst (qs.map .ref)) ∧ Paired (RwAt H') qs rows ∧ rows.length = i ∧ ∀ row ∈ rows, RowOk cs ts ms n row) ⟨same_upd e1 hpoH, none, none, none, none, none, [], [], rfl, upd_same, .nil, rfl, fun x hx => by cases hx⟩ (fun _ _ _ _ _ => trivial) ?_ ?_
    · rintro i v σ H2 H2' hi ⟨em, a7, a8, a9, a10, a11, qs, rows, rfl, hpo2, hqs, hrl, hrows⟩ ⟨rfl, rfl⟩
      intro pl hpl
      have npl : po ≠ pl := ne_of_none hpo2 hpl
      refine ⟨_, rfl, pc, rfl, ⟨_, SqL.of ((em.trans (same_new hpl)) _ _ hc)⟩, for_it (walk_list (K := K) (a := pc) (xs := cs.map ltV)) (fun j σ H' => Same H2' H' ∧ ∃ a9 a10 a11, ∃ (row : Rw) (ps : List Addr), σ = [some (.ref r), some (.int cap), some (.ref pc), some (.ref pt), some (.ref pm), some (.int n), some (.ref po), some (.int (0 + (i : Nat))), some (.ref pl), a9, a10, a11] ∧ H' pl = some (.dK (List.zipWith entK row ps)) ∧ Paired (fun p e => MvAt H' p e.2) ps row ∧ RowOk cs ts ms n row ∧ ∀ e ∈ row, e.1 ∈ cs.take j) ⟨same_new hpl, a9, a10, a11, [], [], rfl, upd_same, .nil, ⟨List.Pairwise.nil, fun e he => by cases he⟩, fun e he => by cases he⟩ (fun j σ H' _ p => SqL.of ((em.trans p.1) _ _ hc)) ?_ ?_⟩
      · rintro j v σ H3 H3' hj ⟨e3, b9, b10, b11, row, ps, rfl, hd3, hps, hrow, hkey⟩ ⟨rfl, hv⟩
        rw [List.getElem?_map] at hv
        obtain ⟨c, hc', rfl⟩ := Option.map_eq_some_iff.mp hv
        have em3 := em.trans e3
        refine ⟨_, rfl, r, _, rfl, by decide, by decide, em3 _ _ hR, fun d' H4 d0' d1' e4 => ?_⟩
        have em4 := em3.trans e4
        refine ⟨_, _, rfl, rfl, _, rfl, ite2 (fun hd => ?_) (fun hd => ?_)⟩
        · -- a move is written
          refine ⟨_, rfl, by show 1 ≤ sizeLine; decide, fun p1 hp1 => ?_⟩
          have g1 : Same H4 (upd H4 p1 (.lst [.non])) := same_new hp1
          refine ⟨_, rfl, pt, 2, _, rfl, rfl, g1 _ _ (em4 _ _ ht), by decide, by decide, ?_, fun p2 hp2 => ?_⟩
          · have := PA'.tsn
            rw [List.length_map, sizeLine_eq]
            show ts.length * 2 ≤ _
            omega
          have g2 := g1.trans (same_new (o := .lst (List.replicate (2 : Int).toNat (ts.map ltV)).flatten) hp2)
          have q1 : (upd (upd H4 p1 (.lst [.non])) p2 (.lst (List.replicate (2 : Int).toNat (ts.map ltV)).flatten)) p1 = some (.lst [.non]) := (same_new hp2) _ _ upd_same
          have q2 : (upd (upd H4 p1 (.lst [.non])) p2 (.lst (List.replicate (2 : Int).toNat (ts.map ltV)).flatten)) p2 = some (.lst (List.replicate 2 (ts.map ltV)).flatten) := upd_same
          generalize (upd (upd H4 p1 (.lst [.non])) p2 (.lst (List.replicate (2 : Int).toNat (ts.map ltV)).flatten)) = H5 at g2 q1 q2
          have l2 : (List.replicate 2 (ts.map ltV)).flatten.length ≤ 8 := by
            have := PA'.tsn
            simp
            omega
          refine ⟨p1, p2, _, _, rfl, rfl, q1, q2, by rw [sizeLine_eq]; show 1 + _ ≤ _; omega, fun p3 hp3 => ?_⟩
          have g3 := g2.trans (same_new (o := .lst ([.non] ++ (List.replicate 2 (ts.map ltV)).flatten)) hp3)
          refine ⟨_, rfl, p3, pm, _, _, rfl, rfl, upd_same, g3 _ _ (em4 _ _ hm), ?_, fun p4 hp4 => ?_⟩
          · have := PA'.msn
            rw [List.length_append, List.length_map, sizeLine_eq]
            show 1 + _ + _ ≤ _
            omega
          have g4 := g3.trans (same_new (o := .lst ([.non] ++ (List.replicate 2 (ts.map ltV)).flatten ++ ms.map txtV)) hp4)
          refine .inl ⟨r, p4, _, rfl, g4 _ _ (em4 _ _ hR), SqL.of upd_same, ?_, ?_, fun x H6 hx e6 => ?_⟩
          · rw [List.length_append, List.length_append]
            show 0 < 1 + _ + _
            omega
          · have := PA'.msn
            rw [List.length_append, List.length_append, List.length_map]
            show 1 + _ + _ < _
            omega
          obtain ⟨o, rfl, ho⟩ := tell_choice hx
          have g6 := g4.trans e6
          have em6 := em4.trans g6
          refine ⟨_, rfl, _, rfl, r, _, rfl, by omega, by omega, em6 _ _ hR, fun d2 H7 d20 d21 e7 => ⟨_, rfl, by show 2 ≤ sizeLine; decide, fun p5 hp5 => ?_⟩⟩
          have g7 : Same H3' (upd H7 p5 (.tup [.int d2, tellV o])) := ((e4.trans g6).trans e7).trans (same_new hp5)
          refine ⟨_, rfl, _, rfl, pl, _, rfl, DPut.k (k := Sum.inr (lt c)) (g7 _ _ hd3) ?_, ?_⟩
          · have : (List.zipWith entK row ps).length ≤ row.length := by rw [List.length_zipWith]; exact Nat.min_le_left _ _
            have : row.length ≤ 6 := by
              have h1 := len_subG (row.map (·.1)) cs hrow.1 fun y hy => by
                obtain ⟨e, he, rfl⟩ := List.mem_map.mp hy
                exact (hrow.2 e he).1
              rw [List.length_map] at h1
              have := PA'.csn
              omega
            rw [sizeLine_eq]
            omega
          have hcn : c ∉ row.map (·.1) := fun hm' => by
            obtain ⟨e, he, ee⟩ := List.mem_map.mp hm'
            have := hkey e he
            rw [ee] at this
            obtain ⟨i2, hi2, e2⟩ := List.getElem_of_mem this
            rw [List.getElem_take] at e2
            have hj' : j < cs.length := (List.getElem?_eq_some_iff.mp hc').1
            have hi2' : i2 < j := by
              rw [List.length_take] at hi2
              omega
            have e3' : cs[j] = c := (List.getElem?_eq_some_iff.mp hc').2
            exact absurd ((List.getElem_inj cnd).mp (e2.trans e3'.symm)) (by omega)
          rw [putK_new _ (val_new hcn)]
          have hlen : ps.length = row.length := Paired.length hps
          have nplp : ∀ b o, H3' b = some o → (∀ kv, o ≠ .dK kv) → b ≠ pl := fun b o hb no z => by
            rw [z, hd3] at hb
            cases hb
            exact no _ rfl
          have n5 : p5 ≠ pl := fun z => by
            have := ((e4.trans g6).trans e7) _ _ hd3
            rw [← z, hp5] at this
            cases this
          refine ⟨same_upd (e3.trans g7) hpl, _, _, _, row ++ [(c, (d2, o))], ps ++ [p5], rfl, ?_, ?_, ⟨?_, ?_⟩, ?_⟩
          · rw [upd_same, List.zipWith_append hlen.symm]
            rfl
          · refine paired_snoc (Paired.mono hps fun a b h => ?_) ?_
            · show (upd _ pl _) a = _
              rw [upd_ne (nplp _ _ h fun _ => nofun)]
              exact g7 _ _ h
            · show (upd _ pl _) p5 = _
              rw [upd_ne n5, upd_same]
          · rw [List.map_append, List.nodup_append]
            refine ⟨hrow.1, List.pairwise_singleton _ _, fun a ha b hb => ?_⟩
            have hb' : b = c := List.mem_singleton.mp hb
            rw [hb']
            exact fun z => hcn (z ▸ ha)
          · intro e he
            rcases List.mem_append.mp he with h | h
            · exact hrow.2 e h
            · rw [List.mem_singleton.mp h]
              exact ⟨List.mem_of_getElem? hc', ⟨d20, d21⟩, ho⟩
          · intro e he
            rw [List.take_add_one, hc']
            rcases List.mem_append.mp he with h | h
            · exact List.mem_append_left _ (hkey e h)
            · rw [List.mem_singleton.mp h]
              exact List.mem_append_right _ List.mem_cons_self
        · refine ⟨e3.trans e4, _, _, _, row, ps, rfl, e4 _ _ hd3, Paired.mono hps fun a b h => e4 _ _ h, hrow, fun e he => ?_⟩
          rw [List.take_add_one]
          exact List.mem_append_left _ (hkey e he)
      · rintro σ H3 ⟨e3, b9, b10, b11, row, ps, rfl, hd3, hps, hrow, hkey⟩
        have hpo3 := e3 _ _ hpo2
        refine ⟨_, rfl, .inl ⟨rfl, _, SqL.of hpo3⟩, _, rfl, po, _, _, rfl, rfl, hpo3, ?_, ?_⟩
        · have : qs.length = rows.length := Paired.length hqs
          rw [List.length_map, sizeLine_eq]
          omega
        have nn := SameN.upd (ys := qs.map .ref ++ [.ref pl]) hpo3
        refine ⟨same_upd (em.trans e3) hpoH, _, _, _, _, _, qs ++ [pl], rows ++ [row], rfl, by rw [upd_same, List.map_append]; rfl, paired_snoc (Paired.mono hqs fun a b h => (h.mono e3).nl nn) (RwAt.nl nn ⟨ps, hd3, hps⟩), by rw [List.length_append, hrl]; rfl, fun row' h => ?_⟩
        rcases List.mem_append.mp h with h | h
        · exact hrows row' h
        · rw [List.mem_singleton.mp h]; exact hrow
    · rintro σ H2 ⟨em, a7, a8, a9, a10, a11, qs, rows, rfl, hpo2, hqs, hrl, hrows⟩
      refine ⟨_, rfl, _, rfl, by omega, by omega, fun Ds hDs => ?_⟩
      rw [show ((n : Nat) : Int).toNat = n from Int.toNat_natCast _]
      refine lc_S (walk_range (lo := 0) (n := n)) hDs (by omega) (fun j acc _ => ∃ es : List Int, acc = es.map .int ∧ es.Nodup ∧ ∀ e ∈ es, 0 ≤ e ∧ e < (j : Int)) (fun _ _ _ _ _ _ _ h => h) ⟨[], rfl, List.Pairwise.nil, fun e he => by cases he⟩ (fun _ _ => trivial) ?_ ?_
      · rintro j v H3 H3' acc Qt Qf hj e3 hd ⟨es, rfl, hen, her⟩ ⟨rfl, rfl⟩ kt kf
        refine ⟨rfl, _, rfl, r, _, rfl, by decide, by decide, (em.trans e3) _ _ hR, fun d' H4 d0' d1' e4 => ⟨rfl, _, rfl, ite2 (fun hd => ?_) (fun hd => ?_)⟩⟩
        · refine ⟨_, rfl, kt _ _ e4 ⟨es ++ [(j : Int)], by rw [List.map_append]; show _ ++ [V.int (0 + (j : Int))] = _; rw [Int.zero_add]; rfl, ?_, fun e he => ?_⟩⟩
          · rw [List.nodup_append]
            refine ⟨hen, List.pairwise_singleton _ _, fun a ha b hb => ?_⟩
            rw [List.mem_singleton.mp hb]
            have := (her a ha).2
            omega
          · rcases List.mem_append.mp he with h | h
            · have := her e h
              omega
            · rw [List.mem_singleton.mp h]; omega
        · exact kf _ e4 ⟨es, rfl, hen, fun e he => by have := her e he; omega⟩
      · rintro H3 acc e3 hd ⟨es, rfl, hen, her⟩
        refine ⟨_, rfl, _, rfl, _, rfl, _, rfl, r, _, rfl, by omega, by omega, (em.trans e3) _ _ hR, fun d' H4 d0' d1' e4 => ⟨by show 3 ≤ sizeLine; decide, fun t ht' => ?_⟩⟩
        have et : Same H4 (upd H4 t (.tup [.ref po, .ref Ds, .int d'])) := same_new ht'
        have e24 := (e3.trans e4).trans et
        refine k t rows es d' _ ⟨by omega, by omega, fun row h => (hrows row h).1, fun row h e he => ((hrows row h).2 e he).1, fun row h e he => by rw [hrl]; exact ((hrows row h).2 e he).2.1, fun row h e he => ((hrows row h).2 e he).2.2, fun s hs => by rw [hrl]; exact her s hs, hen, d0', by rw [hrl]; exact d1'⟩ (by omega) (em.free (e3.free (e4.free ht'))) (em.trans e24) ⟨po, Ds, qs, upd_same, e24 _ _ hpo2, Paired.mono hqs fun a b h => h.mono e24, et _ _ (e4 _ _ hd)⟩
end
end SS

set_option maxRecDepth 100000
set_option maxHeartbeats 4000000
set_option pp.maxSteps 1500
namespace SS
open PySem L2 SR TL
theorem cut_take (xs : List V) (n : Nat) : cutV xs none (some (n : Int)) = xs.take n := by
  unfold cutV
  rw [HT.sIx_none, HT.sIx_nat, List.drop_zero, Nat.sub_zero]
  by_cases h : n ≤ xs.length
  · rw [Nat.min_eq_left h]
  · rw [Nat.min_eq_right (by omega), List.take_length, List.take_of_length_le (by omega)]
/-! ### dicts of moves, written out -/
def MkV (t : TE) (σ : St) (v : V) : Prop := ∀ H Q, Q v H → t σ H Q
def MkM (t : TE) (σ : St) (m : Mv) : Prop := ∀ H Q, (∀ p H', Same H H' → MvAt H' p m → Q (.ref p) H') → t σ H Q
def MkR (t : TE) (σ : St) (H0 : Hp) (row : Rw) : Prop := ∀ H Q, Same H0 H → (∀ q H', Same H H' → RwAt H' q row → Q (.ref q) H') → t σ H Q
def MkRs (t : TA) (σ : St) (H0 : Hp) (rows : List Rw) : Prop := ∀ H Q, Same H0 H → (∀ qs H', Same H H' → Paired (RwAt H') qs rows → Q (qs.map .ref) H') → t σ H Q
theorem mkV_var {σ : St} {i : Nat} {v : V} (h : σ[i]? = some (some v)) : MkV (tVar i) σ v := fun H Q q => ⟨v, h, q⟩
theorem mkV_c {σ : St} {v : V} : MkV (tC v) σ v := fun H Q q => q
theorem mkM_tup {σ : St} {te : TE} {g : Int} {o : Option (List Nat)} (h : MkV te σ (tellV o)) : MkM (tTup (tCons (tC (.int g)) (tCons te tNil))) σ (g, o) := fun H Q q =>
  h H _ ⟨by show 2 ≤ sizeLine; decide, fun p hp => q p _ (same_new hp) upd_same⟩
inductive MkPs (σ : St) : List (TE × TE) → Rw → Prop
  | nil : MkPs σ [] []
  | cons {tk tv : TE} {c : Nat} {m : Mv} {r : List (TE × TE)} {row : Rw} : MkV tk σ (ltV c) → MkM tv σ m → MkPs σ r row → MkPs σ ((tk, tv) :: r) ((c, m) :: row)
theorem mkPs_run {σ : St} : ∀ {trs : List (TE × TE)} {row : Rw}, MkPs σ trs row → ∀ (H : Hp) (Q : List (V × V) → Hp → Prop), (∀ (ps : List Addr) H', Same H H' → Paired (fun p e => MvAt H' p e.2) ps row → Q (List.zipWith (fun (e : Nat × Mv) p => (ltV e.1, V.ref p)) row ps) H') → tPairs trs σ H Q
  | _, _, .nil, H, Q, q => q [] H (Same.refl _) .nil
  | _, _, .cons (c := c) (m := m) hk hv hr, H, Q, q => by
    refine hk H _ (hv H _ fun p H1 e1 h1 => mkPs_run hr H1 _ fun ps H2 e2 h2 => ?_)
    exact q (p :: ps) H2 (e1.trans e2) (.cons (e2 _ _ h1) h2)
theorem mkR_disp {σ : St} {H0 : Hp} {trs : List (TE × TE)} {row : Rw} (h : MkPs σ trs row) (nd : (row.map (·.1)).Nodup) (hl : row.length ≤ 15) : MkR (tDisp trs) σ H0 row := fun H Q e0 q p hp => by
  refine mkPs_run h _ _ fun ps H' e' h' => ⟨e' _ _ upd_same, List.zipWith entK row ps, ?_, ?_, ?_⟩
  · rw [List.map_zipWith]
    rfl
  · rw [List.length_zipWith]; omega
  · have hm : mergeK [] (List.zipWith entK row ps) = List.zipWith entK row ps := mergeK_nil (by
      have : ∀ (row : Rw) (ps : List Addr), (row.map (·.1)).Nodup → ((List.zipWith entK row ps).map (·.1)).Nodup := by
        intro row
        induction row with
        | nil => intro ps _; simp
        | cons e row ih =>
          intro ps nd
          cases ps with
          | nil => simp
          | cons p ps =>
            obtain ⟨n1, n2⟩ := List.nodup_cons.mp nd
            show (Sum.inr (lt e.1) :: _).Nodup
            refine List.nodup_cons.mpr ⟨fun hm => ?_, ih ps n2⟩
            obtain ⟨x, hx, ex⟩ := List.mem_map.mp hm
            obtain ⟨i, hi, e2⟩ := List.getElem_of_mem hx
            rw [List.getElem_zipWith] at e2
            rw [← e2] at ex
            have hc : (row[i]'(by simp at hi; omega)).1 = e.1 := by
              have := congrArg (fun z : Str => z.cps.toList) (Sum.inr.inj ex)
              simpa [lt] using this
            exact n1 (List.mem_map.mpr ⟨_, List.getElem_mem _, hc⟩)
      exact this row ps nd)
    rw [hm]
    have hpH' : H' p = some (.dK []) := e' _ _ upd_same
    have nn : ∀ b o, H' b = some o → (∀ kv, o ≠ .dK kv) → b ≠ p := fun b o hb no z => by
      rw [z, hpH'] at hb
      cases hb
      exact no _ rfl
    refine q p _ (fun b o hb => ?_) ⟨ps, upd_same, Paired.mono h' fun a b g => ?_⟩
    · have nb : b ≠ p := ne_of_none hb hp
      rw [upd_ne nb]
      exact e' _ _ (by rw [upd_ne nb]; exact hb)
    · show (upd _ p _) a = _
      rw [upd_ne (nn _ _ g fun _ => nofun)]
      exact g
theorem mkR_run {σ : St} {H : Hp} {trs : List (TE × TE)} {row : Rw} {Q : VK} (h : MkPs σ trs row) (nd : (row.map (·.1)).Nodup) (hl : row.length ≤ 15) (q : ∀ p H', Same H H' → RwAt H' p row → Q (.ref p) H') : tDisp trs σ H Q := mkR_disp h nd hl H Q (Same.refl _) q
theorem mkR_new {σ : St} {H0 : Hp} : MkR tDNewK σ H0 [] := fun H Q e0 q p hp => q p _ (same_new hp) ⟨[], upd_same, .nil⟩
theorem mkR_var {σ : St} {H0 : Hp} {i : Nat} {q0 : Addr} {row : Rw} (h : σ[i]? = some (some (.ref q0))) (r : RwAt H0 q0 row) : MkR (tVar i) σ H0 row := fun H Q e0 q => ⟨_, h, q q0 H (Same.refl _) (r.mono e0)⟩
theorem mkRs_nil {σ : St} {H0 : Hp} : MkRs tNil σ H0 [] := fun H Q e0 q => q [] H (Same.refl _) .nil
theorem mkRs_cons {σ : St} {H0 : Hp} {t : TE} {ta : TA} {row : Rw} {rows : List Rw} (h : MkR t σ H0 row) (hs : MkRs ta σ H0 rows) : MkRs (tCons t ta) σ H0 (row :: rows) := fun H Q e0 q =>
  h H _ e0 fun p H1 e1 r1 => hs H1 _ (e0.trans e1) fun qs H2 e2 r2 => q (p :: qs) H2 (e1.trans e2) (.cons (r1.mono e2) r2)
/-- [(rows), [ends], 0] -/
theorem mk_model {σ : St} {H : Hp} {ta tb : TA} {rows : List Rw} {ends : List Int} {Q : VK} (h : MkRs ta σ H rows) (hl : rows.length ≤ 12) (hb : ∀ H Q, Q (ends.map V.int) H → tb σ H Q) (he : ends.length ≤ 12)
    (q : ∀ t H', Same H H' → ModAt H' t rows ends 0 → Q (.ref t) H') : tTup (tCons (tLst ta) (tCons (tLst tb) (tCons (tC (.int 0)) tNil))) σ H Q := by
  refine h H _ (Same.refl _) fun qs H1 e1 r1 => ⟨?_, fun pr hpr => ?_⟩
  · have : qs.length = rows.length := Paired.length r1
    rw [List.length_map, sizeLine_eq]
    omega
  refine hb _ _ ⟨by rw [List.length_map, sizeLine_eq]; omega, fun pe hpe => ⟨by show 3 ≤ sizeLine; decide, fun t ht => ?_⟩⟩
  have e2 := same_new (o := .lst (qs.map .ref)) hpr
  have e3 := same_new (o := .lst (ends.map .int)) hpe
  have e4 := same_new (o := .tup [.ref pr, .ref pe, .int 0]) ht
  exact q t _ (((e1.trans e2).trans e3).trans e4) ⟨pr, pe, qs, upd_same, e4 _ _ (e3 _ _ upd_same), Paired.mono r1 fun a b g => g.mono ((e2.trans e3).trans e4), e4 _ _ upd_same⟩
theorem rowOk_nil {cs ts : List Nat} {ms : List (List Nat)} {n : Nat} : RowOk cs ts ms n [] := ⟨List.Pairwise.nil, fun e he => by cases he⟩
theorem rowOk_cons {cs ts : List Nat} {ms : List (List Nat)} {n c : Nat} {g : Int} {o : Option (List Nat)} {row : Rw} (h1 : c ∉ row.map (·.1)) (h2 : c ∈ cs) (h3 : 0 ≤ g) (h4 : g < (n : Int)) (h5 : ∀ z, o = some z → (∃ c ∈ ts, z = [c]) ∨ z ∈ ms) (h : RowOk cs ts ms n row) : RowOk cs ts ms n ((c, (g, o)) :: row) :=
  ⟨List.nodup_cons.mpr ⟨h1, h.1⟩, fun e he => by
    rcases List.mem_cons.mp he with rfl | he
    · exact ⟨h2, ⟨h3, h4⟩, h5⟩
    · exact h.2 e he⟩
theorem wf_rows {cs ts : List Nat} {ms : List (List Nat)} {rows : List Rw} {ends : List Int} {start : Int} (h1 : 1 ≤ rows.length) (h12 : rows.length ≤ 12) (h : ∀ row ∈ rows, RowOk cs ts ms rows.length row) (he : ∀ s ∈ ends, 0 ≤ s ∧ s < (rows.length : Int)) (hn : ends.Nodup) (s0 : 0 ≤ start) (s1 : start < (rows.length : Int)) : WfR cs ts ms rows ends start :=
  ⟨h1, h12, fun row hr => (h row hr).1, fun row hr e h' => ((h row hr).2 e h').1, fun row hr e h' => ((h row hr).2 e h').2.1, fun row hr e h' => ((h row hr).2 e h').2.2, he, hn, s0, s1⟩
section
variable {P : Program} {w : World} {K : PySem.W.Frag} {mg : Str → Option Value} {base : Heap}
/-! ### _law_family -/
abbrev sFam : Stmt := top 61
abbrev nFam : List Str := ["_law_way", "_law_paper", "_law_tells", "_law_marks_here", "_law_p", "_law_q", "_law_r", "_law_a", "_law_b", "_law_m", "_law_n", "_law_core"]
abbrev psFam : List Str := ["_law_way", "_law_paper", "_law_tells", "_law_marks_here"]
theorem scFam : FnScope nFam psFam (defScope sFam) := ⟨rfl, rfl, rfl, by decide +kernel, rfl, by decide +kernel, by decide +kernel⟩
def spFam : Sp := fun vs H Q _ => ∃ (way : Int) (pc pt pm : Addr) (cs ts : List Nat) (ms : List (List Nat)), vs = [.int way, .ref pc, .ref pt, .ref pm] ∧ 3 ≤ cs.length ∧ 2 ≤ ts.length ∧ 2 ≤ ms.length ∧ cs.Nodup ∧
  H pc = some (.lst (cs.map ltV)) ∧ H pt = some (.lst (ts.map ltV)) ∧ H pm = some (.lst (ms.map txtV)) ∧
  ∀ (t : Addr) (rows : List Rw) (ends : List Int) (H' : Hp), WfR cs ts ms rows ends 0 → rows.length ≤ 4 → Same H H' → ModAt H' t rows ends 0 → Q (.ref t) H'
theorem ok_fam {f : Addr} {fd : FuncData} (F : Fun K "_law_family" "_law_family" sFam f fd) (B : Bl mg) : FnOk P w K mg base CX0 1 f fd psFam spFam := by
  refine F.ok scFam (fun vs H Q E h => ?_) (fun cdv A outer s H vs Q E hr h => ?_)
  · obtain ⟨way, pc, pt, pm, cs, ts, ms, rfl, _⟩ := h
    rfl
  · obtain ⟨way, pc, pt, pm, cs, ts, ms, rfl, c3, t2, m2, cnd, hc, ht, hm, k⟩ := h
    refine ⟨_, pss_cons (ps_asg (pe_slice sl_list (pv 1) po_none (po_some pe_int)) (pg_lst rfl (pgs_cons (pg_name (i := 4) scFam.nd rfl (.inl rfl)) (pgs_cons (pg_name (i := 5) scFam.nd rfl (.inl rfl)) (pgs_cons (pg_name (i := 6) scFam.nd rfl (.inl rfl)) (pgs_nil))))))
      (pss_cons (ps_asg (pe_slice sl_list (pv 2) po_none (po_some pe_int)) (pg_lst rfl (pgs_cons (pg_name (i := 7) scFam.nd rfl (.inl rfl)) (pgs_cons (pg_name (i := 8) scFam.nd rfl (.inl rfl)) (pgs_nil)))))
      (pss_cons (ps_asg (pe_slice sl_list (pv 3) po_none (po_some pe_int)) (pg_lst rfl (pgs_cons (pg_name (i := 9) scFam.nd rfl (.inl rfl)) (pgs_cons (pg_name (i := 10) scFam.nd rfl (.inl rfl)) (pgs_nil)))))
      (pss_cons (ps_if (pt_cmpR op_eq (pv 0) pe_int (nomark _))
        (pss_cons (ps_set (i := 11) scFam.nd rfl (.inl rfl) (pe_disp (pps_cons (pv 4) (pe_tup (pa_cons pe_int (pa_cons (pv 7) pa_nil))) (pps_cons (pv 5) (pe_tup (pa_cons pe_int (pa_cons (pv 10) pa_nil))) (pps_cons (pv 6) (pe_tup (pa_cons pe_int (pa_cons pe_non pa_nil))) pps_nil))) (by rfl) (by rfl) (fun z => by cases z) (by decide)))
      (pss_one (ps_ret (pe_tup (pa_cons (pe_lst (pa_cons (pe_disp (pps_cons (pv 5) (pe_tup (pa_cons pe_int (pa_cons (pv 9) pa_nil))) pps_nil) (by rfl) (by rfl) (fun z => by cases z) (by decide)) (pa_cons (pv 11) (pa_cons pe_dnewK (pa_cons (pe_disp (pps_cons (pv 5) (pe_tup (pa_cons pe_int (pa_cons (pv 8) pa_nil))) (pps_cons (pv 6) (pe_tup (pa_cons pe_int (pa_cons (pv 7) pa_nil))) pps_nil)) (by rfl) (by rfl) (fun z => by cases z) (by decide)) pa_nil))))) (pa_cons (pe_lst (pa_cons pe_int pa_nil)) (pa_cons pe_int pa_nil))))))) pss_nil)
      (pss_cons (ps_if (pt_cmpR op_eq (pv 0) pe_int (nomark _))
        (pss_one (ps_ret (pe_tup (pa_cons (pe_lst (pa_cons (pe_disp (pps_cons (pv 5) (pe_tup (pa_cons pe_int (pa_cons (pv 9) pa_nil))) pps_nil) (by rfl) (by rfl) (fun z => by cases z) (by decide)) (pa_cons (pe_disp (pps_cons (pv 4) (pe_tup (pa_cons pe_int (pa_cons (pv 7) pa_nil))) (pps_cons (pv 5) (pe_tup (pa_cons pe_int (pa_cons pe_non pa_nil))) pps_nil)) (by rfl) (by rfl) (fun z => by cases z) (by decide)) (pa_cons (pe_disp (pps_cons (pv 5) (pe_tup (pa_cons pe_int (pa_cons (pv 8) pa_nil))) (pps_cons (pv 6) (pe_tup (pa_cons pe_int (pa_cons (pv 10) pa_nil))) pps_nil)) (by rfl) (by rfl) (fun z => by cases z) (by decide)) (pa_cons pe_dnewK pa_nil))))) (pa_cons (pe_lst (pa_cons pe_int pa_nil)) (pa_cons pe_int pa_nil)))))) pss_nil)
      (pss_cons (ps_if (pt_cmpR op_eq (pv 0) pe_int (nomark _))
        (pss_one (ps_ret (pe_tup (pa_cons (pe_lst (pa_cons (pe_disp (pps_cons (pv 4) (pe_tup (pa_cons pe_int (pa_cons (pv 7) pa_nil))) (pps_cons (pv 5) (pe_tup (pa_cons pe_int (pa_cons (pv 7) pa_nil))) (pps_cons (pv 6) (pe_tup (pa_cons pe_int (pa_cons (pv 9) pa_nil))) pps_nil))) (by rfl) (by rfl) (fun z => by cases z) (by decide)) (pa_cons (pe_disp (pps_cons (pv 6) (pe_tup (pa_cons pe_int (pa_cons (pv 9) pa_nil))) pps_nil) (by rfl) (by rfl) (fun z => by cases z) (by decide)) (pa_cons (pe_disp (pps_cons (pv 4) (pe_tup (pa_cons pe_int (pa_cons (pv 8) pa_nil))) (pps_cons (pv 5) (pe_tup (pa_cons pe_int (pa_cons (pv 8) pa_nil))) (pps_cons (pv 6) (pe_tup (pa_cons pe_int (pa_cons (pv 10) pa_nil))) pps_nil))) (by rfl) (by rfl) (fun z => by cases z) (by decide)) (pa_cons pe_dnewK pa_nil))))) (pa_cons (pe_lst (pa_cons pe_int (pa_cons pe_int pa_nil))) (pa_cons pe_int pa_nil)))))) pss_nil)
      (pss_cons (ps_if (pt_cmpR op_eq (pv 0) pe_int (nomark _))
        (pss_one (ps_ret (pe_tup (pa_cons (pe_lst (pa_cons (pe_disp (pps_cons (pv 4) (pe_tup (pa_cons pe_int (pa_cons (pv 7) pa_nil))) (pps_cons (pv 5) (pe_tup (pa_cons pe_int (pa_cons (pv 7) pa_nil))) pps_nil)) (by rfl) (by rfl) (fun z => by cases z) (by decide)) (pa_cons (pe_disp (pps_cons (pv 4) (pe_tup (pa_cons pe_int (pa_cons (pv 7) pa_nil))) (pps_cons (pv 6) (pe_tup (pa_cons pe_int (pa_cons (pv 9) pa_nil))) pps_nil)) (by rfl) (by rfl) (fun z => by cases z) (by decide)) (pa_cons (pe_disp (pps_cons (pv 4) (pe_tup (pa_cons pe_int (pa_cons (pv 7) pa_nil))) (pps_cons (pv 5) (pe_tup (pa_cons pe_int (pa_cons (pv 8) pa_nil))) pps_nil)) (by rfl) (by rfl) (fun z => by cases z) (by decide)) pa_nil)))) (pa_cons (pe_lst (pa_cons pe_int (pa_cons pe_int pa_nil))) (pa_cons pe_int pa_nil)))))) pss_nil)
      (pss_one (ps_ret (pe_tup (pa_cons (pe_lst (pa_cons (pe_disp (pps_cons (pv 4) (pe_tup (pa_cons pe_int (pa_cons pe_non pa_nil))) (pps_cons (pv 5) (pe_tup (pa_cons pe_int (pa_cons (pv 9) pa_nil))) pps_nil)) (by rfl) (by rfl) (fun z => by cases z) (by decide)) (pa_cons (pe_disp (pps_cons (pv 4) (pe_tup (pa_cons pe_int (pa_cons (pv 7) pa_nil))) (pps_cons (pv 5) (pe_tup (pa_cons pe_int (pa_cons (pv 8) pa_nil))) pps_nil)) (by rfl) (by rfl) (fun z => by cases z) (by decide)) (pa_cons (pe_disp (pps_cons (pv 4) (pe_tup (pa_cons pe_int (pa_cons pe_non pa_nil))) (pps_cons (pv 6) (pe_tup (pa_cons pe_int (pa_cons (pv 10) pa_nil))) pps_nil)) (by rfl) (by rfl) (fun z => by cases z) (by decide)) pa_nil)))) (pa_cons (pe_lst (pa_cons pe_int (pa_cons pe_int pa_nil))) (pa_cons pe_int pa_nil)))))))))))), ?_⟩
    obtain ⟨cp, cq, cr, cs', rfl⟩ : ∃ cp cq cr cs', cs = cp :: cq :: cr :: cs' := by
      match cs, c3 with
      | a :: b :: c :: l, _ => exact ⟨a, b, c, l, rfl⟩
    obtain ⟨ca, cb, ts', rfl⟩ : ∃ ca cb ts', ts = ca :: cb :: ts' := by
      match ts, t2 with
      | a :: b :: l, _ => exact ⟨a, b, l, rfl⟩
    obtain ⟨mm, mn, ms', rfl⟩ : ∃ mm mn ms', ms = mm :: mn :: ms' := by
      match ms, m2 with
      | a :: b :: l, _ => exact ⟨a, b, l, rfl⟩
    refine ⟨_, rfl, _, rfl, pc, _, rfl, SqL.of hc, fun p1 hp1 => ⟨p1, [ltV cp, ltV cq, ltV cr], rfl, SqL.of ?_, rfl, ?_⟩⟩
    · rw [upd_same, show (some (3 : Int)) = some ((3 : Nat) : Int) from rfl, cut_take]
      rfl
    have g1 : Same H (upd H p1 (.lst (cutV (List.map ltV (cp :: cq :: cr :: cs')) none (some 3)))) := same_new hp1
    generalize (upd H p1 (.lst (cutV (List.map ltV (cp :: cq :: cr :: cs')) none (some 3)))) = H1 at g1
    refine ⟨_, _, rfl, _, _, rfl, _, _, rfl, rfl, ?_⟩
    refine ⟨_, rfl, _, rfl, pt, _, rfl, SqL.of (g1 _ _ ht), fun p2 hp2 => ⟨p2, [ltV ca, ltV cb], rfl, SqL.of ?_, rfl, ?_⟩⟩
    · rw [upd_same, show (some (2 : Int)) = some ((2 : Nat) : Int) from rfl, cut_take]
      rfl
    have g2 : Same H (upd H1 p2 (.lst (cutV (List.map ltV (ca :: cb :: ts')) none (some 2)))) := g1.trans (same_new hp2)
    generalize (upd H1 p2 (.lst (cutV (List.map ltV (ca :: cb :: ts')) none (some 2)))) = H2 at g2
    refine ⟨_, _, rfl, _, _, rfl, rfl, ?_⟩
    refine ⟨_, rfl, _, rfl, pm, _, rfl, SqL.of (g2 _ _ hm), fun p3 hp3 => ⟨p3, [txtV mm, txtV mn], rfl, SqL.of ?_, rfl, ?_⟩⟩
    · rw [upd_same, show (some (2 : Int)) = some ((2 : Nat) : Int) from rfl, cut_take]
      rfl
    have g3 : Same H (upd H2 p3 (.lst (cutV (List.map txtV (mm :: mn :: ms')) none (some 2)))) := g2.trans (same_new hp3)
    generalize (upd H2 p3 (.lst (cutV (List.map txtV (mm :: mn :: ms')) none (some 2)))) = H3 at g3
    refine ⟨_, _, rfl, _, _, rfl, rfl, ?_⟩
    have hpq : cp ≠ cq := fun z => (List.nodup_cons.mp cnd).1 (by rw [z]; exact List.mem_cons_self)
    have hpr : cp ≠ cr := fun z => (List.nodup_cons.mp cnd).1 (by rw [z]; simp)
    have hqr : cq ≠ cr := fun z => (List.nodup_cons.mp (List.nodup_cons.mp cnd).2).1 (by rw [z]; exact List.mem_cons_self)
    have tA : ∀ z, some [ca] = some z → (∃ c ∈ ca :: cb :: ts', z = [c]) ∨ z ∈ mm :: mn :: ms' := fun z e => by cases e; exact .inl ⟨ca, by simp, rfl⟩
    have tB : ∀ z, some [cb] = some z → (∃ c ∈ ca :: cb :: ts', z = [c]) ∨ z ∈ mm :: mn :: ms' := fun z e => by cases e; exact .inl ⟨cb, by simp, rfl⟩
    have tM : ∀ z, some mm = some z → (∃ c ∈ ca :: cb :: ts', z = [c]) ∨ z ∈ mm :: mn :: ms' := fun z e => by cases e; exact .inr (by simp)
    have tN : ∀ z, some mn = some z → (∃ c ∈ ca :: cb :: ts', z = [c]) ∨ z ∈ mm :: mn :: ms' := fun z e => by cases e; exact .inr (by simp)
    have tO : ∀ z, (none : Option (List Nat)) = some z → (∃ c ∈ ca :: cb :: ts', z = [c]) ∨ z ∈ mm :: mn :: ms' := fun z e => by cases e
    refine ⟨_, rfl, rfl, _, rfl, ite2 (fun hw => ?_) (fun hw => ?_)⟩
    · unfold tSeq tAsg
      refine mkR_run (row := [(cp, (1, some [ca])), (cq, (2, some mn)), (cr, (3, none))]) (.cons (mkV_var (by rfl)) (mkM_tup (o := some [ca]) (mkV_var (by rfl))) (.cons (mkV_var (by rfl)) (mkM_tup (o := some mn) (mkV_var (by rfl))) (.cons (mkV_var (by rfl)) (mkM_tup (o := none) (mkV_c)) .nil))) (by simp [hpq, hpr, hqr]) (by simp) fun q0 H4 e4 r4 => ?_
      refine mk_model (rows := [[(cq, (1, some mm))], [(cp, (1, some [ca])), (cq, (2, some mn)), (cr, (3, none))], [], [(cq, (1, some [cb])), (cr, (1, some [ca]))]]) (ends := [2]) (mkRs_cons (mkR_disp (row := [(cq, (1, some mm))]) (.cons (mkV_var (by rfl)) (mkM_tup (o := some mm) (mkV_var (by rfl))) .nil) (by simp [hpq, hpr, hqr]) (by simp)) (mkRs_cons (mkR_var (by rfl) r4) (mkRs_cons (mkR_new) (mkRs_cons (mkR_disp (row := [(cq, (1, some [cb])), (cr, (1, some [ca]))]) (.cons (mkV_var (by rfl)) (mkM_tup (o := some [cb]) (mkV_var (by rfl))) (.cons (mkV_var (by rfl)) (mkM_tup (o := some [ca]) (mkV_var (by rfl))) .nil)) (by simp [hpq, hpr, hqr]) (by simp)) (mkRs_nil))))) (by simp) (fun H Q q => q) (by simp) fun t H5 e5 mod => ?_
      refine k _ _ _ _ (wf_rows (by simp) (by simp) (fun row hrow => ?_) (fun s hs => ?_) (by decide) (by decide) (by simp)) (by simp) ((g3.trans e4).trans e5) mod
      · simp only [List.mem_cons, List.not_mem_nil, or_false] at hrow
        rcases hrow with rfl | rfl | rfl | rfl
        · exact rowOk_cons (by simp [hpq, hpr, hqr]) (by simp) (by decide) (by simp) tM (rowOk_nil)
        · exact rowOk_cons (by simp [hpq, hpr, hqr]) (by simp) (by decide) (by simp) tA (rowOk_cons (by simp [hpq, hpr, hqr]) (by simp) (by decide) (by simp) tN (rowOk_cons (by simp [hpq, hpr, hqr]) (by simp) (by decide) (by simp) tO (rowOk_nil)))
        · exact rowOk_nil
        · exact rowOk_cons (by simp [hpq, hpr, hqr]) (by simp) (by decide) (by simp) tB (rowOk_cons (by simp [hpq, hpr, hqr]) (by simp) (by decide) (by simp) tA (rowOk_nil))
      · simp only [List.mem_cons, List.not_mem_nil, or_false] at hs
        rcases hs with rfl
        · exact ⟨by decide, by simp⟩
    refine ⟨_, rfl, rfl, _, rfl, ite2 (fun hw => ?_) (fun hw => ?_)⟩
    · refine mk_model (rows := [[(cq, (1, some mm))], [(cp, (1, some [ca])), (cq, (2, none))], [(cq, (1, some [cb])), (cr, (3, some mn))], []]) (ends := [3]) (mkRs_cons (mkR_disp (row := [(cq, (1, some mm))]) (.cons (mkV_var (by rfl)) (mkM_tup (o := some mm) (mkV_var (by rfl))) .nil) (by simp [hpq, hpr, hqr]) (by simp)) (mkRs_cons (mkR_disp (row := [(cp, (1, some [ca])), (cq, (2, none))]) (.cons (mkV_var (by rfl)) (mkM_tup (o := some [ca]) (mkV_var (by rfl))) (.cons (mkV_var (by rfl)) (mkM_tup (o := none) (mkV_c)) .nil)) (by simp [hpq, hpr, hqr]) (by simp)) (mkRs_cons (mkR_disp (row := [(cq, (1, some [cb])), (cr, (3, some mn))]) (.cons (mkV_var (by rfl)) (mkM_tup (o := some [cb]) (mkV_var (by rfl))) (.cons (mkV_var (by rfl)) (mkM_tup (o := some mn) (mkV_var (by rfl))) .nil)) (by simp [hpq, hpr, hqr]) (by simp)) (mkRs_cons (mkR_new) (mkRs_nil))))) (by simp) (fun H Q q => q) (by simp) fun t H5 e5 mod => ?_
      refine k _ _ _ _ (wf_rows (by simp) (by simp) (fun row hrow => ?_) (fun s hs => ?_) (by decide) (by decide) (by simp)) (by simp) (g3.trans e5) mod
      · simp only [List.mem_cons, List.not_mem_nil, or_false] at hrow
        rcases hrow with rfl | rfl | rfl | rfl
        · exact rowOk_cons (by simp [hpq, hpr, hqr]) (by simp) (by decide) (by simp) tM (rowOk_nil)
        · exact rowOk_cons (by simp [hpq, hpr, hqr]) (by simp) (by decide) (by simp) tA (rowOk_cons (by simp [hpq, hpr, hqr]) (by simp) (by decide) (by simp) tO (rowOk_nil))
        · exact rowOk_cons (by simp [hpq, hpr, hqr]) (by simp) (by decide) (by simp) tB (rowOk_cons (by simp [hpq, hpr, hqr]) (by simp) (by decide) (by simp) tN (rowOk_nil))
        · exact rowOk_nil
      · simp only [List.mem_cons, List.not_mem_nil, or_false] at hs
        rcases hs with rfl
        · exact ⟨by decide, by simp⟩
    refine ⟨_, rfl, rfl, _, rfl, ite2 (fun hw => ?_) (fun hw => ?_)⟩
    · refine mk_model (rows := [[(cp, (0, some [ca])), (cq, (1, some [ca])), (cr, (2, some mm))], [(cr, (2, some mm))], [(cp, (2, some [cb])), (cq, (3, some [cb])), (cr, (3, some mn))], []]) (ends := [2, 3]) (mkRs_cons (mkR_disp (row := [(cp, (0, some [ca])), (cq, (1, some [ca])), (cr, (2, some mm))]) (.cons (mkV_var (by rfl)) (mkM_tup (o := some [ca]) (mkV_var (by rfl))) (.cons (mkV_var (by rfl)) (mkM_tup (o := some [ca]) (mkV_var (by rfl))) (.cons (mkV_var (by rfl)) (mkM_tup (o := some mm) (mkV_var (by rfl))) .nil))) (by simp [hpq, hpr, hqr]) (by simp)) (mkRs_cons (mkR_disp (row := [(cr, (2, some mm))]) (.cons (mkV_var (by rfl)) (mkM_tup (o := some mm) (mkV_var (by rfl))) .nil) (by simp [hpq, hpr, hqr]) (by simp)) (mkRs_cons (mkR_disp (row := [(cp, (2, some [cb])), (cq, (3, some [cb])), (cr, (3, some mn))]) (.cons (mkV_var (by rfl)) (mkM_tup (o := some [cb]) (mkV_var (by rfl))) (.cons (mkV_var (by rfl)) (mkM_tup (o := some [cb]) (mkV_var (by rfl))) (.cons (mkV_var (by rfl)) (mkM_tup (o := some mn) (mkV_var (by rfl))) .nil))) (by simp [hpq, hpr, hqr]) (by simp)) (mkRs_cons (mkR_new) (mkRs_nil))))) (by simp) (fun H Q q => q) (by simp) fun t H5 e5 mod => ?_
      refine k _ _ _ _ (wf_rows (by simp) (by simp) (fun row hrow => ?_) (fun s hs => ?_) (by decide) (by decide) (by simp)) (by simp) (g3.trans e5) mod
      · simp only [List.mem_cons, List.not_mem_nil, or_false] at hrow
        rcases hrow with rfl | rfl | rfl | rfl
        · exact rowOk_cons (by simp [hpq, hpr, hqr]) (by simp) (by decide) (by simp) tA (rowOk_cons (by simp [hpq, hpr, hqr]) (by simp) (by decide) (by simp) tA (rowOk_cons (by simp [hpq, hpr, hqr]) (by simp) (by decide) (by simp) tM (rowOk_nil)))
        · exact rowOk_cons (by simp [hpq, hpr, hqr]) (by simp) (by decide) (by simp) tM (rowOk_nil)
        · exact rowOk_cons (by simp [hpq, hpr, hqr]) (by simp) (by decide) (by simp) tB (rowOk_cons (by simp [hpq, hpr, hqr]) (by simp) (by decide) (by simp) tB (rowOk_cons (by simp [hpq, hpr, hqr]) (by simp) (by decide) (by simp) tN (rowOk_nil)))
        · exact rowOk_nil
      · simp only [List.mem_cons, List.not_mem_nil, or_false] at hs
        rcases hs with rfl | rfl
        · exact ⟨by decide, by simp⟩
        · exact ⟨by decide, by simp⟩
    refine ⟨_, rfl, rfl, _, rfl, ite2 (fun hw => ?_) (fun hw => ?_)⟩
    · refine mk_model (rows := [[(cp, (1, some [ca])), (cq, (2, some [ca]))], [(cp, (2, some [ca])), (cr, (0, some mm))], [(cp, (1, some [ca])), (cq, (1, some [cb]))]]) (ends := [0, 1]) (mkRs_cons (mkR_disp (row := [(cp, (1, some [ca])), (cq, (2, some [ca]))]) (.cons (mkV_var (by rfl)) (mkM_tup (o := some [ca]) (mkV_var (by rfl))) (.cons (mkV_var (by rfl)) (mkM_tup (o := some [ca]) (mkV_var (by rfl))) .nil)) (by simp [hpq, hpr, hqr]) (by simp)) (mkRs_cons (mkR_disp (row := [(cp, (2, some [ca])), (cr, (0, some mm))]) (.cons (mkV_var (by rfl)) (mkM_tup (o := some [ca]) (mkV_var (by rfl))) (.cons (mkV_var (by rfl)) (mkM_tup (o := some mm) (mkV_var (by rfl))) .nil)) (by simp [hpq, hpr, hqr]) (by simp)) (mkRs_cons (mkR_disp (row := [(cp, (1, some [ca])), (cq, (1, some [cb]))]) (.cons (mkV_var (by rfl)) (mkM_tup (o := some [ca]) (mkV_var (by rfl))) (.cons (mkV_var (by rfl)) (mkM_tup (o := some [cb]) (mkV_var (by rfl))) .nil)) (by simp [hpq, hpr, hqr]) (by simp)) (mkRs_nil)))) (by simp) (fun H Q q => q) (by simp) fun t H5 e5 mod => ?_
      refine k _ _ _ _ (wf_rows (by simp) (by simp) (fun row hrow => ?_) (fun s hs => ?_) (by decide) (by decide) (by simp)) (by simp) (g3.trans e5) mod
      · simp only [List.mem_cons, List.not_mem_nil, or_false] at hrow
        rcases hrow with rfl | rfl | rfl
        · exact rowOk_cons (by simp [hpq, hpr, hqr]) (by simp) (by decide) (by simp) tA (rowOk_cons (by simp [hpq, hpr, hqr]) (by simp) (by decide) (by simp) tA (rowOk_nil))
        · exact rowOk_cons (by simp [hpq, hpr, hqr]) (by simp) (by decide) (by simp) tA (rowOk_cons (by simp [hpq, hpr, hqr]) (by simp) (by decide) (by simp) tM (rowOk_nil))
        · exact rowOk_cons (by simp [hpq, hpr, hqr]) (by simp) (by decide) (by simp) tA (rowOk_cons (by simp [hpq, hpr, hqr]) (by simp) (by decide) (by simp) tB (rowOk_nil))
      · simp only [List.mem_cons, List.not_mem_nil, or_false] at hs
        rcases hs with rfl | rfl
        · exact ⟨by decide, by simp⟩
        · exact ⟨by decide, by simp⟩
    refine mk_model (rows := [[(cp, (1, none)), (cq, (2, some mm))], [(cp, (0, some [ca])), (cq, (0, some [cb]))], [(cp, (2, none)), (cr, (0, some mn))]]) (ends := [0, 2]) (mkRs_cons (mkR_disp (row := [(cp, (1, none)), (cq, (2, some mm))]) (.cons (mkV_var (by rfl)) (mkM_tup (o := none) (mkV_c)) (.cons (mkV_var (by rfl)) (mkM_tup (o := some mm) (mkV_var (by rfl))) .nil)) (by simp [hpq, hpr, hqr]) (by simp)) (mkRs_cons (mkR_disp (row := [(cp, (0, some [ca])), (cq, (0, some [cb]))]) (.cons (mkV_var (by rfl)) (mkM_tup (o := some [ca]) (mkV_var (by rfl))) (.cons (mkV_var (by rfl)) (mkM_tup (o := some [cb]) (mkV_var (by rfl))) .nil)) (by simp [hpq, hpr, hqr]) (by simp)) (mkRs_cons (mkR_disp (row := [(cp, (2, none)), (cr, (0, some mn))]) (.cons (mkV_var (by rfl)) (mkM_tup (o := none) (mkV_c)) (.cons (mkV_var (by rfl)) (mkM_tup (o := some mn) (mkV_var (by rfl))) .nil)) (by simp [hpq, hpr, hqr]) (by simp)) (mkRs_nil)))) (by simp) (fun H Q q => q) (by simp) fun t H5 e5 mod => ?_
    refine k _ _ _ _ (wf_rows (by simp) (by simp) (fun row hrow => ?_) (fun s hs => ?_) (by decide) (by decide) (by simp)) (by simp) (g3.trans e5) mod
    · simp only [List.mem_cons, List.not_mem_nil, or_false] at hrow
      rcases hrow with rfl | rfl | rfl
      · exact rowOk_cons (by simp [hpq, hpr, hqr]) (by simp) (by decide) (by simp) tO (rowOk_cons (by simp [hpq, hpr, hqr]) (by simp) (by decide) (by simp) tM (rowOk_nil))
      · exact rowOk_cons (by simp [hpq, hpr, hqr]) (by simp) (by decide) (by simp) tA (rowOk_cons (by simp [hpq, hpr, hqr]) (by simp) (by decide) (by simp) tB (rowOk_nil))
      · exact rowOk_cons (by simp [hpq, hpr, hqr]) (by simp) (by decide) (by simp) tO (rowOk_cons (by simp [hpq, hpr, hqr]) (by simp) (by decide) (by simp) tN (rowOk_nil))
    · simp only [List.mem_cons, List.not_mem_nil, or_false] at hs
      rcases hs with rfl | rfl
      · exact ⟨by decide, by simp⟩
      · exact ⟨by decide, by simp⟩
end
end SS

set_option maxRecDepth 100000
set_option maxHeartbeats 4000000
set_option pp.maxSteps 1500
namespace SS
open PySem L2 SR TL
theorem paired_of {α β : Type} {R : α → β → Prop} : ∀ {xs : List α} {ys : List β}, xs.length = ys.length → (∀ (i : Nat) x y, xs[i]? = some x → ys[i]? = some y → R x y) → Paired R xs ys
  | [], [], _, _ => .nil
  | [], _ :: _, h, _ => by cases h
  | _ :: _, [], h, _ => by cases h
  | x :: xs, y :: ys, h, f => .cons (f 0 x y rfl rfl) (paired_of (Nat.succ.inj h) fun i a b h1 h2 => f (i + 1) a b (by simpa using h1) (by simpa using h2))
theorem paired_at {α β : Type} {R : α → β → Prop} : ∀ {xs : List α} {ys : List β}, Paired R xs ys → ∀ {i : Nat} {x : α} {y : β}, xs[i]? = some x → ys[i]? = some y → R x y
  | _, _, .nil, i, x, y, h, _ => by simp at h
  | _, _, .cons r _, 0, x, y, h1, h2 => by cases h1; cases h2; exact r
  | _, _, .cons _ t, i + 1, x, y, h1, h2 => paired_at t (by simpa using h1) (by simpa using h2)
/-- an entry of a state's dict -/
def EntAt (H : Hp) (kv : Key × V) (e : Nat × Mv) : Prop := kv.1 = Sum.inr (lt e.1) ∧ ∃ p, kv.2 = V.ref p ∧ MvAt H p e.2
theorem rw_iff {H : Hp} {q : Addr} {row : Rw} : RwAt H q row ↔ ∃ kvs, H q = some (.dK kvs) ∧ Paired (EntAt H) kvs row := by
  constructor
  · rintro ⟨ps, h1, h2⟩
    refine ⟨_, h1, ?_⟩
    clear h1
    induction h2 with
    | nil => exact .nil
    | cons r _ ih => exact .cons ⟨rfl, _, rfl, r⟩ ih
  · rintro ⟨kvs, h1, h2⟩
    have key : ∀ {kvs : List (Key × V)} {row : Rw}, Paired (EntAt H) kvs row → ∃ ps : List Addr, kvs = List.zipWith entK row ps ∧ Paired (fun p e => MvAt H p e.2) ps row := by
      intro kvs row h
      induction h with
      | nil => exact ⟨[], rfl, .nil⟩
      | @cons kv e _ _ r _ ih =>
        obtain ⟨ps, h1, h2⟩ := ih
        obtain ⟨k1, p, k2, k3⟩ := r
        refine ⟨p :: ps, ?_, .cons k3 h2⟩
        rw [h1]
        show kv :: _ = entK e p :: _
        rw [show kv = entK e p from Prod.ext k1 k2]
    obtain ⟨ps, rfl, h⟩ := key h2
    exact ⟨ps, h1, h⟩
theorem lt_inj {a b : Nat} (h : lt a = lt b) : a = b := by
  have := congrArg (fun z : Str => z.cps.toList) h
  simpa [lt] using this
def putR (row : Rw) (c : Nat) (m : Mv) : Rw := if c ∈ row.map (·.1) then row.map (fun e => if e.1 = c then (e.1, m) else e) else row ++ [(c, m)]
def dropR (row : Rw) (c : Nat) : Rw := row.filter fun e => decide (e.1 ≠ c)
theorem ents_any {H : Hp} {c : Nat} : ∀ {kvs : List (Key × V)} {row : Rw}, Paired (EntAt H) kvs row → ((kvs.any fun kv => decide (kv.1 = Sum.inr (lt c))) = true ↔ c ∈ row.map (·.1))
  | _, _, .nil => by simp
  | _, _, .cons (a := kv) (b := e) r t => by
    rw [List.any_cons, Bool.or_eq_true, ents_any t, List.map_cons, List.mem_cons, decide_eq_true_iff, r.1]
    exact or_congr ⟨fun h => (lt_inj (Sum.inr.inj h)).symm, fun h => by rw [h]⟩ Iff.rfl
theorem ents_put {H : Hp} {kvs : List (Key × V)} {row : Rw} {c : Nat} {p : Addr} {m : Mv} (h : Paired (EntAt H) kvs row) (hp : MvAt H p m) : Paired (EntAt H) (putK kvs (Sum.inr (lt c)) (.ref p)) (putR row c m) := by
  unfold putK putR
  by_cases hc : c ∈ row.map (·.1)
  · rw [if_pos ((ents_any h).mpr hc), if_pos hc]
    clear hc
    induction h with
    | nil => exact .nil
    | @cons kv e _ _ r _ ih =>
      refine .cons ?_ ih
      obtain ⟨k1, p', k2, k3⟩ := r
      show EntAt H (if kv.1 = Sum.inr (lt c) then (kv.1, V.ref p) else kv) (if e.1 = c then (e.1, m) else e)
      by_cases he : e.1 = c
      · rw [if_pos (by rw [k1, he]), if_pos he]
        exact ⟨k1, p, rfl, hp⟩
      · rw [if_neg (by rw [k1]; exact fun z => he (lt_inj (Sum.inr.inj z))), if_neg he]
        exact ⟨k1, p', k2, k3⟩
  · rw [if_neg (fun z => hc ((ents_any h).mp z)), if_neg hc]
    exact paired_snoc h ⟨rfl, p, rfl, hp⟩
theorem ents_drop {H : Hp} {kvs : List (Key × V)} {row : Rw} {c : Nat} (h : Paired (EntAt H) kvs row) : Paired (EntAt H) (dropK kvs (Sum.inr (lt c))) (dropR row c) := by
  unfold dropK dropR
  induction h with
  | nil => exact .nil
  | @cons kv e _ _ r _ ih =>
    by_cases he : e.1 = c
    · rw [List.filter_cons_of_neg (by simp [r.1, he]), List.filter_cons_of_neg (by simp [he])]
      exact ih
    · have hk : ¬ (kv.1 = Sum.inr (lt c)) := by rw [r.1]; exact fun z => he (lt_inj (Sum.inr.inj z))
      rw [List.filter_cons_of_pos (by simp [hk]), List.filter_cons_of_pos (by simp [he])]
      exact .cons r ih
theorem ents_val {H : Hp} {c : Nat} : ∀ {kvs : List (Key × V)} {row : Rw}, Paired (EntAt H) kvs row → (∃ p m, valV kvs (Sum.inr (lt c)) = some (.ref p) ∧ mvOf row c = some m ∧ MvAt H p m) ∨ (valV kvs (Sum.inr (lt c)) = none ∧ mvOf row c = none ∧ c ∉ row.map (·.1))
  | _, _, .nil => .inr ⟨rfl, rfl, by simp⟩
  | _, _, .cons (a := kv) (b := e) r t => by
    obtain ⟨k1, p, k2, k3⟩ := r
    unfold valV mvOf
    by_cases he : e.1 = c
    · left
      refine ⟨p, e.2, ?_, ?_, k3⟩
      · rw [List.find?_cons_of_pos (by simp [k1, he])]
        show some kv.2 = _
        rw [k2]
      · rw [List.find?_cons_of_pos (by simp [he])]
        rfl
    · have hk : ¬ (kv.1 = Sum.inr (lt c)) := by rw [k1]; exact fun z => he (lt_inj (Sum.inr.inj z))
      rw [List.find?_cons_of_neg (by simp [hk]), List.find?_cons_of_neg (by simp [he])]
      rcases ents_val (c := c) t with h | ⟨h1, h2, h3⟩
      · exact .inl h
      · refine .inr ⟨h1, h2, ?_⟩
        rw [List.map_cons, List.mem_cons]
        rintro (h | h)
        · exact he h.symm
        · exact h3 h
theorem put_keys {row : Rw} {c : Nat} {m : Mv} : (putR row c m).map (·.1) = if c ∈ row.map (·.1) then row.map (·.1) else row.map (·.1) ++ [c] := by
  unfold putR
  by_cases hc : c ∈ row.map (·.1)
  · rw [if_pos hc, if_pos hc, List.map_map]
    refine List.map_congr_left fun e _ => ?_
    show (if e.1 = c then (e.1, m) else e).1 = e.1
    by_cases he : e.1 = c
    · rw [if_pos he]
    · rw [if_neg he]
  · rw [if_neg hc, if_neg hc, List.map_append]
    rfl
theorem put_mem {row : Rw} {c : Nat} {m : Mv} {e : Nat × Mv} (h : e ∈ putR row c m) : e ∈ row ∨ e = (c, m) := by
  unfold putR at h
  by_cases hc : c ∈ row.map (·.1)
  · rw [if_pos hc] at h
    obtain ⟨a, ha, rfl⟩ := List.mem_map.mp h
    by_cases he : a.1 = c
    · rw [if_pos he]
      exact .inr (by rw [he])
    · rw [if_neg he]
      exact .inl ha
  · rw [if_neg hc] at h
    rcases List.mem_append.mp h with z | z
    · exact .inl z
    · exact .inr (List.mem_singleton.mp z)
theorem RowOk.put {cs ts : List Nat} {ms : List (List Nat)} {n c : Nat} {row : Rw} {m : Mv} (h : RowOk cs ts ms n row) (h2 : c ∈ cs) (h3 : 0 ≤ m.1 ∧ m.1 < (n : Int)) (h5 : ∀ z, m.2 = some z → (∃ c ∈ ts, z = [c]) ∨ z ∈ ms) : RowOk cs ts ms n (putR row c m) := by
  refine ⟨?_, fun e he => ?_⟩
  · rw [put_keys]
    by_cases hc : c ∈ row.map (·.1)
    · rw [if_pos hc]; exact h.1
    · rw [if_neg hc, List.nodup_append]
      refine ⟨h.1, List.pairwise_singleton _ _, fun a ha b hb => ?_⟩
      rw [List.mem_singleton.mp hb]
      exact fun z => hc (z ▸ ha)
  · rcases put_mem he with z | z
    · exact h.2 e z
    · rw [z]; exact ⟨h2, h3, h5⟩
theorem RowOk.drop {cs ts : List Nat} {ms : List (List Nat)} {n c : Nat} {row : Rw} (h : RowOk cs ts ms n row) : RowOk cs ts ms n (dropR row c) := by
  refine ⟨h.1.sublist (List.Sublist.map _ List.filter_sublist), fun e he => h.2 e (List.mem_filter.mp he).1⟩
theorem WfR.row {cs ts : List Nat} {ms : List (List Nat)} {rows : List Rw} {ends : List Int} {start : Int} (W : WfR cs ts ms rows ends start) {row : Rw} (h : row ∈ rows) : RowOk cs ts ms rows.length row := ⟨W.nd row h, fun e he => ⟨W.key row h e he, W.goal row h e he, W.told row h e he⟩⟩
theorem WfR.set {cs ts : List Nat} {ms : List (List Nat)} {rows : List Rw} {ends : List Int} {start : Int} (W : WfR cs ts ms rows ends start) {i : Nat} {row : Rw} (h : RowOk cs ts ms rows.length row) : WfR cs ts ms (rows.set i row) ends start := by
  have hl : (rows.set i row).length = rows.length := List.length_set
  refine wf_rows (by rw [hl]; exact W.one) (by rw [hl]; exact W.most) (fun r hr => ?_) (by rw [hl]; exact W.end0) W.endN W.st0 (by rw [hl]; exact W.st1)
  rw [hl]
  rcases List.mem_or_eq_of_mem_set hr with z | z
  · exact W.row z
  · rw [z]; exact h
/-- one dict of the rows is another now -/
theorem rows_set {H H' : Hp} {qs : List Addr} {rows : List Rw} {i : Nat} {q : Addr} {kv : List (Key × V)} {row : Rw} (h : Paired (RwAt H) qs rows) (nd : qs.Nodup) (hi : qs[i]? = some q) (hq : H q = some (.dK kv)) (e : SameB q H H') (r : RwAt H' q row) : Paired (RwAt H') qs (rows.set i row) := by
  have hl : qs.length = rows.length := Paired.length h
  refine paired_of (by rw [List.length_set]; exact hl) fun j a b h1 h2 => ?_
  by_cases hj : i = j
  · subst hj
    rw [hi] at h1
    cases h1
    have hlt : i < rows.length := by rw [← hl]; exact (List.getElem?_eq_some_iff.mp hi).1
    rw [List.getElem?_set_self hlt] at h2
    cases h2
    exact r
  · rw [List.getElem?_set_ne hj] at h2
    obtain ⟨kvs, k1, k2⟩ := rw_iff.mp (paired_at h h1 h2)
    have na : a ≠ q := fun z => hj ((List.getElem?_inj (List.getElem?_eq_some_iff.mp hi).1 nd).mp (by rw [hi, h1, z]))
    refine rw_iff.mpr ⟨kvs, e _ _ na k1, Paired.mono k2 fun x y g => ⟨g.1, ?_⟩⟩
    obtain ⟨p, g1, g2⟩ := g.2
    refine ⟨p, g1, e _ _ (fun z => ?_) g2⟩
    unfold MvAt at g2
    rw [z, hq] at g2
    cases g2
def rDictD : List V → Hp → VK → Prop := fun xs H Q => ∃ (a : Addr) (kvs : List (Key × V)), xs = [.ref a] ∧ Rd H a (.dK kvs) ∧ ∀ p, H p = none → Q (.ref p) (upd H p (.dK kvs))
theorem tell_choice1 {ts : List Nat} {ms : List (List Nat)} {x : V} (h : x ∈ [V.non] ++ ts.map ltV ++ ms.map txtV) : ∃ o : Option (List Nat), x = tellV o ∧ ∀ z, o = some z → (∃ c ∈ ts, z = [c]) ∨ z ∈ ms := by
  refine tell_choice ?_
  rcases List.mem_append.mp h with h | h
  · rcases List.mem_append.mp h with h | h
    · exact List.mem_append_left _ (List.mem_append_left _ h)
    · exact List.mem_append_left _ (List.mem_append_right _ (List.mem_flatten.mpr ⟨_, by simp, h⟩))
  · exact List.mem_append_right _ h
section
variable {P : Program} {w : World} {K : PySem.W.Frag} {mg : Str → Option Value} {base : Heap}
/-! ### _law_bent -/
abbrev sBent : Stmt := top 62
abbrev nBent : List Str := ["_law_rng_here", "_law_model", "_law_paper", "_law_tells", "_law_marks_here", "_law_rows", "_law_line", "_law_at", "_law_letter"]
abbrev psBent : List Str := ["_law_rng_here", "_law_model", "_law_paper", "_law_tells", "_law_marks_here"]
theorem scBent : FnScope nBent psBent (defScope sBent) := ⟨rfl, rfl, rfl, by decide +kernel, rfl, by decide +kernel, by decide +kernel⟩
def spBent : Sp := fun vs H Q _ => ∃ (r t pc pt pm : Addr) (cs ts : List Nat) (ms : List (List Nat)) (rows : List Rw) (ends : List Int) (start : Int), vs = [.ref r, .ref t, .ref pc, .ref pt, .ref pm] ∧ Pal cs ts ms ∧ 1 ≤ cs.length ∧ H r = some (rngO r) ∧
  H pc = some (.lst (cs.map ltV)) ∧ H pt = some (.lst (ts.map ltV)) ∧ H pm = some (.lst (ms.map txtV)) ∧ WfR cs ts ms rows ends start ∧ ModAt H t rows ends start ∧
  ∀ (t' : Addr) (rows' : List Rw) (H' : Hp), WfR cs ts ms rows' ends start → rows'.length = rows.length → Same H H' → ModAt H' t' rows' ends start → Q (.ref t') H'
theorem ok_bent {f : Addr} {fd : FuncData} (F : Fun K "_law_bent" "_law_bent" sBent f fd) (B : Bl mg) (D : Cal P w K mg base "_law_draw" 1 ["_law_rng_here", "_law_many"] spDraw) (C : Cal P w K mg base "_law_choice" 2 ["_law_rng_here", "_law_some"] (spChoice K)) : FnOk P w K mg base CX0 3 f fd psBent spBent := by
  refine F.ok scBent (fun vs H Q E h => ?_) (fun cdv A outer s H vs Q E hr h => ?_)
  · obtain ⟨r, t, pc, pt, pm, cs, ts, ms, rows, ends, start, rfl, _⟩ := h
    rfl
  · obtain ⟨r, t, pc, pt, pm, cs, ts, ms, rows, ends, start, rfl, PA', c1, hR, hc, ht, hm, W, M, k⟩ := h
    have hr1 := hr.mono (by decide : 1 ≤ 2)
    have hu := hu_of hr
    refine ⟨_, pss_cons (ps_setLc (i := 5) (own := [("_law_line", 6)]) (g := gName 6) (tt := tYes) (te := tCB rDictD (tCons (tVar 6) tNil)) rfl scBent.nd rfl rfl (sw_true rfl rfl rfl (by decide +kernel)) (pi_list (pe_ix ix_tup (pv 1) pe_int (fun _ _ => rfl))) (blkOk_by (by kernel_rfl)) (fun _ _ _ _ _ => pg_name (i := 6) scBent.nd rfl (.inl rfl)) (fun _ _ _ _ _ => pts_nil) (fun _ _ _ _ _ => pe_callTy call_dictD (by rfl) B.dict (by decide +kernel) (pa_cons (pv 6) pa_nil)))
      (pss_cons (ps_par (i := 7) (j := 8) (by rfl) scBent.nd rfl rfl (by decide) rfl rfl (pa_cons (pe_cal D hr1 (pa_cons (pv 0) (pa_cons (pe_callB call_len_seq (by rfl) B.len boot_len (pa_cons (pv 5) pa_nil)) pa_nil))) (pa_cons (pe_cal C hr (pa_cons (pv 0) (pa_cons (pv 2) pa_nil))) pa_nil)) (by rfl))
      (pss_cons (ps_dput hu (pe_ix ix_list (pv 5) (pv 7) (fun _ _ => rfl)) (pv 8) (pe_tup (pa_cons (pe_cal D hr1 (pa_cons (pv 0) (pa_cons (pe_callB call_len_seq (by rfl) B.len boot_len (pa_cons (pv 5) pa_nil)) pa_nil))) (pa_cons (pe_cal C hr (pa_cons (pv 0) (pa_cons (pe_op op_cat (pe_op op_cat (pe_lst (pa_cons pe_non pa_nil)) (pv 3)) (pv 4)) pa_nil))) pa_nil))) rfl)
      (pss_cons (ps_if (pt_cmpR op_eq (pe_cal D hr1 (pa_cons (pv 0) (pa_cons pe_int pa_nil))) pe_int (nomark _))
        (pss_one (ps_expr (pe_dpop1 (pe_ix ix_list (pv 5) (pv 7) (fun _ _ => rfl)) (pv 8) ⟨rfl, rfl, rfl, rfl⟩))) pss_nil)
      (pss_one (ps_ret (pe_tup (pa_cons (pv 5) (pa_cons (pe_callTy call_list_of (by rfl) B.list (by decide +kernel) (pa_cons (pe_ix ix_tup (pv 1) pe_int (fun _ _ => rfl)) pa_nil)) (pa_cons (pe_ix ix_tup (pv 1) pe_int (fun _ _ => rfl)) pa_nil))))))))), ?_⟩
    obtain ⟨pr0, pe0, qs0, m1, m2, m3, m4⟩ := M.ex
    have hq0 : qs0.length = rows.length := Paired.length m3
    have h12 := W.most
    have h1 := W.one
    refine ⟨_, rfl, t, _, _, _, rfl, rfl, SqT.of m1, rfl, pr0, rfl, ⟨_, SqL.of m2⟩, fun pr hpr => lc_S (walk_list (K := K) (a := pr0) (xs := qs0.map .ref)) hpr (by rw [List.length_map]; omega) (fun i acc H' => ∃ qs : List Addr, acc = qs.map .ref ∧ Paired (fun q row => RwAt H' q row ∧ H q = none) qs (rows.take i) ∧ qs.Nodup) ?_ ⟨[], rfl, .nil, List.Pairwise.nil⟩ (fun H' e' => e'.seq (SqL.of m2)) ?_ ?_⟩
    · rintro i acc acc' H1 H2 hd ee ⟨qs, q1, q2, q3⟩
      refine ⟨qs, q1, Paired.mono q2 fun a b h => ⟨RwAt.nl (fun x o hx no => ee _ _ (fun z => ?_) hx) h.1, h.2⟩, q3⟩
      rw [z, hd] at hx
      cases hx
      exact no _ rfl
    · rintro i v H1 H1' acc Qt Qf hi e1 hd ⟨qs, rfl, hq, qnd⟩ ⟨rfl, hv⟩ kt kf
      rw [List.length_map] at hi
      rw [List.getElem?_map] at hv
      obtain ⟨q, hqi, rfl⟩ := Option.map_eq_some_iff.mp hv
      have hir : i < rows.length := by omega
      obtain ⟨q', hq', hrow⟩ := paired_get i m3 (List.getElem?_eq_getElem hir)
      rw [hqi] at hq'
      cases hq'
      obtain ⟨kvs, k1, k2⟩ := rw_iff.mp (hrow.mono e1)
      refine ⟨rfl, _, rfl, q, _, rfl, .inl k1, fun p hp => kt _ _ (same_new hp) ⟨qs ++ [p], by simp, ?_, ?_⟩⟩
      · rw [List.take_add_one, List.getElem?_eq_getElem hir]
        exact paired_snoc (Paired.mono hq fun a b h => ⟨h.1.mono (same_new hp), h.2⟩) ⟨rw_iff.mpr ⟨kvs, upd_same, Paired.mono k2 fun a b g => ⟨g.1, g.2.imp fun p' z => ⟨z.1, (same_new hp) _ _ z.2⟩⟩⟩, e1.free hp⟩
      · rw [List.nodup_append]
        refine ⟨qnd, List.pairwise_singleton _ _, fun a ha b hb => ?_⟩
        rw [List.mem_singleton.mp hb]
        obtain ⟨ix, hix⟩ := List.mem_iff_getElem?.mp ha
        have hlq : qs.length = (rows.take i).length := Paired.length hq
        obtain ⟨y, hy, hyr⟩ := LiI.paired_get hq hix
        obtain ⟨kv2, g1, _⟩ := rw_iff.mp hyr.1
        exact ne_of_none g1 hp
    rintro H1 acc e1 hl1 ⟨qs, rfl, hq, qnd⟩
    rw [List.length_map, hq0, List.take_length] at hq
    have hql : qs.length = rows.length := Paired.length hq
    have em1 := e1
    refine ⟨_, rfl, _, rfl, pr, _, rfl, .inl (SqL.of hl1), r, _, rfl, by rw [List.length_map]; omega, by rw [List.length_map]; omega, em1 _ _ hR, fun d H2 d0 d1 e2 => ?_⟩
    rw [List.length_map] at d1
    have em2 := em1.trans e2
    refine ⟨_, rfl, _, rfl, .inl ⟨r, pc, _, rfl, em2 _ _ hR, SqL.of (em2 _ _ hc), by rw [List.length_map]; omega, by have := PA'.csn; rw [List.length_map]; omega, fun x H3 hx e3 => ⟨_, _, rfl, ?_⟩⟩⟩
    obtain ⟨c, hcm, rfl⟩ := List.mem_map.mp hx
    have em3 := em2.trans e3
    have e13 := e2.trans e3
    -- the new move
    refine ⟨_, rfl, _, rfl, pr, _, rfl, .inl (SqL.of (e13 _ _ hl1)), r, _, rfl, by rw [List.length_map]; omega, by rw [List.length_map]; omega, em3 _ _ hR, fun g H4 g0 g1 e4 => ?_⟩
    rw [List.length_map] at g1
    have em4 := em3.trans e4
    refine ⟨_, rfl, by show 1 ≤ sizeLine; decide, fun p1 hp1 => ?_⟩
    have f1 : Same H4 (upd H4 p1 (.lst [.non])) := same_new hp1
    refine ⟨_, rfl, p1, pt, _, _, rfl, rfl, upd_same, f1 _ _ (em4 _ _ ht), by have := PA'.tsn; rw [List.length_map, sizeLine_eq]; show 1 + _ ≤ _; omega, fun p2 hp2 => ?_⟩
    have f2 := f1.trans (same_new (o := .lst ([.non] ++ ts.map ltV)) hp2)
    refine ⟨_, rfl, p2, pm, _, _, rfl, rfl, upd_same, f2 _ _ (em4 _ _ hm), by have := PA'.tsn; have := PA'.msn; rw [List.length_append, List.length_map, List.length_map, sizeLine_eq]; show 1 + _ + _ ≤ _; omega, fun p3 hp3 => ?_⟩
    have f3 := f2.trans (same_new (o := .lst ([.non] ++ ts.map ltV ++ ms.map txtV)) hp3)
    refine .inl ⟨r, p3, _, rfl, f3 _ _ (em4 _ _ hR), SqL.of upd_same, by rw [List.length_append, List.length_append]; show 0 < 1 + _ + _; omega, by have := PA'.tsn; have := PA'.msn; rw [List.length_append, List.length_append, List.length_map, List.length_map]; show 1 + _ + _ < _; omega, fun x H5 hx e5 => ?_⟩
    obtain ⟨o, rfl, ho⟩ := tell_choice1 hx
    have f5 := f3.trans e5
    refine ⟨by show 2 ≤ sizeLine; decide, fun p4 hp4 => ?_⟩
    have f6 := f5.trans (same_new (o := .tup [.int g, tellV o]) hp4)
    have hM6 : MvAt (upd H5 p4 (.tup [.int g, tellV o])) p4 (g, o) := upd_same
    generalize (upd H5 p4 (.tup [.int g, tellV o])) = H6 at f6 hM6
    have e16 : Same H1 H6 := (e13.trans e4).trans f6
    have em6 : Same H H6 := em1.trans e16
    obtain ⟨at', hat⟩ : ∃ at' : Nat, d = (at' : Int) := ⟨d.toNat, by omega⟩
    subst hat
    have hlt : at' < qs.length := by omega
    obtain ⟨q, hqa⟩ : ∃ q, qs[at']? = some q := ⟨_, List.getElem?_eq_getElem hlt⟩
    obtain ⟨row, hra⟩ : ∃ row, rows[at']? = some row := ⟨_, List.getElem?_eq_getElem (by omega)⟩
    have hrq := paired_at hq hqa hra
    obtain ⟨kvs, k1, k2⟩ := rw_iff.mp (hrq.1.mono e16)
    have rok := W.row (List.mem_of_getElem? hra)
    have klen : kvs.length ≤ 6 := by
      have h1 := len_subG (row.map (·.1)) cs rok.1 fun y hy => by
        obtain ⟨e, he, rfl⟩ := List.mem_map.mp hy
        exact (rok.2 e he).1
      rw [List.length_map] at h1
      have := PA'.csn
      have : kvs.length = row.length := Paired.length k2
      omega
    have hat' : atI (qs.map V.ref) ((at' : Nat) : Int) = some (.ref q) := atI_of (by omega) (by rw [Int.toNat_natCast, List.getElem?_map, hqa]; rfl)
    refine ⟨_, rfl, _, rfl, pr, _, _, _, rfl, rfl, SqL.of (e16 _ _ hl1), hat', _, rfl, q, _, rfl, DPut.k (k := Sum.inr (lt c)) k1 (by rw [sizeLine_eq]; omega), ?_⟩
    have hprq : pr ≠ q := ne_of (e16 _ _ hl1) k1 (by intro z; cases z)
    have sb : SameB q H6 (upd H6 q (.dK (putK kvs (Sum.inr (lt c)) (.ref p4)))) := SameB.upd
    have ent : ∀ {kv : List (Key × V)} {rw' : Rw}, Paired (EntAt H6) kv rw' → Paired (EntAt (upd H6 q (.dK (putK kvs (Sum.inr (lt c)) (.ref p4))))) kv rw' := fun h => Paired.mono h fun a b g => ⟨g.1, g.2.imp fun p z => ⟨z.1, sb _ _ (fun y => by have := z.2; unfold MvAt at this; rw [y, k1] at this; cases this) z.2⟩⟩
    have r7 : RwAt (upd H6 q (.dK (putK kvs (Sum.inr (lt c)) (.ref p4)))) q (putR row c (g, o)) := rw_iff.mpr ⟨_, upd_same, ent (ents_put k2 hM6)⟩
    have ps7 := rows_set (Paired.mono hq fun a b h => h.1.mono e16) qnd hqa k1 sb r7
    have hq7 : (upd H6 q (.dK (putK kvs (Sum.inr (lt c)) (.ref p4)))) q = some (.dK (putK kvs (Sum.inr (lt c)) (.ref p4))) := upd_same
    have em7 : Same H (upd H6 q (.dK (putK kvs (Sum.inr (lt c)) (.ref p4)))) := same_upd em6 hrq.2
    have hl7 : (upd H6 q (.dK (putK kvs (Sum.inr (lt c)) (.ref p4)))) pr = some (.lst (qs.map .ref)) := by rw [upd_ne hprq]; exact e16 _ _ hl1
    have k7 := ent (ents_put (c := c) k2 hM6)
    generalize (upd H6 q (.dK (putK kvs (Sum.inr (lt c)) (.ref p4)))) = H7 at ps7 hq7 em7 hl7 r7 k7 sb
    have rok7 : RowOk cs ts ms rows.length (putR row c (g, o)) := rok.put hcm ⟨g0, by omega⟩ ho
    -- the end
    have fin : ∀ (H8 : Hp) (rows' : List Rw), Same H H8 → H8 pr = some (.lst (qs.map .ref)) → Paired (RwAt H8) qs rows' → WfR cs ts ms rows' ends start → rows'.length = rows.length → ∀ (Hz : Hp) (pe t' : Addr), H8 pe = none → (upd H8 pe (.lst (ends.map .int))) t' = none → Q (.ref t') (upd (upd H8 pe (.lst (ends.map .int))) t' (.tup [.ref pr, .ref pe, .int start])) := by
      intro H8 rows' em8 hl8 ps8 W8 hln _ pe t' hpe ht'
      have z1 := same_new (o := .lst (ends.map .int)) hpe
      have z2 := same_new (o := .tup [.ref pr, .ref pe, .int start]) ht'
      exact k t' rows' _ W8 hln ((em8.trans z1).trans z2) ⟨pr, pe, qs, upd_same, z2 _ _ (z1 _ _ hl8), Paired.mono ps8 fun a b h => h.mono (z1.trans z2), z2 _ _ upd_same⟩
    refine ⟨_, rfl, r, _, rfl, by decide, by decide, em7 _ _ hR, fun d' H8 d0' d1' e8 => ⟨rfl, _, rfl, ite2 (fun hd => ?_) (fun hd => ?_)⟩⟩
    · -- taken out again
      have hv : ∃ p m, valV (putK kvs (Sum.inr (lt c)) (.ref p4)) (Sum.inr (lt c)) = some (.ref p) ∧ mvOf (putR row c (g, o)) c = some m ∧ MvAt H7 p m := by
        rcases ents_val (c := c) k7 with h | ⟨_, _, h⟩
        · exact h
        · refine absurd ?_ h
          rw [put_keys]
          by_cases hc' : c ∈ row.map (·.1)
          · rw [if_pos hc']; exact hc'
          · rw [if_neg hc']; exact List.mem_append_right _ List.mem_cons_self
      obtain ⟨pv', mv', hv1, _, _⟩ := hv
      have hq8 := e8 _ _ hq7
      refine ⟨_, rfl, _, rfl, pr, _, _, _, rfl, rfl, SqL.of (e8 _ _ hl7), hat', q, rfl, .inl ⟨_, .inl hq8⟩, _, rfl, _, Sum.inr (lt c), _, hq8, rfl, hv1, ?_⟩
      have sb8 : SameB q H8 (upd H8 q (.dK (dropK (putK kvs (Sum.inr (lt c)) (.ref p4)) (Sum.inr (lt c))))) := SameB.upd
      have r8 : RwAt (upd H8 q (.dK (dropK (putK kvs (Sum.inr (lt c)) (.ref p4)) (Sum.inr (lt c))))) q (dropR (putR row c (g, o)) c) := rw_iff.mpr ⟨_, upd_same, Paired.mono (ents_drop k7) fun a b g => ⟨g.1, g.2.imp fun p z => ⟨z.1, sb8 _ _ (fun y => by have := e8 _ _ z.2; rw [y, hq8] at this; cases this) (e8 _ _ z.2)⟩⟩⟩
      have ps8 := rows_set (Paired.mono ps7 fun a b h => h.mono e8) qnd hqa hq8 sb8 r8
      have hl8 : (upd H8 q (.dK (dropK (putK kvs (Sum.inr (lt c)) (.ref p4)) (Sum.inr (lt c))))) pr = some (.lst (qs.map .ref)) := by rw [upd_ne hprq]; exact e8 _ _ hl7
      have em8 := same_upd (o := .dK (dropK (putK kvs (Sum.inr (lt c)) (.ref p4)) (Sum.inr (lt c)))) (em7.trans e8) hrq.2
      generalize (upd H8 q (.dK (dropK (putK kvs (Sum.inr (lt c)) (.ref p4)) (Sum.inr (lt c))))) = H9 at ps8 hl8 em8
      refine ⟨_, rfl, _, rfl, t, _, _, _, rfl, rfl, SqT.of (em8 _ _ m1), rfl, pe0, _, rfl, .inl (SqL.of (em8 _ _ m4)), fun pe hpe => ⟨_, rfl, t, _, _, _, rfl, rfl, SqT.of ((em8.trans (same_new hpe)) _ _ m1), rfl, by show 3 ≤ sizeLine; decide, fun t' ht' => ?_⟩⟩
      rw [List.set_set] at ps8
      exact fin H9 _ em8 hl8 ps8 (W.set rok7.drop) (List.length_set) H9 pe t' hpe ht'
    · refine ⟨_, rfl, _, rfl, t, _, _, _, rfl, rfl, SqT.of ((em7.trans e8) _ _ m1), rfl, pe0, _, rfl, .inl (SqL.of ((em7.trans e8) _ _ m4)), fun pe hpe => ⟨_, rfl, t, _, _, _, rfl, rfl, SqT.of (((em7.trans e8).trans (same_new hpe)) _ _ m1), rfl, by show 3 ≤ sizeLine; decide, fun t' ht' => ?_⟩⟩
      exact fin H8 _ (em7.trans e8) (e8 _ _ hl7) (Paired.mono ps7 fun a b h => h.mono e8) (W.set rok7) (List.length_set) H8 pe t' hpe ht'
end
end SS

set_option maxRecDepth 100000
set_option maxHeartbeats 4000000
set_option pp.maxSteps 1500
namespace SS
open PySem L2 SR TL
section
variable {P : Program} {w : World} {K : PySem.W.Frag} {mg : Str → Option Value} {base : Heap}
/-! ### _law_format -/
abbrev sFmt : Stmt := top 63
abbrev nFmt : List Str := ["_law_rng_here", "_law_cap", "_law_paper", "_law_tells", "_law_marks_here", "_law_way", "_law_found"]
abbrev psFmt : List Str := ["_law_rng_here", "_law_cap", "_law_paper", "_law_tells", "_law_marks_here"]
theorem scFmt : FnScope nFmt psFmt (defScope sFmt) := ⟨rfl, rfl, rfl, by decide +kernel, rfl, by decide +kernel, by decide +kernel⟩
def spFmt : Sp := fun vs H Q _ => ∃ (r pc pt pm : Addr) (cap : Nat) (cs ts : List Nat) (ms : List (List Nat)), vs = [.ref r, .int cap, .ref pc, .ref pt, .ref pm] ∧ 4 ≤ cap ∧ cap ≤ 12 ∧ Pal cs ts ms ∧ cs.Nodup ∧ 3 ≤ cs.length ∧ 2 ≤ ts.length ∧ 2 ≤ ms.length ∧ H r = some (rngO r) ∧
  H pc = some (.lst (cs.map ltV)) ∧ H pt = some (.lst (ts.map ltV)) ∧ H pm = some (.lst (ms.map txtV)) ∧
  ∀ (t : Addr) (rows : List Rw) (ends : List Int) (start : Int) (H' : Hp), WfR cs ts ms rows ends start → rows.length ≤ cap → Same H H' → ModAt H' t rows ends start → Q (.ref t) H'
theorem ok_fmt {f : Addr} {fd : FuncData} (F : Fun K "_law_format" "_law_format" sFmt f fd) (D : Cal P w K mg base "_law_draw" 1 ["_law_rng_here", "_law_many"] spDraw) (An : Cal P w K mg base "_law_any_format" 3 psAny spAny) (Fa : Cal P w K mg base "_law_family" 1 psFam spFam) (Be : Cal P w K mg base "_law_bent" 3 psBent spBent) : FnOk P w K mg base CX0 4 f fd psFmt spFmt := by
  refine F.ok scFmt (fun vs H Q E h => ?_) (fun cdv A outer s H vs Q E hr h => ?_)
  · obtain ⟨r, pc, pt, pm, cap, cs, ts, ms, rfl, _⟩ := h
    rfl
  · obtain ⟨r, pc, pt, pm, cap, cs, ts, ms, rfl, c4, c12, PA', cnd, c3, t2, m2, hR, hc, ht, hm, k⟩ := h
    have hr1 := hr.mono (by decide : 1 ≤ 3)
    refine ⟨_, pss_cons (ps_set (i := 5) scFmt.nd rfl (.inl rfl) (pe_cal D hr1 (pa_cons (pv 0) (pa_cons pe_int pa_nil))))
      (pss_cons (ps_if (pt_cmpR op_lt (pv 5) pe_int (nomark _))
        (pss_one (ps_ret (pe_cal An hr (pa_cons (pv 0) (pa_cons (pv 1) (pa_cons (pv 2) (pa_cons (pv 3) (pa_cons (pv 4) pa_nil)))))))) pss_nil)
      (pss_cons (ps_set (i := 6) scFmt.nd rfl (.inl rfl) (pe_cal Fa hr1 (pa_cons (pe_cal D hr1 (pa_cons (pv 0) (pa_cons pe_int pa_nil))) (pa_cons (pv 2) (pa_cons (pv 3) (pa_cons (pv 4) pa_nil))))))
      (pss_one (ps_ret (pe_ifExp (pt_cmpR op_lt (pv 5) pe_int (nomark _)) (pv 6) (pe_cal Be hr (pa_cons (pv 0) (pa_cons (pv 6) (pa_cons (pv 2) (pa_cons (pv 3) (pa_cons (pv 4) pa_nil))))))))))), ?_⟩
    refine ⟨_, rfl, r, _, rfl, by decide, by decide, hR, fun d H1 d0 d1 e1 => ⟨_, rfl, _, _, rfl, rfl, _, rfl, ite2 (fun hd => ?_) (fun hd => ?_)⟩⟩
    · exact ⟨_, rfl, _, rfl, _, rfl, _, rfl, _, rfl, r, pc, pt, pm, cap, cs, ts, ms, rfl, by omega, c12, PA', cnd, e1 _ _ hR, e1 _ _ hc, e1 _ _ ht, e1 _ _ hm, fun t rows ends start H2 W hl _ e2 M => k t rows ends start H2 W hl (e1.trans e2) M⟩
    refine ⟨_, rfl, r, _, rfl, by decide, by decide, e1 _ _ hR, fun d' H2 d0' d1' e2 => ?_⟩
    have e12 := e1.trans e2
    refine ⟨_, rfl, _, rfl, _, rfl, d', pc, pt, pm, cs, ts, ms, rfl, c3, t2, m2, cnd, e12 _ _ hc, e12 _ _ ht, e12 _ _ hm, fun t rows ends H3 W hl e3 M => ?_⟩
    have e13 := e12.trans e3
    refine ⟨_, rfl, _, _, rfl, rfl, _, rfl, ite2 (fun hd2 => ?_) (fun hd2 => ?_)⟩
    · exact ⟨_, rfl, k t rows ends 0 H3 W (by omega) e13 M⟩
    · exact ⟨_, rfl, _, rfl, _, rfl, _, rfl, _, rfl, r, t, pc, pt, pm, cs, ts, ms, rows, ends, 0, rfl, PA', by omega, e13 _ _ hR, e13 _ _ hc, e13 _ _ ht, e13 _ _ hm, W, M, fun t' rows' H4 W' hl' e4 M' => k t' rows' ends 0 H4 W' (by omega) (e13.trans e4) M'⟩
end
end SS

set_option maxRecDepth 100000
set_option maxHeartbeats 4000000
namespace SR
open PySem PySem.Spec PyProof.Rows L2
/-! A list or a tuple, or a tuple of the written part (a default). -/
def KTup (K : PySem.W.Frag) (a : Addr) (xs : List V) : Prop := ∃ (o : Obj) (its : Array Value) (n : Nat), K.lookup a = some o ∧ o.cls = .type "tuple" ∧ o.data = .seq its n ∧ its.size ≤ sizeLine ∧ Vals xs its.toList
def LoQ (K : PySem.W.Frag) (H : Hp) (a : Addr) (xs : List V) : Prop := LoT H a xs ∨ KTup K a xs
theorem LoQ.mono {K : PySem.W.Frag} {H H' : Hp} {a : Addr} {xs : List V} (e : Same H H') (h : LoQ K H a xs) : LoQ K H' a xs := h.imp (·.mono e) id
theorem LoQ.seq {K : PySem.W.Frag} {H : Hp} {a : Addr} {xs : List V} (h : LoQ K H a xs) : SqL K H a xs ∨ SqT K H a xs := h.elim LoT.seq fun k => .inr (.inr k)
theorem isi_LQ {K : PySem.W.Frag} {H : Hp} {a : Addr} {xs : List V} (h : LoQ K H a xs) : ∃ t, TyX K H (.ref a) t ∧ PySem.W.kitAny K t [.type "list", .type "tuple"] = some true := by
  rcases h with h | ⟨o, its, n, h1, h2, _⟩
  · exact isi_LT h
  · exact ⟨_, .kTuple h1 h2, kitAny_cons (kit_ty (b := "list") (r := false) (by decide +kernel)) (fun _ => kitAny_cons (kit_ty (b := "tuple") (r := true) (by decide +kernel)) nofun fun _ => rfl) nofun⟩
def iLoQ (K : PySem.W.Frag) (tl : TE) : TI := fun σ H R => tl σ H fun x H1 => ∃ a xs, x = .ref a ∧ LoQ K H1 a xs ∧ ∀ (J : It) (G : Hp → Prop), Walk J xs.length G (YAt xs) → (∀ H', Same H1 H' → G H') → R J H1
theorem pi_loq {X : Cx} {tg l : Expr} {tl : TE} (hl : PE X l tl) : PI X tg l (iLoQ X.K tl) := by
  refine ⟨fun pins s σ H R I h => ?_⟩
  refine thn (hl.run pins s σ H _ I h) fun v s1 ⟨x, H1, I1, r1, q1⟩ => ?_
  obtain ⟨a, xs, e, hq, q⟩ := q1
  subst e
  cases r1
  have tp : ∀ hq' : SqT X.K H1 a xs, (∀ H', Same H1 H' → SqT X.K H' a xs) → wpAny (model X.prog X.w) X.A (pyIter (.ref a)) (PIE X pins σ tg R) X.xe s1 := fun hq' hs => by
    obtain ⟨its, rv, p, hz⟩ := I1.tuple hq'
    refine wpAny_pyIter_tuple (show s1.heap.IsTuple a its.toArray from p) ?_
    exact pi_one (tk := s1.toks) I1 _ (turn_tuple a _) ⟨_, Heap.get?_push_size _ rfl, rfl, rfl⟩ (q (Itt X.K a) _ walk_tup hs)
  rcases hq with (hq | hq) | hq
  · have hq' : SqL X.K H1 a xs := SqL.of hq
    obtain ⟨its, rv, p, hz⟩ := I1.list hq'
    refine wpAny_pyIter_list p.isList ?_
    exact pi_one (tk := s1.toks) I1 _ (turn_list a _) ⟨_, Heap.get?_push_size _ rfl, rfl, rfl⟩ (q (Itl X.K a) _ walk_list fun H' e => e.seq hq')
  · exact tp (SqT.of hq) fun H' e => SqT.of (e _ _ hq)
  · exact tp (.inr hq) fun H' e => .inr hq
end SR

set_option maxRecDepth 100000
set_option maxHeartbeats 4000000
set_option pp.maxSteps 1500
namespace SS
open PySem L2 SR TL
theorem all_true : ∀ n : Nat, (List.replicate n true).all id = true
  | 0 => rfl
  | n + 1 => by rw [List.replicate_succ, List.all_cons, all_true n]; rfl
/-- the constants of the program -/
structure Cn (mg : Str → Option Value) : Prop where
  letters : ∃ t, mg "LETTERS" = some (.str (Str.ofString "abcdefghijklmnopqrstuvwxyz") t)
  longest : ∃ t, mg "LONGEST_NAME" = some (.int 8 t)
  page : ∃ t, mg "MOST_PAGE_SIGNS" = some (.int 6 t)
  text : ∃ t, mg "MOST_TEXT_SIGNS" = some (.int 4 t)
  marks : ∃ t, mg "MOST_MARKS" = some (.int 6 t)
section
variable {P : Program} {w : World} {K : PySem.W.Frag} {mg : Str → Option Value} {base : Heap}
/-! ### is_word -/
abbrev sWord : Stmt := top 15
abbrev nWord : List Str := ["value", "letter"]
abbrev psWord : List Str := ["value"]
theorem scWord : FnScope nWord psWord (defScope sWord) := ⟨rfl, rfl, rfl, by decide +kernel, rfl, by decide +kernel, by decide +kernel⟩
def spWord : Sp := fun vs H Q _ => ∃ v, vs = [v] ∧ ((NonStr H v ∧ Q (.bl false) H) ∨ ∃ x, v = .str (txt x) ∧ x.length ≤ 1000 ∧ ∀ b H', (b = true ↔ Lets x) → Same H H' → Q (.bl b) H')
theorem ok_word {f : Addr} {fd : FuncData} (F : Fun K "is_word" "is_word" sWord f fd) (B : Bl mg) (C : Cn mg) : FnOk P w K mg base CX0 1 f fd ["value"] spWord := by
  obtain ⟨tl, hl⟩ := C.letters
  refine F.ok scWord (fun vs H Q E h => ?_) (fun cdv A outer s H vs Q E hr h => ?_)
  · obtain ⟨v, rfl, _⟩ := h
    rfl
  · obtain ⟨v, rfl, k⟩ := h
    refine ⟨_, pss_one (ps_ret (pe_and (pe_callB call_isi (by rfl) B.isinstance (by decide +kernel) (pa_cons (pv 0) (pa_cons (pe_bltn (v := .ty "str") (by rfl) B.str (by decide +kernel) rfl) pa_nil)))
      (pe_one (pe_callB (cr_all rfl) (by rfl) B.all (by decide +kernel) (pa_cons (pe_lc (own := [("letter", 1)]) (g := gName 1) (tt := tYes) (te := tOp rInSg (tVar 1) (tC (.str (Str.ofString "abcdefghijklmnopqrstuvwxyz")))) rfl scWord.nd (pi_str (pv 0)) (blkOk_by (by kernel_rfl))
        (fun _ _ _ _ _ => pg_name (i := 1) scWord.nd rfl (.inl rfl)) (fun _ _ _ _ _ => pts_nil) (fun _ _ _ _ _ => pe_cmpR op_in_sign (pv 1) (pe_glob rfl hl ⟨tl, rfl⟩) (by rfl))) pa_nil))))), ?_⟩
    rcases k with ⟨hn, k⟩ | ⟨x, rfl, hx, k⟩
    · obtain ⟨t, h1, h2⟩ := hn.isi (K := K)
      exact ⟨_, rfl, _, _, t, _, false, rfl, .ty "str", h1, h2, false, rfl, k⟩
    · refine ⟨_, rfl, _, _, _, _, true, rfl, .ty "str", .base (.str _), kit_ty (by decide +kernel), true, rfl, ?_⟩
      have hz : (txt x).cps.size = x.length := by simp [txt]
      refine ⟨_, rfl, _, rfl, fun D hD => lc_S walk_str hD (by rw [hz]; omega) (fun i acc _ => acc = ((x.take i).map fun c => decide (97 ≤ c ∧ c < 123)).map V.bl) (fun _ _ _ _ _ _ _ h => h) rfl (fun _ _ => trivial) ?_ ?_⟩
      · rintro i v H3 H3' acc Qt Qf hi e3 hd rfl ⟨rfl, c, hc, rfl⟩ kt kf
        have hc' : x[i]? = some c := by simpa [txt] using hc
        refine ⟨rfl, _, rfl, c, _, rfl, rfl, kt _ _ (Same.refl _) ?_⟩
        have et : x.take (i + 1) = x.take i ++ [c] := by rw [List.take_add_one, hc']; rfl
        rw [et, List.map_append, List.map_append]
        have : decide (c ∈ (Str.ofString "abcdefghijklmnopqrstuvwxyz").cps.toList) = decide (97 ≤ c ∧ c < 123) := decide_eq_decide.mpr (in26 c)
        rw [this]
        rfl
      · rintro H1 acc e1 hd rfl
        rw [hz, List.take_length] at hd
        refine ⟨D, _, rfl, SqL.of hd, k _ _ ?_ e1⟩
        rw [List.all_eq_true]
        constructor
        · intro h c hc
          exact of_decide_eq_true (h _ (List.mem_map.mpr ⟨c, hc, rfl⟩))
        · intro h b hb
          obtain ⟨c, hc, rfl⟩ := List.mem_map.mp hb
          exact decide_eq_true (h c hc)
/-! ### is_sign, is_mark, is_name -/
abbrev sSign : Stmt := top 16
abbrev nSign : List Str := ["value"]
abbrev psSign : List Str := ["value"]
theorem scSign : FnScope nSign psSign (defScope sSign) := ⟨rfl, rfl, rfl, by decide +kernel, rfl, by decide +kernel, by decide +kernel⟩
def spSign : Sp := fun vs H Q _ => ∃ x, vs = [txtV x] ∧ Lets x ∧ x.length ≤ 1000 ∧ ∀ H', Same H H' → Q (.bl (decide (x.length = 1))) H'
theorem ok_sign {f : Addr} {fd : FuncData} (F : Fun K "is_sign" "is_sign" sSign f fd) (B : Bl mg) (Wd : Cal P w K mg base "is_word" 1 ["value"] spWord) : FnOk P w K mg base CX0 2 f fd ["value"] spSign := by
  refine F.ok scSign (fun vs H Q E h => ?_) (fun cdv A outer s H vs Q E hr h => ?_)
  · obtain ⟨x, rfl, _⟩ := h
    rfl
  · obtain ⟨x, rfl, hx, hl, k⟩ := h
    refine ⟨_, pss_one (ps_ret (pe_and (pe_cal Wd hr (pa_cons (pv 0) pa_nil)) (pe_one (pe_cmpR op_eq (pe_callB call_len_str (by rfl) B.len boot_len (pa_cons (pv 0) pa_nil)) pe_int (nomark _))))), ?_⟩
    refine ⟨_, rfl, _, rfl, .inr ⟨x, rfl, hl, fun b H1 hb e1 => ?_⟩⟩
    have hb' : b = true := hb.mpr hx
    subst hb'
    refine ⟨true, rfl, ?_⟩
    refine ⟨_, rfl, _, rfl, by rw [txt_len, sizeLine_eq]; omega, rfl, ?_⟩
    rw [show decide (V.int ((txt x).length : Nat) = V.int 1) = decide (x.length = 1) by
      rw [txt_len, decide_eq_decide]
      exact ⟨fun h => by have := V.int.inj h; omega, fun h => by rw [h]; rfl⟩]
    exact k _ e1
abbrev sMark : Stmt := top 17
abbrev nMark : List Str := ["value"]
abbrev psMark : List Str := ["value"]
theorem scMark : FnScope nMark psMark (defScope sMark) := ⟨rfl, rfl, rfl, by decide +kernel, rfl, by decide +kernel, by decide +kernel⟩
def spMark : Sp := fun vs H Q _ => ∃ x, vs = [txtV x] ∧ Lets x ∧ x.length ≤ 1000 ∧ ∀ H', Same H H' → Q (.bl (decide (1 < x.length ∧ x.length ≤ 8))) H'
theorem ok_mark {f : Addr} {fd : FuncData} (F : Fun K "is_mark" "is_mark" sMark f fd) (B : Bl mg) (C : Cn mg) (Wd : Cal P w K mg base "is_word" 1 ["value"] spWord) : FnOk P w K mg base CX0 2 f fd ["value"] spMark := by
  obtain ⟨tl, hlo⟩ := C.longest
  refine F.ok scMark (fun vs H Q E h => ?_) (fun cdv A outer s H vs Q E hr h => ?_)
  · obtain ⟨x, rfl, _⟩ := h
    rfl
  · obtain ⟨x, rfl, hx, hl, k⟩ := h
    refine ⟨_, pss_one (ps_ret (pe_and (pe_cal Wd hr (pa_cons (pv 0) pa_nil)) (pe_one (pe_chain op_lt op_le pe_int (pe_callB call_len_str (by rfl) B.len boot_len (pa_cons (pv 0) pa_nil)) (pe_glob (v := .int 8) rfl hlo ⟨tl, rfl⟩))))), ?_⟩
    refine ⟨_, rfl, _, rfl, .inr ⟨x, rfl, hl, fun b H1 hb e1 => ?_⟩⟩
    have hb' : b = true := hb.mpr hx
    subst hb'
    refine ⟨true, rfl, ?_⟩
    refine ⟨_, rfl, _, rfl, by rw [txt_len, sizeLine_eq]; omega, _, _, rfl, rfl, _, rfl, ?_⟩
    rw [txt_len]
    by_cases h1 : 1 < x.length
    · rw [show decide ((1 : Int) < (x.length : Nat)) = true from decide_eq_true (by omega)]
      refine ⟨_, _, rfl, rfl, ?_⟩
      show Q (.bl (decide (((x.length : Nat) : Int) ≤ 8))) _
      rw [show decide (((x.length : Nat) : Int) ≤ 8) = decide (1 < x.length ∧ x.length ≤ 8) by rw [decide_eq_decide]; omega]
      exact k _ e1
    · rw [show decide ((1 : Int) < (x.length : Nat)) = false from decide_eq_false (by omega)]
      have := k _ e1
      rw [show decide (1 < x.length ∧ x.length ≤ 8) = false from decide_eq_false (by omega)] at this
      exact this
abbrev sName : Stmt := top 18
abbrev nName : List Str := ["value"]
abbrev psName : List Str := ["value"]
theorem scName : FnScope nName psName (defScope sName) := ⟨rfl, rfl, rfl, by decide +kernel, rfl, by decide +kernel, by decide +kernel⟩
def spName : Sp := fun vs H Q _ => ∃ x, vs = [txtV x] ∧ Lets x ∧ x.length ≤ 1000 ∧ ∀ H', Same H H' → Q (.bl (decide (1 ≤ x.length ∧ x.length ≤ 8))) H'
theorem ok_name {f : Addr} {fd : FuncData} (F : Fun K "is_name" "is_name" sName f fd) (Sg : Cal P w K mg base "is_sign" 2 ["value"] spSign) (Mk : Cal P w K mg base "is_mark" 2 ["value"] spMark) : FnOk P w K mg base CX0 3 f fd ["value"] spName := by
  refine F.ok scName (fun vs H Q E h => ?_) (fun cdv A outer s H vs Q E hr h => ?_)
  · obtain ⟨x, rfl, _⟩ := h
    rfl
  · obtain ⟨x, rfl, hx, hl, k⟩ := h
    refine ⟨_, pss_one (ps_ret (pe_or (pe_cal Sg hr (pa_cons (pv 0) pa_nil)) (pe_one (pe_cal Mk hr (pa_cons (pv 0) pa_nil))))), ?_⟩
    refine ⟨_, rfl, x, rfl, hx, hl, fun H1 e1 => ⟨_, rfl, ite2 (fun h => ?_) (fun h => ?_)⟩⟩
    · have := k _ e1
      rw [show decide (1 ≤ x.length ∧ x.length ≤ 8) = true from decide_eq_true (by have := of_decide_eq_true h; omega)] at this
      exact this
    · refine ⟨_, rfl, x, rfl, hx, hl, fun H2 e2 => ?_⟩
      have h' : ¬ x.length = 1 := fun z => h (decide_eq_true z)
      have := k _ (e1.trans e2)
      rw [show decide (1 ≤ x.length ∧ x.length ≤ 8) = decide (1 < x.length ∧ x.length ≤ 8) by rw [decide_eq_decide]; omega] at this
      exact this
/-! ### is_below, are_different -/
abbrev sNum : Stmt := top 19
abbrev nNum : List Str := ["value", "limit"]
abbrev psNum : List Str := ["value", "limit"]
theorem scNum : FnScope nNum psNum (defScope sNum) := ⟨rfl, rfl, rfl, by decide +kernel, rfl, by decide +kernel, by decide +kernel⟩
def spNum : Sp := fun vs H Q _ => ∃ i m, vs = [.int i, .int m] ∧ 0 ≤ i ∧ i < m ∧ Q (.bl true) H
theorem ok_num {f : Addr} {fd : FuncData} (F : Fun K "is_below" "is_below" sNum f fd) (B : Bl mg) : FnOk P w K mg base CX0 1 f fd ["value", "limit"] spNum := by
  refine F.ok scNum (fun vs H Q E h => ?_) (fun cdv A outer s H vs Q E hr h => ?_)
  · obtain ⟨i, m, rfl, _⟩ := h
    rfl
  · obtain ⟨i, m, rfl, i0, i1, k⟩ := h
    refine ⟨_, pss_one (ps_ret (pe_and (pe_callB call_isi (by rfl) B.isinstance (by decide +kernel) (pa_cons (pv 0) (pa_cons (pe_bltn (v := .ty "int") (by rfl) B.int (by decide +kernel) rfl) pa_nil)))
      (pe_and (pe_not (pe_callB call_isi (by rfl) B.isinstance (by decide +kernel) (pa_cons (pv 0) (pa_cons (pe_bltn (v := .ty "bool") (by rfl) B.bool (by decide +kernel) rfl) pa_nil))))
        (pe_one (pe_chain op_le op_lt pe_int (pv 0) (pv 1)))))), ?_⟩
    refine ⟨_, rfl, _, _, _, _, true, rfl, .ty "int", .base (.int i), kit_ty (by decide +kernel), true, rfl, ?_⟩
    refine ⟨_, rfl, _, _, _, _, false, rfl, .ty "bool", .base (.int i), kit_ty (by decide +kernel), false, rfl, true, rfl, ?_⟩
    refine ⟨_, rfl, _, _, rfl, rfl, _, rfl, ?_⟩
    rw [decide_eq_true i0]
    refine ⟨_, rfl, _, _, rfl, rfl, ?_⟩
    show Q (.bl (decide (i < m))) H
    rw [decide_eq_true i1]
    exact k
abbrev sSta : Stmt := top 20
abbrev nSta : List Str := ["value", "limit", "one"]
abbrev psSta : List Str := ["value", "limit"]
theorem scSta : FnScope nSta psSta (defScope sSta) := ⟨rfl, rfl, rfl, by decide +kernel, rfl, by decide +kernel, by decide +kernel⟩
def spSta (K : PySem.W.Frag) : Sp := fun vs H Q _ => ∃ (a : Addr) (m : Int) (es : List Int), vs = [.ref a, .int m] ∧ es.length ≤ 100 ∧ es.Nodup ∧ (∀ g ∈ es, 0 ≤ g ∧ g < m) ∧ LoQ K H a (es.map .int) ∧ ∀ H', Same H H' → Q (.bl true) H'
theorem ok_sta {f : Addr} {fd : FuncData} (F : Fun K "are_different" "are_different" sSta f fd) (B : Bl mg) (N : Cal P w K mg base "is_below" 1 ["value", "limit"] spNum) : FnOk P w K mg base CX0 2 f fd ["value", "limit"] (spSta K) := by
  refine F.ok scSta (fun vs H Q E h => ?_) (fun cdv A outer s H vs Q E hr h => ?_)
  · obtain ⟨a, m, es, rfl, _⟩ := h
    rfl
  · obtain ⟨a, m, es, rfl, hl, nd, hg, ha, k⟩ := h
    refine ⟨_, pss_cons (ps_if (PW.pt (pw_or (pt_not (pt_val (pe_callB call_isiT (by rfl) B.isinstance (by decide +kernel) (pa_cons (pv 0) (pa_cons (pe_tup (pa_cons (pe_bltn (v := .ty "list") (by rfl) B.list (by decide +kernel) rfl) (pa_cons (pe_bltn (v := .ty "tuple") (by rfl) B.tuple (by decide +kernel) rfl) pa_nil))) pa_nil)))))
          (pw_or1 (pt_not (pt_val (pe_callB (cr_all rfl) (by rfl) B.all (by decide +kernel) (pa_cons (pe_lc (own := [("one", 2)]) (g := gName 2) (tt := tYes) (te := tCall spNum [] E0 (tCons (tVar 2) (tCons (tVar 1) tNil))) rfl scSta.nd (pi_loq (pv 0)) (blkOk_by (by kernel_rfl))
            (fun _ _ _ _ _ => pg_name (i := 2) scSta.nd rfl (.inl rfl)) (fun _ _ _ _ _ => pts_nil) (fun _ _ _ _ _ => pe_cal N hr (pa_cons (pv 2) (pa_cons (pv 1) pa_nil)))) pa_nil)))))))
        (pss_one (ps_ret pe_bl)) pss_nil)
      (pss_one (ps_ret (pe_cmpR op_eq (pe_callB cr_lenK (by rfl) B.len boot_len (pa_cons (pe_callTy (cr_setK rfl) (by rfl) B.set (by decide +kernel) (pa_cons (pv 0) pa_nil)) pa_nil)) (pe_callB call_len_seq (by rfl) B.len boot_len (pa_cons (pv 0) pa_nil)) (nomark _)))), ?_⟩
    refine ⟨_, rfl, (by show 2 ≤ sizeLine; decide), fun T hT => ?_⟩
    have e0 : Same H (upd H T (.tup [.ty "list", .ty "tuple"])) := same_new hT
    obtain ⟨t, ty, kt⟩ := isi_LQ (K := K) (ha.mono e0)
    refine ⟨_, T, _, t, _, true, rfl, upd_same, .cons (.ty _) (.cons (.ty _) .nil), ty, kt, true, rfl, ?_⟩
    refine ⟨_, rfl, a, _, rfl, ha.mono e0, fun J G wk hG D hD => lc_S wk hD (by rw [List.length_map]; omega) (fun i acc _ => acc = (List.replicate i true).map V.bl) (fun _ _ _ _ _ _ _ h => h) rfl hG ?_ ?_⟩
    · rintro i v H3 H3' acc Qt Qf hi e3 hd rfl ⟨rfl, hv⟩ kt kf
      rw [List.getElem?_map] at hv
      obtain ⟨g, hg', rfl⟩ := Option.map_eq_some_iff.mp hv
      have hgm := hg g (List.mem_of_getElem? hg')
      refine ⟨rfl, _, rfl, _, rfl, _, _, rfl, hgm.1, hgm.2, kt _ _ (Same.refl _) ?_⟩
      rw [List.replicate_succ', List.map_append]
      rfl
    · rintro H1 acc e1 hd rfl
      refine ⟨D, _, rfl, SqL.of hd, _, rfl, ?_⟩
      rw [all_true]
      have e01 := e0.trans e1
      refine ⟨_, rfl, es.map Sum.inl, .inl ⟨a, rfl, ?_⟩, by rw [List.length_map]; omega, fun p l hp ndl hm hll => ?_⟩
      · have := (ha.mono e01).seq
        rw [show (es.map Sum.inl).map kV = es.map V.int by rw [List.map_map]; rfl]
        exact this
      · have pm : l.Perm (es.map Sum.inl) := (List.perm_ext_iff_of_nodup ndl (List.Pairwise.map _ (fun a b hab e => hab (Sum.inl.inj e)) nd)).mpr hm
        have e2 := e01.trans (same_new (o := SetMO w p l) hp)
        refine ⟨p, l, rfl, upd_same, _, rfl, a, _, rfl, (ha.mono e2).seq, rfl, ?_⟩
        have hh : decide (V.int (l.length : Nat) = V.int ((es.map V.int).length : Nat)) = true := decide_eq_true (by rw [pm.length_eq, List.length_map, List.length_map])
        show Q (.bl (decide (V.int (l.length : Nat) = V.int ((es.map V.int).length : Nat)))) _
        rw [hh]
        exact k _ e2
end
end SS

set_option maxRecDepth 100000
set_option maxHeartbeats 4000000
set_option pp.maxSteps 1500
namespace SS
open PySem L2 SR TL
def rIsN : R2 := fun x y H Q => y = .non ∧ Q (.bl (decide (x = .non))) H
theorem lock_same {H H' : Hp} {q : Addr} {u : HO} {od : Obj} (h : H q = some u) (e : Same (upd H q (.frz od u)) H') : Same H (upd H' q u) := fun b o hb => by
  by_cases hq : b = q
  · subst hq
    rw [upd_same, ← hb, h]
  · rw [upd_ne hq]
    exact e _ _ (by rw [upd_ne hq]; exact hb)
theorem lock_get {H : Hp} {q b : Addr} {u o : HO} {od : Obj} (h : H q = some u) (hb : H b = some o) (n : u ≠ o) : (upd H q (.frz od u)) b = some o := by
  rw [upd_ne fun z => ?_]
  · exact hb
  · rw [z, h] at hb
    exact n (Option.some.inj hb)
theorem tell_non {o : Option (List Nat)} : decide (tellV o = V.non) = decide (o = none) := by
  cases o with
  | none => rfl
  | some x => exact (decide_eq_false (by intro z; cases z)).trans (decide_eq_false (by intro z; cases z)).symm
section
variable {P : Program} {w : World} {K : PySem.W.Frag} {mg : Str → Option Value} {base : Heap}
/-! ### is_move -/
abbrev sMove : Stmt := top 21
abbrev nMove : List Str := ["value", "many"]
abbrev psMove : List Str := ["value", "many"]
theorem scMove : FnScope nMove psMove (defScope sMove) := ⟨rfl, rfl, rfl, by decide +kernel, rfl, by decide +kernel, by decide +kernel⟩
def spMove : Sp := fun vs H Q _ => ∃ (p : Addr) (m : Mv) (n : Int), vs = [.ref p, .int n] ∧ MvAt H p m ∧ 0 ≤ m.1 ∧ m.1 < n ∧ (∀ x, m.2 = some x → Name x) ∧ ∀ H', Same H H' → Q (.bl true) H'
theorem ok_move {f : Addr} {fd : FuncData} (F : Fun K "is_move" "is_move" sMove f fd) (B : Bl mg) (N : Cal P w K mg base "is_below" 1 ["value", "limit"] spNum) (Nm : Cal P w K mg base "is_name" 3 ["value"] spName) : FnOk P w K mg base CX0 4 f fd psMove spMove := by
  refine F.ok scMove (fun vs H Q E h => ?_) (fun cdv A outer s H vs Q E hr h => ?_)
  · obtain ⟨p, m, n, rfl, _⟩ := h
    rfl
  · obtain ⟨p, m, n, rfl, hp, g0, g1, hx, k⟩ := h
    have hr1 := hr.mono (by decide : 1 ≤ 3)
    refine ⟨_, pss_cons (ps_if (PW.pt (pw_or (pt_not (pt_val (pe_callB call_isi (by rfl) B.isinstance (by decide +kernel) (pa_cons (pv 0) (pa_cons (pe_bltn (v := .ty "tuple") (by rfl) B.tuple (by decide +kernel) rfl) pa_nil))))) (pw_or (pt_cmpR op_ne (pe_callB call_len_seq (by rfl) B.len boot_len (pa_cons (pv 0) pa_nil)) pe_int (nomark _)) (pw_or1 (pt_not (pt_val (pe_cal N hr1 (pa_cons (pe_ix ix_tup (pv 0) pe_int (fun _ _ => rfl)) (pa_cons (pv 1) pa_nil)))))))))
        (pss_one (ps_ret pe_bl)) pss_nil)
      (pss_one (ps_ret (pe_or (pe_cmpR op_isN (pe_ix ix_tup (pv 0) pe_int (fun _ _ => rfl)) pe_non (nomark _)) (pe_one (pe_cal Nm hr (pa_cons (pe_ix ix_tup (pv 0) pe_int (fun _ _ => rfl)) pa_nil)))))), ?_⟩
    have sp := SqT.of (K := K) hp
    refine ⟨_, rfl, _, _, _, _, true, rfl, .ty "tuple", .base (.tup hp), kit_ty (by decide +kernel), _, rfl, ?_⟩
    refine ⟨_, rfl, p, _, rfl, .inr sp, rfl, _, rfl, ?_⟩
    refine ite2 (fun h => absurd h (by simp)) (fun _ => ?_)
    refine ⟨_, rfl, p, _, _, _, rfl, rfl, sp, rfl, _, rfl, _, _, rfl, g0, g1, _, rfl, iteF ?_⟩
    refine ⟨_, rfl, p, _, _, _, rfl, rfl, sp, rfl, rfl, _, rfl, ?_⟩
    rw [tell_non]
    cases ho : m.2 with
    | none => exact iteT (k _ (Same.refl _))
    | some x =>
      obtain ⟨n1, n2, n3⟩ := hx x ho
      refine iteF ⟨_, rfl, p, _, _, _, rfl, rfl, sp, rfl, x, by rw [ho]; rfl, n1, by omega, fun H' e => ?_⟩
      rw [decide_eq_true (show 1 ≤ x.length ∧ x.length ≤ 8 from ⟨n2, n3⟩)]
      exact k _ e
/-! ### is_state_dict -/
abbrev sSdi : Stmt := top 22
abbrev nSdi : List Str := ["value", "many", "sign", "move"]
abbrev psSdi : List Str := ["value", "many"]
theorem scSdi : FnScope nSdi psSdi (defScope sSdi) := ⟨rfl, rfl, rfl, by decide +kernel, rfl, by decide +kernel, by decide +kernel⟩
def spSdi : Sp := fun vs H Q _ => ∃ (q : Addr) (row : Rw) (n : Int), vs = [.ref q, .int n] ∧ RwAt H q row ∧ row.length ≤ 100 ∧ (∀ e ∈ row, (97 ≤ e.1 ∧ e.1 < 123) ∧ (0 ≤ e.2.1 ∧ e.2.1 < n) ∧ ∀ x, e.2.2 = some x → Name x) ∧ ∀ H', Same H H' → Q (.bl true) H'
theorem ok_sdi {f : Addr} {fd : FuncData} (F : Fun K "is_state_dict" "is_state_dict" sSdi f fd) (B : Bl mg) (Sg : Cal P w K mg base "is_sign" 2 ["value"] spSign) (Mo : Cal P w K mg base "is_move" 4 psMove spMove) : FnOk P w K mg base CX0 5 f fd psSdi spSdi := by
  refine F.ok scSdi (fun vs H Q E h => ?_) (fun cdv A outer s H vs Q E hr h => ?_)
  · obtain ⟨q, row, n, rfl, _⟩ := h
    rfl
  · obtain ⟨q, row, n, rfl, hq, hl, hrow, k⟩ := h
    have hr2 := hr.mono (by decide : 2 ≤ 4)
    refine ⟨_, pss_one (ps_ret (pe_and (pe_callB call_isi (by rfl) B.isinstance (by decide +kernel) (pa_cons (pv 0) (pa_cons (pe_bltn (v := .ty "dict") (by rfl) B.dict (by decide +kernel) rfl) pa_nil))) (pe_one (pe_callB (cr_all rfl) (by rfl) B.all (by decide +kernel) (pa_cons (pe_lock (pe_lc (own := [("sign", 2), ("move", 3)]) (g := gTup K 2 (gCons (gName 2) (gCons (gName 3) gNil))) (tt := tYes) (te := tAndV (tCall spSign [] E0 (tCons (tVar 2) tNil)) (tCall spMove [] E0 (tCons (tVar 3) (tCons (tVar 1) tNil)))) rfl scSdi.nd (pi_items (pv 0)) (blkOk_by (by kernel_rfl)) (fun _ _ _ _ _ => pg_tup rfl (pgs_cons (pg_name (i := 2) scSdi.nd rfl (.inl rfl)) (pgs_cons (pg_name (i := 3) scSdi.nd rfl (.inl rfl)) pgs_nil))) (fun _ _ _ _ _ => pts_nil) (fun _ _ _ _ _ => pe_and (pe_cal Sg hr2 (pa_cons (pv 2) pa_nil)) (pe_one (pe_cal Mo hr (pa_cons (pv 3) (pa_cons (pv 1) pa_nil))))))) pa_nil))))), ?_⟩
    obtain ⟨kvs, h1, h2⟩ := rw_iff.mp hq
    have hkl : kvs.length = row.length := Paired.length h2
    refine ⟨_, rfl, _, _, _, _, true, rfl, .ty "dict", .base (.dK h1), kit_ty (by decide +kernel), true, rfl, ?_⟩
    refine ⟨q, _, h1, trivial, fun od => ?_⟩
    refine ⟨_, rfl, q, od, kvs, rfl, upd_same, fun D hD => lc_S (walk_items (d := q) (o := od) (kvs := kvs)) hD (by omega) (fun i acc _ => acc = (List.replicate i true).map V.bl) (fun _ _ _ _ _ _ _ h => h) rfl (fun H' e' => e' _ _ upd_same) ?_ ?_⟩
    · rintro i v H3 H3' acc Qt Qf hi e3 hd rfl ⟨T, x, y, rfl, hT, rfl, hx, hy⟩ kt kf
      have hir : i < row.length := by omega
      obtain ⟨kv, hkv, ent⟩ := paired_get i h2 (List.getElem?_eq_getElem hir)
      obtain ⟨en1, p, en2, en3⟩ := ent
      have hx' : x = ltV (row[i]).1 := by
        have := hx
        simp only [hkv, Option.map_some] at this
        rw [← Option.some.inj this, en1]
        rfl
      have hy' : y = .ref p := by
        have := hy
        simp only [hkv, Option.map_some] at this
        rw [← Option.some.inj this, en2]
      subst hx' hy'
      obtain ⟨c0, g0, t0⟩ := hrow _ (List.getElem_mem hir)
      have eT := same_new (o := .tup [ltV (row[i]).1, .ref p]) hT
      refine ⟨T, _, rfl, SqT.of upd_same, rfl, _, _, rfl, _, _, rfl, rfl, rfl, ?_⟩
      refine ⟨_, rfl, [(row[i]).1], rfl, fun c hc => by rw [List.mem_singleton.mp hc]; exact c0, by show 1 ≤ 1000; decide, fun H4 e4 => ⟨_, rfl, iteT ?_⟩⟩
      refine ⟨_, rfl, _, rfl, p, (row[i]).2, n, rfl, e4 _ _ (eT _ _ (e3 _ _ (lock_get h1 en3 (by intro z; cases z)))), g0.1, g0.2, t0, fun H5 e5 => kt _ _ ((eT.trans e4).trans e5) ?_⟩
      rw [List.replicate_succ', List.map_append]
      rfl
    · rintro H1 acc e1 hd rfl
      have nDq : D ≠ q := fun z => by rw [z, upd_same] at hD; cases hD
      refine ⟨e1 _ _ upd_same, D, List.replicate kvs.length true, rfl, SqL.of (by rw [upd_ne nDq]; exact hd), ?_⟩
      rw [all_true]
      exact k _ (lock_same h1 e1)
end
end SS

set_option maxRecDepth 100000
set_option maxHeartbeats 4000000
set_option pp.maxSteps 1500
namespace SS
open PySem L2 SR TL
/-- [.. for row in rows for .. in row], the rows dicts: what is gathered -/
theorem lc2_rows {J : It} {G : Hp → Prop} {ds : List (Addr × List (Key × V))} (w : Walk J ds.length G (YAt (ds.map fun d => V.ref d.1))) {ir : Nat} {vs vs2 : List Nat} {wi2 : TI} {g2 : TG} {tt2 : TT} {te : TE} {σ : St} {H1 : Hp} {D : Addr} {Qd : Hp → Prop} (hD : H1 D = none) (hG : ∀ H, Same H1 H → G H)
    (hds : ∀ d ∈ ds, H1 d.1 = some (.dK d.2)) (part : List (Key × V) → List V) (p0 : part [] = []) (few : ∀ i j d, ds[i]? = some d → j ≤ d.2.length → (((ds.take i).flatMap fun d => part d.2) ++ part (d.2.take j)).length ≤ 1000000)
    (Jk : Addr → Obj → List (Key × V) → It) (Yk : List (Key × V) → Nat → Hp → V → Hp → Prop) (wk : ∀ d od kvs, Walk (Jk d od kvs) kvs.length (fun H => H d = some (.frz od (.dK kvs))) (Yk kvs))
    (hwi : ∀ σ2 H R q od kvs, σ2[ir]? = some (some (.ref q)) → H q = some (.frz od (.dK kvs)) → R (Jk q od kvs) H → wi2 σ2 H R)
    (hst : ∀ d ∈ ds, ∀ (j : Nat) (kv : Key × V), d.2[j]? = some kv → ∀ (v0 : V) (od : Obj) (H : Hp) (y : V) (H6 : Hp) (Qt : V → Hp → Prop) (Qf : Hp → Prop), Same (upd H1 d.1 (.frz od (.dK d.2))) H → Yk d.2 j H y H6 →
      (∀ z H8, Same H H8 → part (d.2.take (j + 1)) = part (d.2.take j) ++ [z] → Qt z H8) → (∀ H8, Same H H8 → part (d.2.take (j + 1)) = part (d.2.take j) → Qf H8) →
      g2 y (wipe ((wipe σ vs).set ir (some v0)) vs2) H6 fun σ3 H7 => wipe σ3 vs2 = wipe ((wipe σ vs).set ir (some v0)) vs2 ∧ tt2 σ3 H7 fun b H8 => if b = true then te σ3 H8 Qt else Qf H8)
    (hσ1 : ∀ v, ((wipe σ vs).set ir (some v))[ir]? = some (some v)) (hσ2 : ∀ v, wipe ((wipe σ vs).set ir (some v)) vs = wipe σ vs)
    (hd : ∀ H, Same H1 H → H D = some (.lst (ds.flatMap fun d => part d.2)) → Qd H) :
    ∃ W : Nat → Nat → Hp → Prop, (∃ m, W 0 m (upd H1 D (.lst []))) ∧ ∀ i m H, W i m H →
      (J.stop i H ∧ Qd H) ∨ (J.go i H ∧ ∃ Nx : Hp → Prop, (∀ H', Nx H' → ∃ m', m' < m ∧ W (i + 1) m' H') ∧ ∀ x H', J.yld i H x H' → gName ir x (wipe σ vs) H' fun σ2 H2 => wipe σ2 vs = wipe σ vs ∧ tYes σ2 H2 fun b H3 =>
        if b = true then (∃ d u, H3 d = some u ∧ Mut (some u) ∧ ∀ od, wi2 σ2 (upd H3 d (.frz od u)) fun J2 H4 => ∃ W2 : Nat → Nat → Hp → Prop, (∃ m, W2 0 m H4) ∧ ∀ j m H5, W2 j m H5 →
          (J2.stop j H5 ∧ H5 d = some (.frz od u) ∧ Nx (upd H5 d u)) ∨ (J2.go j H5 ∧ ∃ N2 : Hp → Prop, (∀ H', N2 H' → ∃ m', m' < m ∧ W2 (j + 1) m' H') ∧ ∀ y H6, J2.yld j H5 y H6 → g2 y (wipe σ2 vs2) H6 fun σ3 H7 => wipe σ3 vs2 = wipe σ2 vs2 ∧ tt2 σ3 H7 fun b H8 =>
            if b = true then te σ3 H8 fun z H9 => ∃ acc, H9 D = some (.lst acc) ∧ acc.length < sizeLine ∧ N2 (upd H9 D (.lst (acc ++ [z]))) else N2 H8)) else Nx H3) := by
  refine ⟨fun i m H => m = ds.length - i ∧ i ≤ ds.length ∧ Same H1 H ∧ H D = some (.lst ((ds.take i).flatMap fun d => part d.2)), ⟨ds.length, by omega, Nat.zero_le _, same_new hD, upd_same⟩, ?_⟩
  rintro i m H ⟨rfl, hi, e, hacc⟩
  by_cases hlt : i < ds.length
  · refine .inr ⟨w.goes i H hlt (hG H e), fun H' => Same H1 H' ∧ H' D = some (.lst ((ds.take (i + 1)).flatMap fun d => part d.2)), fun H' h => ⟨_, by omega, rfl, hlt, h⟩, fun x H' hy => ?_⟩
    obtain ⟨rfl, hx⟩ := w.yields i H x H' hlt (hG H e) hy
    rw [List.getElem?_map, List.getElem?_eq_getElem hlt] at hx
    cases hx
    generalize hq : ds[i] = dd
    have hmem : dd ∈ ds := by rw [← hq]; exact List.getElem_mem hlt
    have hget : ds[i]? = some dd := by rw [List.getElem?_eq_getElem hlt, hq]
    obtain ⟨q, kvs⟩ := dd
    have h1 : H1 q = some (.dK kvs) := hds _ hmem
    refine ⟨hσ2 _, q, _, e _ _ h1, trivial, fun od => hwi _ _ _ q od kvs (hσ1 _) upd_same ?_⟩
    have nqD : D ≠ q := fun z => by rw [z, h1] at hD; cases hD
    refine ⟨fun j m H => m = kvs.length - j ∧ j ≤ kvs.length ∧ Same (upd H1 q (.frz od (.dK kvs))) H ∧ H D = some (.lst (((ds.take i).flatMap fun d => part d.2) ++ part (kvs.take j))), ⟨kvs.length, by omega, Nat.zero_le _, fun b o hb => ?_, ?_⟩, ?_⟩
    · by_cases hbq : b = q
      · subst hbq
        rw [upd_same] at hb ⊢
        exact hb
      · rw [upd_ne hbq] at hb ⊢
        exact e _ _ hb
    · rw [upd_ne nqD, List.take_zero, p0, List.append_nil]
      exact hacc
    rintro j m H5 ⟨rfl, hj, e5, hacc5⟩
    have hfz : H5 q = some (.frz od (.dK kvs)) := e5 _ _ upd_same
    by_cases hjl : j < kvs.length
    · refine .inr ⟨(wk q od kvs).goes j H5 hjl hfz, fun H' => Same (upd H1 q (.frz od (.dK kvs))) H' ∧ H' D = some (.lst (((ds.take i).flatMap fun d => part d.2) ++ part (kvs.take (j + 1)))), fun H' h => ⟨_, by omega, rfl, hjl, h⟩, fun y H6 hy => ?_⟩
      have hY := (wk q od kvs).yields j H5 y H6 hjl hfz hy
      have hDl : (upd H1 q (.frz od (.dK kvs))) D = none := by rw [upd_ne nqD]; exact hD
      refine hst _ hmem j kvs[j] (List.getElem?_eq_getElem hjl) _ od H5 y H6 _ _ e5 hY (fun z H8 e8 hp => ⟨_, e8 _ _ hacc5, ?_, same_upd (e5.trans e8) hDl, ?_⟩) (fun H8 e8 hp => ⟨e5.trans e8, by rw [hp]; exact e8 _ _ hacc5⟩)
      · exact Nat.lt_of_le_of_lt (few i j (q, kvs) hget hj) (by rw [sizeLine_eq]; decide)
      · rw [upd_same, List.append_assoc, ← hp]
    · have ej : j = kvs.length := by omega
      subst ej
      refine .inl ⟨(wk q od kvs).stops H5 hfz, hfz, lock_same h1 e5, ?_⟩
      rw [upd_ne nqD, List.take_add_one, hget, List.flatMap_append, hacc5, List.take_length]
      simp
  · have ei : i = ds.length := by omega
    subst ei
    exact .inl ⟨w.stops H (hG H e), hd H e (by rw [hacc, List.take_length])⟩
end SS

set_option maxRecDepth 100000
set_option maxHeartbeats 4000000
set_option pp.maxSteps 1500
namespace SS
open PySem L2 SR TL
def rNotN : R2 := fun x y H Q => y = .non ∧ Q (.bl (!decide (x = .non))) H
/-- what the rows tell, as it comes -/
def toldsOf (rows : List Rw) : List (List Nat) := rows.flatMap fun row => row.filterMap fun e => e.2.2
def signsOf (rows : List Rw) : List Nat := rows.flatMap fun row => row.map (·.1)
/-- what the move at v tells -/
def toldV (H : Hp) : V → Option (List Nat)
  | .ref p => match H p with
    | some (.tup [_, .str z]) => some z.cps.toList
    | _ => none
  | _ => none
theorem toldV_of {H : Hp} {p : Addr} {m : Mv} (h : MvAt H p m) : toldV H (.ref p) = m.2 := by
  unfold MvAt at h
  unfold toldV
  cases e : m.2 with
  | none => rw [e] at h; simp only [h]; rfl
  | some x => rw [e] at h; simp only [h, tellV, txtV, txt_codes]
def partT (H : Hp) (kvs : List (Key × V)) : List V := kvs.filterMap fun kv => (toldV H kv.2).map txtV
theorem partT_of {H : Hp} : ∀ {kvs : List (Key × V)} {row : Rw}, Paired (EntAt H) kvs row → partT H kvs = (row.filterMap fun e => e.2.2).map txtV
  | _, _, .nil => rfl
  | _, _, .cons (a := kv) (b := e) r t => by
    obtain ⟨k1, p, k2, k3⟩ := r
    unfold partT
    have ih := partT_of t
    unfold partT at ih
    rw [List.filterMap_cons, List.filterMap_cons, ih, k2, toldV_of k3]
    cases e.2.2 <;> rfl
def partS (kvs : List (Key × V)) : List V := kvs.map fun kv => kV kv.1
theorem partS_of {H : Hp} : ∀ {kvs : List (Key × V)} {row : Rw}, Paired (EntAt H) kvs row → partS kvs = (row.map (·.1)).map ltV
  | _, _, .nil => rfl
  | _, _, .cons (a := kv) (b := e) r t => by
    have ih := partS_of t
    unfold partS at ih ⊢
    rw [List.map_cons, ih, r.1]
    rfl
theorem flat_paired {H : Hp} {part : List (Key × V) → List V} {g : Rw → List V} (hp : ∀ {kvs : List (Key × V)} {row : Rw}, Paired (EntAt H) kvs row → part kvs = g row) : ∀ {ds : List (Addr × List (Key × V))} {rows : List Rw}, Paired (fun d row => Paired (EntAt H) d.2 row) ds rows → (ds.flatMap fun d => part d.2) = rows.flatMap g
  | _, _, .nil => rfl
  | _, _, .cons r t => by rw [List.flatMap_cons, List.flatMap_cons, hp r, flat_paired hp t]
/-- rows laid: a list or a tuple of dicts -/
def RowsL (H : Hp) (a : Addr) (rows : List Rw) : Prop := ∃ qs : List Addr, LoT H a (qs.map .ref) ∧ Paired (RwAt H) qs rows
theorem RowsL.mono {H H' : Hp} {a : Addr} {rows : List Rw} (e : Same H H') (h : RowsL H a rows) : RowsL H' a rows := by
  obtain ⟨qs, h1, h2⟩ := h
  exact ⟨qs, h1.mono e, Paired.mono h2 fun a b g => g.mono e⟩
/-- the dicts of the rows -/
theorem RowsL.ds {H : Hp} {a : Addr} {rows : List Rw} (h : RowsL H a rows) : ∃ ds : List (Addr × List (Key × V)), LoT H a (ds.map fun d => V.ref d.1) ∧ (∀ d ∈ ds, H d.1 = some (.dK d.2)) ∧ Paired (fun d row => Paired (EntAt H) d.2 row) ds rows := by
  obtain ⟨qs, h1, h2⟩ := h
  have key : ∀ {qs : List Addr} {rows : List Rw}, Paired (RwAt H) qs rows → ∃ ds : List (Addr × List (Key × V)), qs = ds.map (·.1) ∧ (∀ d ∈ ds, H d.1 = some (.dK d.2)) ∧ Paired (fun d row => Paired (EntAt H) d.2 row) ds rows := by
    intro qs rows h
    induction h with
    | nil => exact ⟨[], rfl, fun d hd => (nomatch hd), .nil⟩
    | @cons q row _ _ r _ ih =>
      obtain ⟨ds, e1, e2, e3⟩ := ih
      obtain ⟨kvs, k1, k2⟩ := rw_iff.mp r
      refine ⟨(q, kvs) :: ds, by rw [e1]; rfl, fun d hd => ?_, .cons k2 e3⟩
      rcases List.mem_cons.mp hd with rfl | hd
      · exact k1
      · exact e2 d hd
  obtain ⟨ds, e1, e2, e3⟩ := key h2
  exact ⟨ds, by rw [e1, List.map_map] at h1; exact h1, e2, e3⟩
theorem flat_len {α β : Type} {f : α → List β} {b : Nat} : ∀ {l : List α}, (∀ x ∈ l, (f x).length ≤ b) → (l.flatMap f).length ≤ l.length * b
  | [], _ => by simp
  | x :: l, h => by
    rw [List.flatMap_cons, List.length_append, List.length_cons, Nat.succ_mul]
    have := h x List.mem_cons_self
    have := flat_len (l := l) fun y hy => h y (List.mem_cons_of_mem _ hy)
    omega
section
variable {P : Program} {w : World} {K : PySem.W.Frag} {mg : Str → Option Value} {base : Heap}
/-! ### told_in -/
abbrev sTol : Stmt := top 23
abbrev nTol : List Str := ["rows", "row", "goal", "told"]
abbrev psTol : List Str := ["rows"]
theorem scTol : FnScope nTol psTol (defScope sTol) := ⟨rfl, rfl, rfl, by decide +kernel, rfl, by decide +kernel, by decide +kernel⟩
def spTol : Sp := fun vs H Q _ => ∃ (a : Addr) (rows : List Rw), vs = [.ref a] ∧ RowsL H a rows ∧ rows.length ≤ 12 ∧ (∀ row ∈ rows, row.length ≤ 6) ∧ (∃ cap : List (List Nat), cap.length < 64 ∧ ∀ x ∈ toldsOf rows, x ∈ cap) ∧
  ∀ (p : Addr) (xs : List (List Nat)) (H' : Hp), H p = none → Same H H' → xs.Nodup → (∀ x, x ∈ xs ↔ x ∈ toldsOf rows) → PyProof.Rows.sortedS (xs.map txt) = true → H' p = some (.lst (xs.map txtV)) → Q (.ref p) H'
theorem ok_tol {f : Addr} {fd : FuncData} (F : Fun K "told_in" "told_in" sTol f fd) (B : Bl mg) : FnOk P w K mg base CX0 1 f fd psTol spTol := by
  refine F.ok scTol (fun vs H Q E h => ?_) (fun cdv A outer s H vs Q E hr h => ?_)
  · obtain ⟨a, rows, rfl, _⟩ := h
    rfl
  · obtain ⟨a, rows, rfl, hR, h12, h6, ⟨cap, hcap, hin⟩, k⟩ := h
    refine ⟨_, pss_one (ps_ret (pe_callB (cr_sortedKS rfl) (by rfl) B.sorted (by decide +kernel) (pa_cons (pe_callTy (cr_setK rfl) (by rfl) B.set (by decide +kernel) (pa_cons (pe_lc2L (own := [("row", 1), ("goal", 2), ("told", 3)]) (vs2 := [2, 3]) (g := gName 1) (tt := tYes) (wi2 := iVals (tVar 1)) (g2 := gTup K 2 (gCons (gName 2) (gCons (gName 3) gNil))) (tt2 := tTest (tOp rNotN (tVar 3) (tC .non))) (te := tVar 3) rfl scTol.nd (pi_lot (pv 0)) (blkOk_by (by kernel_rfl)) (by decide) (fun _ _ _ _ _ => pg_name (i := 1) scTol.nd rfl (.inl rfl)) (fun _ _ _ _ _ => pts_nil) (fun _ _ _ _ _ => pi_values (pv 1)) (fun _ _ _ _ _ => pg_tup rfl (pgs_cons (pg_name (i := 2) scTol.nd rfl (.inl rfl)) (pgs_cons (pg_name (i := 3) scTol.nd rfl (.inl rfl)) pgs_nil))) (fun _ _ _ _ _ => pts_one (pt_cmpR op_notN (pv 3) pe_non (nomark _))) (fun _ _ _ _ _ => pv 3)) pa_nil)) pa_nil))), ?_⟩
    obtain ⟨ds, d1, d2, d3⟩ := hR.ds
    have hdl : ds.length = rows.length := Paired.length d3
    have hkl : ∀ (i : Nat) d row, ds[i]? = some d → rows[i]? = some row → d.2.length = row.length := fun i d row h1 h2 => Paired.length (paired_at d3 h1 h2)
    have hk6 : ∀ d ∈ ds, d.2.length ≤ 6 := fun d hd => by
      obtain ⟨i, hi⟩ := List.mem_iff_getElem?.mp hd
      obtain ⟨row, hrow⟩ : ∃ row, rows[i]? = some row := ⟨_, List.getElem?_eq_getElem (by have := (List.getElem?_eq_some_iff.mp hi).1; omega)⟩
      rw [hkl i d row hi hrow]
      exact h6 row (List.mem_of_getElem? hrow)
    refine ⟨_, rfl, a, _, rfl, d1, fun J G wk hG D hD => ?_⟩
    rw [List.length_map] at wk
    have hpl : ∀ kvs : List (Key × V), (partT H kvs).length ≤ kvs.length := fun kvs => List.length_filterMap_le _ _
    refine lc2_rows wk hD hG d2 (partT H) rfl (fun i j d hd hj => ?_) Itd (fun kvs i H x H' => H' = H ∧ ∃ k, kvs[i]? = some (k, x)) (fun _ _ _ => walk_values) (fun σ2 H R q od kvs hq hfz hR => ⟨_, hq, q, od, kvs, rfl, hfz, hR⟩) ?_ (fun _ => rfl) (fun _ => rfl) ?_
    · have h1 := flat_len (f := fun d : Addr × List (Key × V) => partT H d.2) (b := 6) (l := ds.take i) fun d hd => Nat.le_trans (hpl _) (hk6 d (List.mem_of_mem_take hd))
      have h2 := hpl (d.2.take j)
      have h3 := hk6 d (List.mem_of_getElem? hd)
      rw [List.length_take] at h1 h2
      rw [List.length_append]
      omega
    · rintro d hd j kv hkv v0 od H3 y H6 Qt Qf e3 ⟨rfl, k', hk'⟩ kt kf
      rw [hkv] at hk'
      cases hk'
      obtain ⟨i, hi⟩ := List.mem_iff_getElem?.mp hd
      obtain ⟨row, hrow⟩ : ∃ row, rows[i]? = some row := ⟨_, List.getElem?_eq_getElem (by have := (List.getElem?_eq_some_iff.mp hi).1; omega)⟩
      have pr := paired_at d3 hi hrow
      obtain ⟨e, he, ent⟩ := LiI.paired_get pr hkv
      obtain ⟨k1, p, k2, k3⟩ := ent
      have k2' : y = .ref p := k2
      subst k2'
      have hp3 : MvAt H6 p e.2 := e3 _ _ (lock_get (d2 d hd) k3 (by intro z; cases z))
      refine ⟨p, _, rfl, SqT.of hp3, rfl, _, _, rfl, _, _, rfl, rfl, rfl, ?_⟩
      refine ⟨_, rfl, rfl, _, rfl, ?_⟩
      have et : d.2.take (j + 1) = d.2.take j ++ [(k', .ref p)] := by rw [List.take_add_one, hkv]; rfl
      have ep : partT H (d.2.take (j + 1)) = partT H (d.2.take j) ++ (e.2.2.map txtV).toList := by
        unfold partT
        rw [et, List.filterMap_append]
        congr 1
        simp only [List.filterMap_cons, List.filterMap_nil, toldV_of k3]
        cases e.2.2 <;> rfl
      rw [tell_non]
      cases ho : e.2.2 with
      | none =>
        refine kf _ (Same.refl _) ?_
        rw [ep, ho]
        exact List.append_nil _
      | some x =>
        refine ⟨_, rfl, kt _ _ (Same.refl _) ?_⟩
        rw [ep, ho]
        rfl
    · intro H1 e1 hd1
      rw [flat_paired (g := fun row => (row.filterMap fun e => e.2.2).map txtV) partT_of d3] at hd1
      have hfl : (rows.flatMap fun row => (row.filterMap fun e => e.2.2).map txtV) = (toldsOf rows).map txtV := by
        unfold toldsOf
        rw [List.map_flatMap]
      rw [hfl] at hd1
      have htl : (toldsOf rows).length ≤ 72 := by
        have := flat_len (f := fun row : Rw => row.filterMap fun e => e.2.2) (b := 6) (l := rows) fun row hr => Nat.le_trans (List.length_filterMap_le _ _) (h6 row hr)
        unfold toldsOf
        omega
      refine ⟨(toldsOf rows).map (fun x => (Sum.inr (txt x) : Key)), .inl ⟨D, rfl, .inl (SqL.of (by rw [hd1, List.map_map]; rfl))⟩, by rw [List.length_map]; omega, fun p l hp nd hm hll => ?_⟩
      obtain ⟨xs, rfl, xnd, xm⟩ : ∃ xs : List (List Nat), l = (xs.map txt).map Sum.inr ∧ xs.Nodup ∧ ∀ x, x ∈ xs ↔ x ∈ toldsOf rows := by
        have ex : ∀ l : List Key, (∀ k ∈ l, ∃ x, k = Sum.inr (txt x)) → ∃ xs : List (List Nat), l = (xs.map txt).map Sum.inr := by
          intro l
          induction l with
          | nil => intro _; exact ⟨[], rfl⟩
          | cons k l ih =>
            intro h
            obtain ⟨x, rfl⟩ := h k List.mem_cons_self
            obtain ⟨xs, rfl⟩ := ih fun k' hk' => h k' (List.mem_cons_of_mem _ hk')
            exact ⟨x :: xs, rfl⟩
        obtain ⟨xs, rfl⟩ := ex l fun k hk => by
          obtain ⟨x, _, e⟩ := List.mem_map.mp ((hm k).mp hk)
          exact ⟨x, e.symm⟩
        refine ⟨xs, rfl, ?_, fun x => ?_⟩
        · rw [List.map_map] at nd
          exact List.Pairwise.of_map _ (fun a b h e => h (by rw [e])) nd
        · have := hm (Sum.inr (txt x))
          rw [List.map_map] at this
          constructor
          · intro h
            obtain ⟨y, hy, e⟩ := List.mem_map.mp (this.mp (List.mem_map.mpr ⟨x, h, rfl⟩))
            rw [← txt_inj (Sum.inr.inj e)]
            exact hy
          · intro h
            obtain ⟨y, hy, e⟩ := List.mem_map.mp (this.mpr (List.mem_map.mpr ⟨x, h, rfl⟩))
            rw [← txt_inj (Sum.inr.inj e)]
            exact hy
      have xl : xs.length < 64 := Nat.lt_of_le_of_lt (len_subG xs cap xnd fun x hx => hin x ((xm x).mp hx)) hcap
      refine ⟨p, xs.map txt, rfl, upd_same, by rw [List.length_map]; exact xl, fun ys p2 py so hp2 => ?_⟩
      obtain ⟨zs, rfl⟩ : ∃ zs : List (List Nat), ys = zs.map txt := ⟨ys.map fun y => y.cps.toList, by rw [List.map_map]; exact (List.map_id _).symm.trans (List.map_congr_left fun y _ => txt_of y)⟩
      have pz : zs.Perm xs := by
        have := py.map (fun y : Str => y.cps.toList)
        rw [List.map_map, List.map_map] at this
        have e : ∀ u : List (List Nat), u.map ((fun y : Str => y.cps.toList) ∘ txt) = u := fun u => by
          conv => rhs; rw [← List.map_id u]
          exact List.map_congr_left fun x _ => txt_codes x
        rw [e, e] at this
        exact this
      refine k p2 zs _ ?_ ?_ (pz.nodup_iff.mpr xnd) (fun x => (pz.mem_iff).trans (xm x)) so ?_
      · exact e1.free ((same_new hp).free hp2)
      · exact (e1.trans (same_new hp)).trans (same_new hp2)
      · rw [upd_same, List.map_map]
        rfl
/-! ### signs_in -/
abbrev sSgi : Stmt := top 24
abbrev nSgi : List Str := ["rows", "row", "sign"]
abbrev psSgi : List Str := ["rows"]
theorem scSgi : FnScope nSgi psSgi (defScope sSgi) := ⟨rfl, rfl, rfl, by decide +kernel, rfl, by decide +kernel, by decide +kernel⟩
def spSgi : Sp := fun vs H Q _ => ∃ (a : Addr) (rows : List Rw), vs = [.ref a] ∧ RowsL H a rows ∧ rows.length ≤ 12 ∧ (∀ row ∈ rows, row.length ≤ 6) ∧ (∃ cap : List Nat, cap.length < 64 ∧ ∀ x ∈ signsOf rows, x ∈ cap) ∧
  ∀ (p : Addr) (xs : List Nat) (H' : Hp), H p = none → Same H H' → xs.Nodup → (∀ x, x ∈ xs ↔ x ∈ signsOf rows) → xs.Pairwise (· ≤ ·) → H' p = some (.lst (xs.map ltV)) → Q (.ref p) H'
theorem ok_sgi {f : Addr} {fd : FuncData} (F : Fun K "signs_in" "signs_in" sSgi f fd) (B : Bl mg) : FnOk P w K mg base CX0 1 f fd psSgi spSgi := by
  refine F.ok scSgi (fun vs H Q E h => ?_) (fun cdv A outer s H vs Q E hr h => ?_)
  · obtain ⟨a, rows, rfl, _⟩ := h
    rfl
  · obtain ⟨a, rows, rfl, hR, h12, h6, ⟨cap, hcap, hin⟩, k⟩ := h
    refine ⟨_, pss_one (ps_ret (pe_callB (cr_sortedKS rfl) (by rfl) B.sorted (by decide +kernel) (pa_cons (pe_callTy (cr_setK rfl) (by rfl) B.set (by decide +kernel) (pa_cons (pe_lc2L (own := [("row", 1), ("sign", 2)]) (vs2 := [2]) (g := gName 1) (tt := tYes) (wi2 := iKeys (tVar 1)) (g2 := gName 2) (tt2 := tYes) (te := tVar 2) rfl scSgi.nd (pi_lot (pv 0)) (blkOk_by (by kernel_rfl)) (by decide) (fun _ _ _ _ _ => pg_name (i := 1) scSgi.nd rfl (.inl rfl)) (fun _ _ _ _ _ => pts_nil) (fun _ _ _ _ _ => pi_keys (pv 1)) (fun _ _ _ _ _ => pg_name (i := 2) scSgi.nd rfl (.inl rfl)) (fun _ _ _ _ _ => pts_nil) (fun _ _ _ _ _ => pv 2)) pa_nil)) pa_nil))), ?_⟩
    obtain ⟨ds, d1, d2, d3⟩ := hR.ds
    have hdl : ds.length = rows.length := Paired.length d3
    have hkl : ∀ (i : Nat) d row, ds[i]? = some d → rows[i]? = some row → d.2.length = row.length := fun i d row h1 h2 => Paired.length (paired_at d3 h1 h2)
    have hk6 : ∀ d ∈ ds, d.2.length ≤ 6 := fun d hd => by
      obtain ⟨i, hi⟩ := List.mem_iff_getElem?.mp hd
      obtain ⟨row, hrow⟩ : ∃ row, rows[i]? = some row := ⟨_, List.getElem?_eq_getElem (by have := (List.getElem?_eq_some_iff.mp hi).1; omega)⟩
      rw [hkl i d row hi hrow]
      exact h6 row (List.mem_of_getElem? hrow)
    refine ⟨_, rfl, a, _, rfl, d1, fun J G wk hG D hD => ?_⟩
    rw [List.length_map] at wk
    refine lc2_rows wk hD hG d2 partS rfl (fun i j d hd hj => ?_) Itk (fun kvs i H x H' => H' = H ∧ ∃ k v, kvs[i]? = some (k, v) ∧ x = kV k) (fun _ _ _ => walk_keys) (fun σ2 H R q od kvs hq hfz hR => ⟨_, hq, q, od, rfl, .inl ⟨kvs, hfz, hR⟩⟩) ?_ (fun _ => rfl) (fun _ => rfl) ?_
    · have h1 := flat_len (f := fun d : Addr × List (Key × V) => partS d.2) (b := 6) (l := ds.take i) fun d hd => by unfold partS; rw [List.length_map]; exact hk6 d (List.mem_of_mem_take hd)
      have h3 := hk6 d (List.mem_of_getElem? hd)
      rw [List.length_take] at h1
      rw [List.length_append]
      have h2 : (partS (d.2.take j)).length ≤ 6 := by unfold partS; rw [List.length_map, List.length_take]; omega
      omega
    · rintro d hd j kv hkv v0 od H3 y H6 Qt Qf e3 ⟨rfl, k', v', hk', rfl⟩ kt kf
      rw [hkv] at hk'
      cases hk'
      refine ⟨rfl, _, rfl, kt _ _ (Same.refl _) ?_⟩
      unfold partS
      rw [List.take_add_one, hkv, List.map_append]
      rfl
    · intro H1 e1 hd1
      rw [flat_paired (g := fun row => (row.map (·.1)).map ltV) partS_of d3] at hd1
      have hfl : (rows.flatMap fun row => (row.map (·.1)).map ltV) = (signsOf rows).map ltV := by
        unfold signsOf
        rw [List.map_flatMap]
      rw [hfl] at hd1
      have htl : (signsOf rows).length ≤ 72 := by
        have := flat_len (f := fun row : Rw => row.map (·.1)) (b := 6) (l := rows) fun row hr => by rw [List.length_map]; exact h6 row hr
        unfold signsOf
        omega
      refine ⟨(signsOf rows).map (fun x => (Sum.inr (lt x) : Key)), .inl ⟨D, rfl, .inl (SqL.of (by rw [hd1, List.map_map]; rfl))⟩, by rw [List.length_map]; omega, fun p l hp nd hm hll => ?_⟩
      obtain ⟨xs, rfl, xnd, xm⟩ : ∃ xs : List Nat, l = (xs.map lt).map Sum.inr ∧ xs.Nodup ∧ ∀ x, x ∈ xs ↔ x ∈ signsOf rows := by
        have ex : ∀ l : List Key, (∀ k ∈ l, ∃ x, k = Sum.inr (lt x)) → ∃ xs : List Nat, l = (xs.map lt).map Sum.inr := by
          intro l
          induction l with
          | nil => intro _; exact ⟨[], rfl⟩
          | cons k l ih =>
            intro h
            obtain ⟨x, rfl⟩ := h k List.mem_cons_self
            obtain ⟨xs, rfl⟩ := ih fun k' hk' => h k' (List.mem_cons_of_mem _ hk')
            exact ⟨x :: xs, rfl⟩
        obtain ⟨xs, rfl⟩ := ex l fun k hk => by
          obtain ⟨x, _, e⟩ := List.mem_map.mp ((hm k).mp hk)
          exact ⟨x, e.symm⟩
        refine ⟨xs, rfl, ?_, fun x => ?_⟩
        · rw [List.map_map] at nd
          exact List.Pairwise.of_map _ (fun a b h e => h (by rw [e])) nd
        · have := hm (Sum.inr (lt x))
          rw [List.map_map] at this
          constructor
          · intro h
            obtain ⟨y, hy, e⟩ := List.mem_map.mp (this.mp (List.mem_map.mpr ⟨x, h, rfl⟩))
            rw [← lt_inj (Sum.inr.inj e)]
            exact hy
          · intro h
            obtain ⟨y, hy, e⟩ := List.mem_map.mp (this.mpr (List.mem_map.mpr ⟨x, h, rfl⟩))
            rw [← lt_inj (Sum.inr.inj e)]
            exact hy
      have xl : xs.length < 64 := Nat.lt_of_le_of_lt (len_subG xs cap xnd fun x hx => hin x ((xm x).mp hx)) hcap
      refine ⟨p, xs.map lt, rfl, upd_same, by rw [List.length_map]; exact xl, fun ys p2 py so hp2 => ?_⟩
      obtain ⟨zs, rfl, pz⟩ := perm_lt py
      refine k p2 zs _ ?_ ?_ (pz.nodup_iff.mpr xnd) (fun x => (pz.mem_iff).trans (xm x)) (sorted_lt zs so) ?_
      · exact e1.free ((same_new hp).free hp2)
      · exact (e1.trans (same_new hp)).trans (same_new hp2)
      · rw [upd_same, List.map_map]
        rfl
end
end SS

set_option maxRecDepth 100000
set_option maxHeartbeats 4000000
set_option pp.maxSteps 1500
namespace SS
open PySem L2 SR TL
theorem told_mem {rows : List Rw} {x : List Nat} : x ∈ toldsOf rows ↔ ∃ row ∈ rows, ∃ e ∈ row, e.2.2 = some x := by
  unfold toldsOf
  rw [List.mem_flatMap]
  exact exists_congr fun row => and_congr Iff.rfl List.mem_filterMap
theorem WfR.told_in {cs ts : List Nat} {ms : List (List Nat)} {rows : List Rw} {ends : List Int} {start : Int} (W : WfR cs ts ms rows ends start) {x : List Nat} (h : x ∈ toldsOf rows) : (∃ c ∈ ts, x = [c]) ∨ x ∈ ms := by
  obtain ⟨row, hr, e, he, ex⟩ := told_mem.mp h
  exact W.told row hr e he x ex
theorem WfR.row6 {cs ts : List Nat} {ms : List (List Nat)} {rows : List Rw} {ends : List Int} {start : Int} (W : WfR cs ts ms rows ends start) (A : Pal cs ts ms) {row : Rw} (h : row ∈ rows) : row.length ≤ 6 := by
  have h1 := len_subG (row.map (·.1)) cs (W.nd row h) fun y hy => by
    obtain ⟨e, he, rfl⟩ := List.mem_map.mp hy
    exact W.key row h e he
  rw [List.length_map] at h1
  exact Nat.le_trans h1 A.csn
theorem Pal.name {cs ts : List Nat} {ms : List (List Nat)} (A : Pal cs ts ms) {x : List Nat} (h : (∃ c ∈ ts, x = [c]) ∨ x ∈ ms) : Name x := by
  rcases h with ⟨c, hc, rfl⟩ | h
  · exact ⟨fun b hb => by rw [List.mem_singleton.mp hb]; exact A.tsl c hc, by show 1 ≤ 1; decide, by show 1 ≤ 8; decide⟩
  · obtain ⟨h1, h2, h3⟩ := A.msl x h
    exact ⟨h1, by omega, h3⟩
/-- the class as a name, its constant -/
structure RdM (K : PySem.W.Frag) (mg : Str → Option Value) (C : Addr) : Prop where
  mgC : mg "Reader" = some (.ref C)
  mx : ∃ mc u, ClX.CRead K C mc ∧ ClX.CVal K C mc "MAX_STATES" (.int 12) u
section
variable {P : Program} {w : World} {K : PySem.W.Frag} {mg : Str → Option Value} {base : Heap}
/-! ### reader_problem -/
abbrev sPrb : Stmt := top 25
abbrev nPrb : List Str := ["states", "ends", "start", "index", "row", "things", "thing"]
abbrev psPrb : List Str := ["states", "ends", "start"]
theorem scPrb : FnScope nPrb psPrb (defScope sPrb) := ⟨rfl, rfl, rfl, by decide +kernel, rfl, by decide +kernel, by decide +kernel⟩
def spPrb (K : PySem.W.Frag) : Sp := fun vs H Q _ => ∃ (a e : Addr) (cs ts : List Nat) (ms : List (List Nat)) (rows : List Rw) (ends : List Int) (start : Int), vs = [.ref a, .ref e, .int start] ∧ Pal cs ts ms ∧ WfR cs ts ms rows ends start ∧ RowsL H a rows ∧ LoQ K H e (ends.map .int) ∧ ∀ H', Same H H' → Q .non H'
theorem ok_prb {f C : Addr} {fd : FuncData} (F : Fun K "reader_problem" "reader_problem" sPrb f fd) (B : Bl mg) (Cc : Cn mg) (G : RdM K mg C) (Sd : Cal P w K mg base "is_state_dict" 5 psSdi spSdi) (Sa : Cal P w K mg base "are_different" 2 ["value", "limit"] (spSta K)) (N : Cal P w K mg base "is_below" 1 ["value", "limit"] spNum)
    (Si : Cal P w K mg base "signs_in" 1 psSgi spSgi) (To : Cal P w K mg base "told_in" 1 psTol spTol) (Sg : Cal P w K mg base "is_sign" 2 ["value"] spSign) (Mk : Cal P w K mg base "is_mark" 2 ["value"] spMark) : FnOk P w K mg base CX0 6 f fd psPrb (spPrb K) := by
  obtain ⟨tpg, hpg⟩ := Cc.page
  obtain ⟨ttx, htx⟩ := Cc.text
  obtain ⟨tmk, hmk⟩ := Cc.marks
  obtain ⟨mc, mu, cR, cV⟩ := G.mx
  refine F.ok scPrb (fun vs H Q E h => ?_) (fun cdv A outer s H vs Q E hr h => ?_)
  · obtain ⟨a, e, cs, ts, ms, rows, ends, start, rfl, _⟩ := h
    rfl
  · obtain ⟨a, e, cs, ts, ms, rows, ends, start, rfl, PA', W, hR, hE, k⟩ := h
    have hr1 := hr.mono (by decide : 1 ≤ 5)
    have hr2 := hr.mono (by decide : 2 ≤ 5)
    refine ⟨_, pss_cons (ps_if (PW.pt (pw_or (pt_not (pt_val (pe_callB call_isiT (by rfl) B.isinstance (by decide +kernel) (pa_cons (pv 0) (pa_cons (pe_tup (pa_cons (pe_bltn (v := .ty "list") (by rfl) B.list (by decide +kernel) rfl) (pa_cons (pe_bltn (v := .ty "tuple") (by rfl) B.tuple (by decide +kernel) rfl) pa_nil))) pa_nil))))) (pw_or1 (pt_not (pt_chain op_le op_le pe_int (pe_callB call_len_seq (by rfl) B.len boot_len (pa_cons (pv 0) pa_nil)) (ClX.pe_cval (pe_glob (v := .ref C) rfl G.mgC rfl)))))))
        (pss_one (ps_ret (pe_tup (pa_cons pe_str (pa_cons pe_non pa_nil))))) pss_nil)
      (pss_cons (ps_for PassesOwn.never rfl (pi_enumL (by rfl) B.enumerate (pa_cons (pv 0) pa_nil)) (pg_tup rfl (pgs_cons (pg_name (i := 3) scPrb.nd rfl (.inl rfl)) (pgs_cons (pg_name (i := 4) scPrb.nd rfl (.inl rfl)) pgs_nil)))
        (pss_one (ps_if (pt_not (pt_val (pe_cal Sd hr (pa_cons (pv 4) (pa_cons (pe_callB call_len_seq (by rfl) B.len boot_len (pa_cons (pv 0) pa_nil)) pa_nil)))))
        (pss_one (ps_ret (pe_tup (pa_cons pe_str (pa_cons (pv 3) pa_nil))))) pss_nil)))
      (pss_cons (ps_if (pt_not (pt_val (pe_cal Sa hr2 (pa_cons (pv 1) (pa_cons (pe_callB call_len_seq (by rfl) B.len boot_len (pa_cons (pv 0) pa_nil)) pa_nil)))))
        (pss_one (ps_ret (pe_tup (pa_cons pe_str (pa_cons pe_non pa_nil))))) pss_nil)
      (pss_cons (ps_if (pt_not (pt_val (pe_cal N hr1 (pa_cons (pv 2) (pa_cons (pe_callB call_len_seq (by rfl) B.len boot_len (pa_cons (pv 0) pa_nil)) pa_nil)))))
        (pss_one (ps_ret (pe_tup (pa_cons pe_str (pa_cons pe_non pa_nil))))) pss_nil)
      (pss_cons (ps_if (pt_cmpR op_gt (pe_callB call_len_seq (by rfl) B.len boot_len (pa_cons (pe_cal Si hr1 (pa_cons (pv 0) pa_nil)) pa_nil)) (pe_glob (v := .int 6) rfl hpg ⟨tpg, rfl⟩) (nomark _))
        (pss_one (ps_ret (pe_tup (pa_cons pe_str (pa_cons pe_non pa_nil))))) pss_nil)
      (pss_cons (ps_set (i := 5) scPrb.nd rfl (.inl rfl) (pe_cal To hr1 (pa_cons (pv 0) pa_nil)))
      (pss_cons (ps_if (pt_cmpR op_gt (pe_callB call_len_seq (by rfl) B.len boot_len (pa_cons (pe_lc (own := [("thing", 6)]) (g := gName 6) (tt := tB (tCall spSign [] E0 (tCons (tVar 6) tNil))) (te := tVar 6) rfl scPrb.nd (pi_list (pv 5)) (blkOk_by (by kernel_rfl)) (fun _ _ _ _ _ => pg_name (i := 6) scPrb.nd rfl (.inl rfl)) (fun _ _ _ _ _ => pts_one (pt_val (pe_cal Sg hr2 (pa_cons (pv 6) pa_nil)))) (fun _ _ _ _ _ => pv 6)) pa_nil)) (pe_glob (v := .int 4) rfl htx ⟨ttx, rfl⟩) (nomark _))
        (pss_one (ps_ret (pe_tup (pa_cons pe_str (pa_cons pe_non pa_nil))))) pss_nil)
      (pss_one (ps_ret (pe_ifExp (pt_cmpR op_gt (pe_callB call_len_seq (by rfl) B.len boot_len (pa_cons (pe_lc (own := [("thing", 6)]) (g := gName 6) (tt := tB (tCall spMark [] E0 (tCons (tVar 6) tNil))) (te := tVar 6) rfl scPrb.nd (pi_list (pv 5)) (blkOk_by (by kernel_rfl)) (fun _ _ _ _ _ => pg_name (i := 6) scPrb.nd rfl (.inl rfl)) (fun _ _ _ _ _ => pts_one (pt_val (pe_cal Mk hr2 (pa_cons (pv 6) pa_nil)))) (fun _ _ _ _ _ => pv 6)) pa_nil)) (pe_glob (v := .int 6) rfl hmk ⟨tmk, rfl⟩) (nomark _)) (pe_tup (pa_cons pe_str (pa_cons pe_non pa_nil))) pe_non))))))))), ?_⟩
    have h1 := W.one
    have h12 := W.most
    obtain ⟨qs, q1, q2⟩ := hR
    have hql : qs.length = rows.length := Paired.length q2
    refine ⟨_, rfl, (by show 2 ≤ sizeLine; decide), fun T hT => ?_⟩
    have e2 : Same H (upd H T (.tup [.ty "list", .ty "tuple"])) := same_new hT
    obtain ⟨t, ty, kt⟩ := isi_LT (K := K) (q1.mono e2)
    refine ⟨_, T, _, t, _, true, rfl, upd_same, .cons (.ty _) (.cons (.ty _) .nil), ty, kt, true, rfl, ?_⟩
    refine ⟨_, rfl, a, _, rfl, (q1.mono e2).seq, _, _, rfl, rfl, _, rfl, ?_⟩
    rw [List.length_map, hql]
    rw [decide_eq_true (show (1 : Int) ≤ (rows.length : Nat) by omega)]
    refine ⟨C, mc, _, mu, rfl, cR, cV, _, _, rfl, rfl, _, rfl, ?_⟩
    rw [decide_eq_true (show ((rows.length : Nat) : Int) ≤ 12 by omega)]
    generalize (upd H T (.tup [.ty "list", .ty "tuple"])) = H2 at e2
    refine ⟨_, rfl, a, _, rfl, q1.mono e2, fun J G' wk hG => for_it wk (fun i σ H' => Same H2 H' ∧ ∃ a3 a4 a5 a6, σ = [some (.ref a), some (.ref e), some (.int start), a3, a4, a5, a6]) ⟨Same.refl _, _, _, _, _, rfl⟩ (fun _ _ H' _ p => hG H' p.1) ?_ ?_⟩
    · rintro j v σ H3 H3' hj ⟨e3, b3, b4, b5, b6, rfl⟩ ⟨T2, x, y, rfl, hT2, rfl, ex, ey⟩
      rw [List.length_map] at hj
      cases ex
      dsimp only at ey
      rw [List.getElem?_map] at ey
      obtain ⟨q, hq, rfl⟩ := Option.map_eq_some_iff.mp ey
      have hjr : j < rows.length := by omega
      obtain ⟨q', hq', hrow⟩ := paired_get j q2 (List.getElem?_eq_getElem hjr)
      rw [hq] at hq'
      cases hq'
      have rok := W.row (List.getElem_mem hjr)
      have e4 : Same H3 (upd H3 T2 (.tup [.int (j : Nat), .ref q])) := same_new hT2
      have e5 := e2.trans (e3.trans e4)
      refine ⟨T2, _, rfl, SqT.of upd_same, rfl, _, _, rfl, _, _, rfl, rfl, ?_⟩
      refine ⟨_, rfl, _, rfl, a, _, rfl, (q1.mono e5).seq, q, _, _, rfl, hrow.mono e5, by have := W.row6 PA' (List.getElem_mem hjr); omega, fun en hen => ?_, fun H6 e6 => ⟨_, rfl, iteF ⟨(e3.trans e4).trans e6, _, _, _, _, rfl⟩⟩⟩
      obtain ⟨z1, z2, z3⟩ := rok.2 en hen
      rw [List.length_map, hql]
      exact ⟨PA'.csl _ z1, z2, fun x hx => PA'.name (z3 x hx)⟩
    · rintro σ H3 ⟨e3, b3, b4, b5, b6, rfl⟩
      have e5 := e2.trans e3
      refine ⟨_, rfl, _, rfl, a, _, rfl, (q1.mono e5).seq, e, _, ends, rfl, ?_, W.endN, ?_, hE.mono e5, fun H4 e4 => ⟨_, rfl, iteF ?_⟩⟩
      · exact Nat.le_trans (nodup_len _ _ W.endN W.end0) (by omega)
      · intro g hg
        rw [List.length_map, hql]
        exact W.end0 g hg
      have e6 := e5.trans e4
      refine ⟨_, rfl, _, rfl, a, _, rfl, (q1.mono e6).seq, _, _, rfl, W.st0, by rw [List.length_map, hql]; exact W.st1, _, rfl, iteF ?_⟩
      refine ⟨_, rfl, a, rows, rfl, ⟨qs, q1.mono e6, Paired.mono q2 fun _ _ g => g.mono e6⟩, h12, fun row hrow => W.row6 PA' hrow, ⟨cs, by have := PA'.csn; omega, fun x hx => ?_⟩, fun p xs H5 hp e7 xnd xm xs' hp5 => ?_⟩
      · unfold signsOf at hx
        obtain ⟨row, hrow, hx⟩ := List.mem_flatMap.mp hx
        obtain ⟨en, hen, rfl⟩ := List.mem_map.mp hx
        exact W.key row hrow en hen
      have sgm : ∀ x ∈ xs, x ∈ cs := fun x hx => by
        have := (xm x).mp hx
        unfold signsOf at this
        obtain ⟨row, hrow, hx⟩ := List.mem_flatMap.mp this
        obtain ⟨en, hen, rfl⟩ := List.mem_map.mp hx
        exact W.key row hrow en hen
      have xl : xs.length ≤ 6 := Nat.le_trans (len_subG xs cs xnd sgm) PA'.csn
      refine ⟨p, _, rfl, .inl (SqL.of hp5), _, _, rfl, rfl, _, rfl, ?_⟩
      rw [List.length_map]
      rw [show decide ((6 : Int) < ((xs.length : Nat) : Int)) = false from decide_eq_false (by omega)]
      refine iteF ?_
      have e8 := e6.trans e7
      refine ⟨_, rfl, a, rows, rfl, ⟨qs, q1.mono e8, Paired.mono q2 fun _ _ g => g.mono e8⟩, h12, fun row hrow => W.row6 PA' hrow, ⟨ts.map (fun c => [c]) ++ ms, by have := PA'.tsn; have := PA'.msn; rw [List.length_append, List.length_map]; omega, fun x hx => ?_⟩, fun pt zs H6 hpt e9 znd zm zs' hpt6 => ?_⟩
      · rcases W.told_in hx with ⟨c, hc, rfl⟩ | h
        · exact List.mem_append_left _ (List.mem_map.mpr ⟨c, hc, rfl⟩)
        · exact List.mem_append_right _ h
      have zt : ∀ x ∈ zs, (∃ c ∈ ts, x = [c]) ∨ x ∈ ms := fun x hx => W.told_in ((zm x).mp hx)
      have zl : zs.length ≤ 10 := by
        have := len_subG zs (ts.map (fun c => [c]) ++ ms) znd fun x hx => by
          rcases zt x hx with ⟨c, hc, rfl⟩ | h
          · exact List.mem_append_left _ (List.mem_map.mpr ⟨c, hc, rfl⟩)
          · exact List.mem_append_right _ h
        rw [List.length_append, List.length_map] at this
        have := PA'.tsn
        have := PA'.msn
        omega
      have ea := e8.trans e9
      -- the signs among them
      refine ⟨_, rfl, pt, rfl, ⟨_, SqL.of hpt6⟩, fun D1 hD1 => lc_S (walk_list (K := K) (a := pt) (xs := zs.map txtV)) hD1 (by rw [List.length_map]; omega) (fun j acc _ => acc = ((zs.take j).filter fun x => decide (x.length = 1)).map txtV) (fun _ _ _ _ _ _ _ h => h) rfl (fun H' e' => SqL.of (e' _ _ hpt6)) ?_ ?_⟩
      · rintro j v H7 H7' acc Qt Qf hj e7' hd rfl ⟨rfl, hv⟩ kt kf
        rw [List.getElem?_map] at hv
        obtain ⟨x, hx, rfl⟩ := Option.map_eq_some_iff.mp hv
        obtain ⟨n1, n2, n3⟩ := PA'.name (zt x (List.mem_of_getElem? hx))
        refine ⟨rfl, _, rfl, x, rfl, n1, by omega, fun H8 e8' => ⟨_, rfl, ite2 (fun hb => ?_) (fun hb => ?_)⟩⟩
        · refine ⟨_, rfl, kt _ _ e8' ?_⟩
          rw [List.take_add_one, hx, List.filter_append, List.map_append]
          simp [of_decide_eq_true hb]
        · refine kf _ e8' ?_
          rw [List.take_add_one, hx, List.filter_append, List.map_append]
          have : ¬ x.length = 1 := fun z => hb (decide_eq_true z)
          simp [this]
      rintro H7 acc e10 hd7 rfl
      rw [List.length_map, List.take_length] at hd7
      have f1 : (zs.filter fun x => decide (x.length = 1)).length ≤ 4 := by
        have := len_subG (zs.filter fun x => decide (x.length = 1)) (ts.map fun c => [c]) (znd.filter _) fun x hx => by
          obtain ⟨m1, m2⟩ := List.mem_filter.mp hx
          rcases zt x m1 with ⟨c, hc, rfl⟩ | h
          · exact List.mem_map.mpr ⟨c, hc, rfl⟩
          · have := (PA'.msl x h).2.1
            have := of_decide_eq_true m2
            omega
        rw [List.length_map] at this
        exact Nat.le_trans this PA'.tsn
      refine ⟨D1, _, rfl, .inl (SqL.of hd7), _, _, rfl, rfl, _, rfl, ?_⟩
      rw [List.length_map]
      rw [show decide ((4 : Int) < (((zs.filter fun x => decide (x.length = 1)).length : Nat) : Int)) = false from decide_eq_false (by omega)]
      refine iteF ?_
      have eb := ea.trans e10
      have hpt7 := e10 _ _ hpt6
      -- the marks among them
      refine ⟨_, rfl, pt, rfl, ⟨_, SqL.of hpt7⟩, fun D2 hD2 => lc_S (walk_list (K := K) (a := pt) (xs := zs.map txtV)) hD2 (by rw [List.length_map]; omega) (fun j acc _ => acc = ((zs.take j).filter fun x => decide (1 < x.length ∧ x.length ≤ 8)).map txtV) (fun _ _ _ _ _ _ _ h => h) rfl (fun H' e' => SqL.of (e' _ _ hpt7)) ?_ ?_⟩
      · rintro j v H8 H8' acc Qt Qf hj e7' hd rfl ⟨rfl, hv⟩ kt kf
        rw [List.getElem?_map] at hv
        obtain ⟨x, hx, rfl⟩ := Option.map_eq_some_iff.mp hv
        obtain ⟨n1, n2, n3⟩ := PA'.name (zt x (List.mem_of_getElem? hx))
        refine ⟨rfl, _, rfl, x, rfl, n1, by omega, fun H9 e8' => ⟨_, rfl, ite2 (fun hb => ?_) (fun hb => ?_)⟩⟩
        · refine ⟨_, rfl, kt _ _ e8' ?_⟩
          rw [List.take_add_one, hx, List.filter_append, List.map_append]
          simp [of_decide_eq_true hb]
        · refine kf _ e8' ?_
          rw [List.take_add_one, hx, List.filter_append, List.map_append]
          have : ¬ (1 < x.length ∧ x.length ≤ 8) := fun z => hb (decide_eq_true z)
          simp [this]
      rintro H8 acc e11 hd8 rfl
      rw [List.length_map, List.take_length] at hd8
      have f2 : (zs.filter fun x => decide (1 < x.length ∧ x.length ≤ 8)).length ≤ 6 := by
        have := len_subG (zs.filter fun x => decide (1 < x.length ∧ x.length ≤ 8)) ms (znd.filter _) fun x hx => by
          obtain ⟨m1, m2⟩ := List.mem_filter.mp hx
          rcases zt x m1 with ⟨c, hc, rfl⟩ | h
          · have := (of_decide_eq_true m2).1
            exact absurd this (by show ¬ 1 < 1; decide)
          · exact h
        exact Nat.le_trans this PA'.msn
      refine ⟨D2, _, rfl, .inl (SqL.of hd8), _, _, rfl, rfl, _, rfl, ?_⟩
      rw [List.length_map]
      rw [show decide ((6 : Int) < (((zs.filter fun x => decide (1 < x.length ∧ x.length ≤ 8)).length : Nat) : Int)) = false from decide_eq_false (by omega)]
      exact iteF (k _ (eb.trans e11))
end
end SS

set_option maxRecDepth 100000
set_option maxHeartbeats 4000000
set_option pp.maxSteps 1500
namespace SR
open PySem PySem.Spec PyProof.Rows L2
/-- sorted(xs) of a list or tuple of ints -/
def rSortedLT (K : PySem.W.Frag) : List V → Hp → VK → Prop := fun vs H Q => ∃ (a : Addr) (ns : List Int), vs = [V.ref a] ∧ (SqL K H a (ns.map V.int) ∨ SqT K H a (ns.map V.int)) ∧ ns.length < 64 ∧
  ∀ (ns' : List Int) (p : Addr), ns'.Perm ns → ns'.Pairwise (· ≤ ·) → H p = none → Q (.ref p) (upd H p (.lst (ns'.map V.int)))
theorem cr_sortedLT {X : Cx} : CallR X (.builtin "sorted") (rSortedLT X.K) := by
  intro pins s σ H vs us Q I r h
  obtain ⟨a, ns, rfl, hs | hs, h64, q⟩ := h
  · exact cr_sorted pins s σ H _ us Q I r ⟨a, ns, rfl, hs, h64, q⟩
  obtain ⟨its, rv, pl, hz⟩ := I.tuple hs
  obtain ⟨ob, ho, hc, n, hd⟩ := id pl
  rw [Vals.ref1 r]
  have hi := rv.ints
  have hal : its.length = ns.length := hi.length
  refine Calls.call_function_entry PyProof.Rows.kind_sorted PyProof.Rows.plain_sorted PyProof.Rows.entry_sorted (PyProof.Rows.args_sorted1 _) ?_
  unfold Builtin.«sorted»
  refine wpAny_bind (m := checkCount "sorted" 1 1 _) (wpAny_pure ?_)
  refine wpAny_bind (wpAny_collect_seq a (.inr rfl) ho hc hd (fun h' hk => ?_) (by rw [List.size_toArray, hal, sizeLine_eq]; omega))
  have I1 : Inv X pins σ H { s with heap := h' } := I.kept (t' := s.toks) hk
  refine wpAny_bind (wpAny_newList ?_ (by simp only [List.toList_toArray]; rw [hal, sizeLine_eq]; omega))
  simp only [List.toList_toArray]
  have hoL : (h'.push (seqObj "list" its.toArray 0)).get? h'.objs.size = some (seqObj "list" its.toArray 0) := Heap.get?_push_size _ rfl
  show wpAny _ _ _ _ _ { s with heap := h'.push (seqObj "list" its.toArray 0) }
  refine wpAny_bind (wpAny_holding (wpAny_call_entry PyProof.Rows.slot_list_sort ⟨_, hoL, rfl⟩ PyProof.Rows.entry_list_sort
    (PyProof.Rows.list_sort_tree (s := { s with heap := h'.push (seqObj "list" its.toArray 0) }) hoL hi (by rw [hal]; exact h64) fun out ys g1 g2 g3 => ⟨_, rfl, ?_⟩) (PyProof.Rows.args_list_sort _)))
  obtain ⟨e', he'⟩ := PyProof.Rows.sortedHeap_at (vs := its) (out := out) hoL
  have hlen : (ys.map V.int).length ≤ sizeLine := by
    rw [List.length_map, g2.length_eq]
    exact Nat.le_trans (Nat.le_of_lt h64) (by decide)
  refine wpAny_pure ⟨_, rfl, .ref h'.objs.size, upd H h'.objs.size (.lst (ys.map V.int)), I1.laid (t' := s.toks) (fun b u e => ?_) (Nat.le_refl _)
    (show ObjOk X.prog X.w _ _ _ (.lst (ys.map V.int)) from ⟨hlen, out.toList, e', vals_of_ints g1, by rw [Array.toArray_toList]; exact he'⟩), rfl, q ys _ g2 g3 (I1.hok.fresh (Nat.le_refl _))⟩
  have hb : b < h'.objs.size := Heap.lt_size e
  rw [PyProof.Rows.sortedHeap_old (Nat.ne_of_lt hb) (by rw [size_push']; exact Nat.lt_succ_of_lt hb)]
  exact Heap.get?_push_of_some _ e
end SR

set_option maxRecDepth 100000
set_option maxHeartbeats 4000000
set_option pp.maxSteps 1500
namespace SR
open PySem PySem.Spec PyProof.Rows L2
/-- a def with defaults, by its body -/
theorem okD {P : Program} {w : World} {K : PySem.W.Frag} {mg : Str → Option Value} {base : Heap} {x qual : Str} {st : Stmt} {dvs : List V} {kws : List (Str × V)} {f : Addr} {fd : FuncData} {N ps : List Str} {k : Nat} {sp : Sp} (F : FunD K x qual (defArgs st) (defBody st) (defScope st) dvs kws f fd) (S : FnScope N ps (defScope st)) (len : ∀ vs H Q E, sp vs H Q E → vs.length = ps.length)
    (hbody : ∀ (cdv : Value) (A : Around) (outer : List Env) (s : Shared) (H : Hp) (vs : List V) (Q : VK) (E : XK), Room k (A.deeper (envOfC qual (defScope st) s.heap.objs.size f cdv)) → sp vs H Q E →
      ∃ t, PSs (cxOf CX0 P w K mg base N qual (defScope st) f cdv A outer s H E).nox (defBody st) t ∧ t { nx := fun _ H' => Q .non H', rt := Q } (L2.start N vs) H) : FnOk P w K mg base CX0 (k + 1) f fd ps sp := by
  obtain ⟨oc, od, dW, kW, d1, p1, a1, c1, t1, o1, rfl, lk, hcd, _, _⟩ := F.ex
  exact fn_of lk hcd S len fun A outer s H vs Q E hr hsp => (hbody c1 A outer s H vs Q E hr hsp).imp fun t z => ⟨z.1.nox, z.2⟩
end SR
namespace SS
open PySem L2 SR TL
/-! ### sorted rows, sorted ends -/
def sortR (row : Rw) : Rw := row.mergeSort fun a b => decide (a.1 ≤ b.1)
def sortI (l : List Int) : List Int := l.mergeSort fun a b => decide (a ≤ b)
theorem sortR_perm (row : Rw) : (sortR row).Perm row := List.mergeSort_perm _ _
theorem sortI_perm (l : List Int) : (sortI l).Perm l := List.mergeSort_perm _ _
theorem sortR_ord (row : Rw) : (sortR row).Pairwise fun a b => a.1 ≤ b.1 :=
  (List.pairwise_mergeSort (le := fun a b : Nat × Mv => decide (a.1 ≤ b.1)) (fun a b c h1 h2 => decide_eq_true (Nat.le_trans (of_decide_eq_true h1) (of_decide_eq_true h2))) (fun a b => by simp only [Bool.or_eq_true, decide_eq_true_eq]; omega) row).imp fun h => of_decide_eq_true h
theorem sortI_ord (l : List Int) : (sortI l).Pairwise (· ≤ ·) :=
  (List.pairwise_mergeSort (le := fun a b : Int => decide (a ≤ b)) (fun a b c h1 h2 => decide_eq_true (Int.le_trans (of_decide_eq_true h1) (of_decide_eq_true h2))) (fun a b => by simp only [Bool.or_eq_true, decide_eq_true_eq]; omega) l).imp fun h => of_decide_eq_true h
theorem sortI_uniq {l l' : List Int} (p : l'.Perm l) (s : l'.Pairwise (· ≤ ·)) : l' = sortI l :=
  List.Perm.eq_of_pairwise (fun a b _ _ h1 h2 => Int.le_antisymm h1 h2) s (sortI_ord l) (p.trans (sortI_perm l).symm)
theorem sortR_uniq {row row' : Rw} (nd : (row.map (·.1)).Nodup) (p : row'.Perm row) (s : row'.Pairwise fun a b => a.1 ≤ b.1) : row' = sortR row := by
  refine List.Perm.eq_of_pairwise (le := fun a b : Nat × Mv => a.1 ≤ b.1) (fun a b ha hb h1 h2 => ?_) s (sortR_ord row) (p.trans (sortR_perm row).symm)
  have e : a.1 = b.1 := Nat.le_antisymm h1 h2
  obtain ⟨i, hi, ea⟩ := List.getElem_of_mem (p.mem_iff.mp ha)
  obtain ⟨j, hj, eb⟩ := List.getElem_of_mem ((sortR_perm row).mem_iff.mp hb)
  have : i = j := by
    refine (List.getElem_inj (xs := row.map (·.1)) (h₀ := by rw [List.length_map]; exact hi) (h₁ := by rw [List.length_map]; exact hj) nd).mp ?_
    rw [List.getElem_map, List.getElem_map, ea, eb, e]
  subst this
  rw [← ea, ← eb]
theorem paired_perm {α β : Type} {R : α → β → Prop} {xs xs' : List α} {ys : List β} (h : Paired R xs ys) (p : xs'.Perm xs) : ∃ ys' : List β, ys'.Perm ys ∧ Paired R xs' ys' := by
  have key : ∀ {xs xs' : List α}, xs.Perm xs' → ∀ {ys : List β}, Paired R xs ys → ∃ ys' : List β, ys'.Perm ys ∧ Paired R xs' ys' := by
    intro xs xs' p
    induction p with
    | nil => intro ys h; exact ⟨ys, .refl _, h⟩
    | cons x _ ih =>
      intro ys h
      cases h with
      | cons r t =>
        obtain ⟨zs, z1, z2⟩ := ih t
        exact ⟨_ :: zs, z1.cons _, .cons r z2⟩
    | swap x y l =>
      intro ys h
      cases h with
      | cons r t =>
        cases t with
        | cons r2 t2 => exact ⟨_, List.Perm.swap _ _ _, .cons r2 (.cons r t2)⟩
    | trans _ _ ih1 ih2 =>
      intro ys h
      obtain ⟨zs, z1, z2⟩ := ih1 h
      obtain ⟨us, u1, u2⟩ := ih2 z2
      exact ⟨us, u1.trans z1, u2⟩
  exact key p.symm h
/-- the entries of a state in the order of their keys -/
theorem ents_sort {H : Hp} {kvs out : List (Key × V)} {row : Rw} (h : Paired (EntAt H) kvs row) (nd : (row.map (·.1)).Nodup) (p : out.Perm kvs) (s : out.Pairwise (fun e f => ∀ y z : Str, e.1 = .inr y → f.1 = .inr z → ¬ z.cps.toList < y.cps.toList)) : Paired (EntAt H) out (sortR row) := by
  obtain ⟨row', p', h'⟩ := paired_perm h p
  have so : row'.Pairwise fun a b => a.1 ≤ b.1 := by
    have key : ∀ {out : List (Key × V)} {row' : Rw}, Paired (EntAt H) out row' → out.Pairwise (fun e f => ∀ y z : Str, e.1 = .inr y → f.1 = .inr z → ¬ z.cps.toList < y.cps.toList) → row'.Pairwise fun a b => a.1 ≤ b.1 := by
      intro out row' h
      induction h with
      | nil => intro _; exact .nil
      | @cons kv e kvs es r t ih =>
        intro s
        obtain ⟨s1, s2⟩ := List.pairwise_cons.mp s
        refine List.pairwise_cons.mpr ⟨fun f hf => ?_, ih s2⟩
        obtain ⟨i, hi⟩ := List.mem_iff_getElem?.mp hf
        obtain ⟨kv', k1, k2⟩ := paired_get i t hi
        have := s1 kv' (List.mem_of_getElem? k1) (lt e.1) (lt f.1) r.1 k2.1
        have l1 : (lt f.1).cps.toList = [f.1] := rfl
        have l2 : (lt e.1).cps.toList = [e.1] := rfl
        rw [l1, l2] at this
        have h3 : ¬ f.1 < e.1 := fun z => this (show List.Lex (· < ·) [f.1] [e.1] from .rel z)
        omega
    exact key h' s
  rw [← sortR_uniq nd p' so]
  exact h'
theorem paired_getL {α β : Type} {R : α → β → Prop} : ∀ {xs : List α} {ys : List β} (i : Nat) {x : α}, Paired R xs ys → xs[i]? = some x → ∃ y, ys[i]? = some y ∧ R x y
  | _, _, _, _, .nil, h => by simp at h
  | x :: xs, y :: ys, 0, z, .cons r _, h => by
    have e : x = z := Option.some.inj h
    exact ⟨y, rfl, e ▸ r⟩
  | x :: xs, y :: ys, i + 1, z, .cons _ t, h => by
    obtain ⟨a, h1, h2⟩ := paired_getL i t (by simpa using h)
    exact ⟨a, by simpa using h1, h2⟩
theorem keys_nd {H : Hp} : ∀ {kvs : List (Key × V)} {row : Rw}, Paired (EntAt H) kvs row → (row.map (·.1)).Nodup → (kvs.map (·.1)).Nodup
  | _, _, .nil, _ => List.Pairwise.nil
  | _, _, .cons (a := kv) (b := e) r t, nd => by
    rw [List.map_cons, List.nodup_cons] at nd ⊢
    refine ⟨fun hm => nd.1 ?_, keys_nd t nd.2⟩
    obtain ⟨kv', h1, h2⟩ := List.mem_map.mp hm
    obtain ⟨i, hi⟩ := List.mem_iff_getElem?.mp h1
    obtain ⟨e', he', ent⟩ := paired_getL i t hi
    rw [ent.1, r.1] at h2
    exact List.mem_map.mpr ⟨e', List.mem_of_getElem? he', lt_inj (Sum.inr.inj h2)⟩
theorem keys_tx {H : Hp} {kvs : List (Key × V)} {row : Rw} (h : Paired (EntAt H) kvs row) : ∀ q ∈ kvs, ∃ z : Str, q.1 = .inr z := fun q hq => by
  obtain ⟨i, hi⟩ := List.mem_iff_getElem?.mp hq
  obtain ⟨e', _, ent⟩ := paired_getL i h hi
  exact ⟨_, ent.1⟩
theorem lk_ne {a b : Str} {v : V} {fs : List (Str × V)} (h : ¬ a = b) : (putF b v fs).lookup a = fs.lookup a := by rw [lookup_putF, if_neg h]
theorem lk_eq {a : Str} {v : V} {fs : List (Str × V)} : (putF a v fs).lookup a = some v := by rw [lookup_putF, if_pos rfl]
theorem SameB.trans {D : Addr} {H1 H2 H3 : Hp} (e : SameB D H1 H2) (e' : SameB D H2 H3) : SameB D H1 H3 := fun a o n h => e' a o n (e a o n h)
theorem freeB {D b : Addr} {H H' : Hp} (e : SameB D H H') (n : b ≠ D) (h : H' b = none) : H b = none := by
  cases z : H b with
  | none => rfl
  | some o =>
    have := e b o n z
    rw [h] at this
    cases this
/-- dict of a list of pairs -/
def rDictP (K : PySem.W.Frag) : List V → Hp → VK → Prop := fun xs H Q => ∃ (a : Addr) (ps : List Addr) (kvs : List (Key × V)), xs = [.ref a] ∧ SqL K H a (ps.map V.ref) ∧ Paired (fun p kv => SqT K H p [kV kv.1, kv.2]) ps kvs ∧ ∀ p, H p = none → Q (.ref p) (upd H p (.dK (mergeK [] kvs)))
/-- what the walk asks of the class -/
structure RTx (K : PySem.W.Frag) (mg : Str → Option Value) (C : Addr) : Prop where
  cl : Cls K C
  nR : NoAttr K C "rows"
  nE : NoAttr K C "end_list"
  nS : NoAttr K C "own_start"
  mgC : mg "Reader" = some (.ref C)
/-- a reader as it lies -/
structure RdAt (C : Addr) (H : Hp) (x : Addr) (rows : List Rw) (ends : List Int) (start : Int) : Prop where
  ex : ∃ (dx pr pe : Addr) (fs : List (Str × V)) (qs : List Addr), H x = some (.ins C dx fs) ∧ fs.lookup ("rows" : Str) = some (.ref pr) ∧ fs.lookup ("end_list" : Str) = some (.ref pe) ∧ fs.lookup ("own_start" : Str) = some (.int start) ∧
    (∀ n : Str, ¬ n = "rows" → ¬ n = "end_list" → ¬ n = "own_start" → fs.lookup n = none) ∧ H pr = some (.tup (qs.map .ref)) ∧ Paired (RwAt H) qs rows ∧ H pe = some (.tup (ends.map .int))
theorem RdAt.mono {C : Addr} {H H' : Hp} {x : Addr} {rows : List Rw} {ends : List Int} {start : Int} (e : Same H H') (h : RdAt C H x rows ends start) : RdAt C H' x rows ends start := by
  obtain ⟨dx, pr, pe, fs, qs, h1, h2, h3, h4, h5, h6, h7, h8⟩ := h.ex
  exact ⟨dx, pr, pe, fs, qs, e _ _ h1, h2, h3, h4, h5, e _ _ h6, Paired.mono h7 fun a b g => g.mono e, e _ _ h8⟩
theorem RwAt.bx {H H' : Hp} {q x C dx : Addr} {row : Rw} {fs : List (Str × V)} (hx : H x = some (.ins C dx fs)) (e : SameB x H H') (h : RwAt H q row) : RwAt H' q row := by
  obtain ⟨ps, h1, h2⟩ := h
  exact ⟨ps, e _ _ (ne_of h1 hx (by intro z; cases z)) h1, Paired.mono h2 fun a b g => e _ _ (ne_of g hx (by intro z; cases z)) g⟩
section
variable {P : Program} {w : World} {K : PySem.W.Frag} {mg : Str → Option Value} {base : Heap}
/-! ### Reader.__init__ -/
abbrev sIni : Stmt := inClass (top 26) 1
abbrev nIni : List Str := ["self", "states", "ends", "start", "problem", "row"]
abbrev psIni : List Str := ["self", "states", "ends", "start"]
theorem scIni : FnScope nIni psIni (defScope sIni) := ⟨rfl, rfl, rfl, by decide +kernel, rfl, by decide +kernel, by decide +kernel⟩
def spIni (K : PySem.W.Frag) (C : Addr) : Sp := fun vs H Q _ => ∃ (x dx a e : Addr) (cs ts : List Nat) (ms : List (List Nat)) (rows : List Rw) (ends : List Int) (start : Int), vs = [.ref x, .ref a, .ref e, .int start] ∧ H x = some (.ins C dx []) ∧ Pal cs ts ms ∧ WfR cs ts ms rows ends start ∧ RowsL H a rows ∧ LoQ K H e (ends.map .int) ∧
  ∀ H', (∀ H'' : Hp, (∀ b o, (H b = none ∨ b = x ∨ ∃ xs, o = .tup xs) → H' b = some o → H'' b = some o) → RdAt C H'' x (rows.map sortR) (sortI ends) start) → SameB x H H' → Q .non H'
theorem ok_ini {f C : Addr} {fd : FuncData} {dvs : List V} {kws : List (Str × V)} (F : FunD K "__init__" "Reader.__init__" (defArgs sIni) (defBody sIni) (defScope sIni) dvs kws f fd) (B : Bl mg) (T : RTx K mg C) (Pb : Cal P w K mg base "reader_problem" 6 psPrb (spPrb K)) : FnOk P w K mg base CX0 7 f fd psIni (spIni K C) := by
  refine okD F scIni (fun vs H Q E h => ?_) (fun cdv A outer s H vs Q E hr h => ?_)
  · obtain ⟨x, dx, a, e, cs, ts, ms, rows, ends, start, rfl, _⟩ := h
    rfl
  · obtain ⟨x, dx, a, e, cs, ts, ms, rows, ends, start, rfl, hx, PA', W, hR, hE, k⟩ := h
    have hr1 := hr
    refine ⟨_, pss_cons (ps_set (i := 4) scIni.nd rfl (.inl rfl) (pe_cal Pb hr1 (pa_cons (pv 1) (pa_cons (pv 2) (pa_cons (pv 3) pa_nil)))))
      (pss_cons (ps_if (pt_cmpR op_notN (pv 4) pe_non (nomark _))
        (pss_one ps_never) pss_nil)
      (pss_cons (ps_fld (pv 0) (pe_callTy call_tuple_of (by rfl) B.tuple (by decide +kernel) (pa_cons (pe_lc (own := [("row", 5)]) (g := gName 5) (tt := tYes) (te := tCB (rDictP K) (tCons (tCB VSI.rSortItK (tCons (tBM0 K "dict" VSI.rItemsK (tVar 5)) tNil)) tNil)) rfl scIni.nd (pi_lot (pv 1)) (blkOk_by (by kernel_rfl)) (fun _ _ _ _ _ => pg_name (i := 5) scIni.nd rfl (.inl rfl)) (fun _ _ _ _ _ => pts_nil) (fun _ _ _ _ _ => pe_callTy (call_dictP rfl) (by rfl) B.dict (by decide +kernel) (pa_cons (pe_callB (VSI.cr_sortedItK rfl) (by rfl) B.sorted (by decide +kernel) (pa_cons (pe_bm0 PySem.F.plainAttrs_dict PySem.F.slot_dict_items PySem.F.type_dict_items VSI.mt_itemsK (pv 5)) pa_nil)) pa_nil))) pa_nil)) rfl)
      (pss_cons (ps_fld (pv 0) (pe_callTy call_tuple_of (by rfl) B.tuple (by decide +kernel) (pa_cons (pe_callB cr_sortedLT (by rfl) B.sorted (by decide +kernel) (pa_cons (pv 2) pa_nil)) pa_nil)) rfl)
      (pss_one (ps_fld (pv 0) (pv 3) rfl))))), ?_⟩
    have h12 := W.most
    refine ⟨_, rfl, _, rfl, _, rfl, a, e, cs, ts, ms, rows, ends, start, rfl, PA', W, hR, hE, fun H1 e1 => ?_⟩
    refine ⟨_, rfl, rfl, _, rfl, iteF ?_⟩
    obtain ⟨qs, q1, q2⟩ := hR.mono e1
    have hql : qs.length = rows.length := Paired.length q2
    have hx1 := e1 _ _ hx
    -- the rows
    refine ⟨_, rfl, a, _, rfl, q1, fun J G wk hG D hD => lc_S wk hD (by rw [List.length_map]; omega) (fun i acc H' => ∃ qs' : List Addr, acc = qs'.map .ref ∧ Paired (fun q row => RwAt H' q row ∧ H1 q = none) qs' ((rows.take i).map sortR)) ?_ ⟨[], rfl, .nil⟩ hG ?_ ?_⟩
    · rintro i acc acc' H2 H3 hd ee ⟨qs', p1, p2⟩
      refine ⟨qs', p1, Paired.mono p2 fun a b h => ⟨RwAt.nl (fun x o hx no => ee _ _ (fun z => ?_) hx) h.1, h.2⟩⟩
      rw [z, hd] at hx
      cases hx
      exact no _ rfl
    · rintro i v H2 H2' acc Qt Qf hi e2 hd ⟨qs', rfl, hq⟩ ⟨rfl, hv⟩ kt kf
      rw [List.length_map] at hi
      rw [List.getElem?_map] at hv
      obtain ⟨q, hqi, rfl⟩ := Option.map_eq_some_iff.mp hv
      have hir : i < rows.length := by omega
      obtain ⟨q', hq', hrow⟩ := paired_get i q2 (List.getElem?_eq_getElem hir)
      rw [hqi] at hq'
      cases hq'
      obtain ⟨kvs, k1, k2⟩ := rw_iff.mp (hrow.mono e2)
      have nd := W.nd _ (List.getElem_mem hir)
      refine ⟨rfl, _, rfl, .inr (.inr (.inl ⟨rfl, .inl ⟨_, k1⟩⟩)), q, kvs, rfl, rfl, k1, fun p hp => ⟨p, q, kvs, rfl, upd_same, (same_new hp) _ _ k1, keys_tx k2, keys_nd k2 nd, fun H5 l tsl out e5 hl hts hlt h5 pr pm so => ?_⟩⟩
      refine ⟨l, tsl, out, rfl, SqL.of h5, Paired.mono pr fun t q h => SqT.of h, fun p' hp' => kt _ _ (((same_new hp).trans e5).trans (same_new hp')) ⟨qs' ++ [p'], by simp, ?_⟩⟩
      have e25 : Same H2' H5 := (same_new hp).trans e5
      rw [mergeK_nil (by rw [(pm.map (·.1)).nodup_iff]; exact keys_nd k2 nd)]
      rw [List.take_add_one, List.getElem?_eq_getElem hir, List.map_append]
      have e26 := e25.trans (same_new (o := .dK out) hp')
      refine paired_snoc (Paired.mono hq fun a b h => ⟨h.1.mono e26, h.2⟩) ⟨rw_iff.mpr ⟨out, upd_same, ?_⟩, e2.free (e25.free hp')⟩
      refine Paired.mono (ents_sort k2 nd pm so) fun x y g => ⟨g.1, g.2.imp fun p z => ⟨z.1, e26 _ _ z.2⟩⟩
    rintro H2 acc e2 hd ⟨qs', rfl, hq⟩
    rw [List.length_map, hql, List.take_length] at hq
    refine ⟨D, _, rfl, .inl ⟨SqL.of hd, fun pt hpt => ?_⟩⟩
    have e3 : Same H2 (upd H2 pt (.tup (qs'.map .ref))) := same_new hpt
    have hx3 := e3 _ _ (e2 _ _ hx1)
    have ht3 : (upd H2 pt (.tup (qs'.map .ref))) pt = some (.tup (qs'.map .ref)) := upd_same
    have hq3 : Paired (fun q row => RwAt (upd H2 pt (.tup (qs'.map .ref))) q row ∧ H1 q = none) qs' (rows.map sortR) := Paired.mono hq fun a b h => ⟨h.1.mono e3, h.2⟩
    have e13 := (e1.trans e2).trans e3
    generalize (upd H2 pt (.tup (qs'.map .ref))) = H3 at e3 hx3 ht3 hq3 e13
    refine ⟨_, rfl, x, C, dx, _, rfl, hx3, T.cl, T.nR, (by show 0 < 1000; decide), ?_⟩
    have b4 : SameB x H3 (upd H3 x (.ins C dx (putF "rows" (.ref pt) []))) := SameB.upd
    have hx4 : (upd H3 x (.ins C dx (putF "rows" (.ref pt) []))) x = some (.ins C dx (putF "rows" (.ref pt) [])) := upd_same
    generalize (upd H3 x (.ins C dx (putF "rows" (.ref pt) []))) = H4 at b4 hx4
    have hE4 : LoQ K H4 e (ends.map .int) := by
      rcases hE with (h | h) | h
      · exact .inl (.inl (b4 _ _ (ne_of h hx (by intro z; cases z)) (e13 _ _ h)))
      · exact .inl (.inr (b4 _ _ (ne_of h hx (by intro z; cases z)) (e13 _ _ h)))
      · exact .inr h
    -- the ends
    refine ⟨_, rfl, e, ends, rfl, hE4.seq, ?_, fun es p5 pm so hp5 => ⟨p5, _, rfl, .inl ⟨SqL.of upd_same, fun pt5 hpt5 => ?_⟩⟩⟩
    · have := nodup_len _ _ W.endN W.end0
      omega
    have ees := sortI_uniq pm so
    have e5 : Same H4 (upd (upd H4 p5 (.lst (es.map .int))) pt5 (.tup (es.map .int))) := (same_new hp5).trans (same_new hpt5)
    have hx5 := e5 _ _ hx4
    have ht5 : (upd (upd H4 p5 (.lst (es.map .int))) pt5 (.tup (es.map .int))) pt5 = some (.tup (es.map .int)) := upd_same
    generalize (upd (upd H4 p5 (.lst (es.map .int))) pt5 (.tup (es.map .int))) = H5 at e5 hx5 ht5
    refine ⟨_, rfl, x, C, dx, _, rfl, hx5, T.cl, T.nE, (by show 1 < 1000; decide), ?_⟩
    refine ⟨_, rfl, _, rfl, x, C, dx, _, rfl, upd_same, T.cl, T.nS, (by show 2 < 1000; decide), ?_⟩
    have b5 : SameB x H5 (upd (upd H5 x (.ins C dx (putF "end_list" (.ref pt5) (putF "rows" (.ref pt) [])))) x (.ins C dx (putF "own_start" (.int start) (putF "end_list" (.ref pt5) (putF "rows" (.ref pt) []))))) := SameB.upd.trans SameB.upd
    have hx6 : (upd (upd H5 x (.ins C dx (putF "end_list" (.ref pt5) (putF "rows" (.ref pt) [])))) x (.ins C dx (putF "own_start" (.int start) (putF "end_list" (.ref pt5) (putF "rows" (.ref pt) []))))) x = some (.ins C dx (putF "own_start" (.int start) (putF "end_list" (.ref pt5) (putF "rows" (.ref pt) [])))) := upd_same
    generalize (upd (upd H5 x (.ins C dx (putF "end_list" (.ref pt5) (putF "rows" (.ref pt) [])))) x (.ins C dx (putF "own_start" (.int start) (putF "end_list" (.ref pt5) (putF "rows" (.ref pt) []))))) = H6 at b5 hx6 ⊢
    have b36 : SameB x H3 H6 := (b4.trans (Same.b e5)).trans b5
    refine k H6 (fun H'' ext => ?_) ((Same.b e13).trans b36)
    have ntx : pt ≠ x := ne_of ht3 hx3 (by intro z; cases z)
    have nt5 : pt5 ≠ x := ne_of ht5 hx5 (by intro z; cases z)
    refine ⟨dx, pt, pt5, _, qs', ext _ _ (.inr (.inl rfl)) hx6, ?_, ?_, lk_eq, fun n n1 n2 n3 => by rw [lk_ne n3, lk_ne n2, lk_ne n1]; rfl, ext _ _ (.inr (.inr ⟨_, rfl⟩)) (b36 _ _ ntx ht3), Paired.mono hq3 fun q row h => ?_, ?_⟩
    · rw [lk_ne (by decide +kernel), lk_ne (by decide +kernel), lk_eq]
    · rw [lk_ne (by decide +kernel), lk_eq]
    · obtain ⟨ps, z1, z2⟩ := h.1.bx hx3 b36
      exact ⟨ps, ext _ _ (.inl (e1.free h.2)) z1, Paired.mono z2 fun a b g => ext _ _ (.inr (.inr ⟨_, rfl⟩)) g⟩
    · rw [← ees]
      exact ext _ _ (.inr (.inr ⟨_, rfl⟩)) (b5 _ _ nt5 ht5)
end
end SS

set_option maxRecDepth 100000
set_option maxHeartbeats 4000000
set_option pp.maxSteps 1500
namespace SS
open PySem L2 SR TL
/-! ### walks over the moves of a state -/
/-- all stands, but at Z -/
def SN (Z : Addr → Prop) (H H' : Hp) : Prop := ∀ b o, ¬ Z b → H b = some o → H' b = some o
theorem SN.refl {Z : Addr → Prop} {H : Hp} : SN Z H H := fun _ _ _ h => h
theorem SN.trans {Z : Addr → Prop} {H1 H2 H3 : Hp} (a : SN Z H1 H2) (b : SN Z H2 H3) : SN Z H1 H3 := fun x o n h => b x o n (a x o n h)
theorem Same.sn {Z : Addr → Prop} {H H' : Hp} (e : Same H H') : SN Z H H' := fun b o _ h => e b o h
theorem SN.new {Z : Addr → Prop} {D : Addr} {H H' : Hp} {o : HO} (e : SN Z H H') (h : H' D = none) : SN Z H (upd H' D o) := fun b u n hb => by
  have := e b u n hb
  rw [upd_ne (ne_of_none this h)]
  exact this
theorem SN.upd {Z : Addr → Prop} {D : Addr} {H H' : Hp} {o : HO} (e : SN Z H H') (h : Z D) : SN Z H (upd H' D o) := fun b u n hb => by
  rw [upd_ne (show b ≠ D from fun z => n (by rw [z]; exact h))]
  exact e b u n hb
/-- back behind a walk: q is unlocked, l is new -/
theorem SN.back {H0 H1 HL : Hp} {q l : Addr} {u : HO} (e : SN (fun b => b = q ∨ b = l) H1 HL) (e1 : Same H0 H1) (hl : H0 l = none) (hq : H1 q = some u) : Same H0 (L2.upd HL q u) := fun b o hb => by
  have nl : b ≠ l := ne_of_none hb hl
  have hb1 := e1 b o hb
  by_cases h : b = q
  · subst h
    rw [upd_same, ← hb1, hq]
  · rw [upd_ne h]
    exact e b o (fun z => z.elim h nl) hb1
theorem SN.back0 {H1 HL : Hp} {q : Addr} {u : HO} (e : SN (fun b => b = q) H1 HL) (hq : H1 q = some u) : Same H1 (L2.upd HL q u) := fun b o hb => by
  by_cases h : b = q
  · subst h
    rw [upd_same, ← hb, hq]
  · rw [upd_ne h]
    exact e b o h hb
/-- for goal, told in d.values() -/
theorem vals_for {K : PySem.W.Frag} {te : TE} {i j : Nat} {tb : TS} {D : Ends} {σ : St} {H : Hp} {q : Addr} {kvs : List (Key × V)} {row : Rw} (hq : H q = some (.dK kvs)) (pr : Paired (EntAt H) kvs row)
    (ht : ∀ (od : Obj) (R : V → Hp → Prop), R (.ref q) (upd H q (.frz od (.dK kvs))) → te σ (upd H q (.frz od (.dK kvs))) R) (Z : Addr → Prop) (zq : Z q) (zt : ∀ p xs, H p = some (.tup xs) → ¬ Z p) (Pv : Nat → St → Hp → Prop) (h0 : ∀ od, Pv 0 σ (upd H q (.frz od (.dK kvs))))
    (hs : ∀ (od : Obj) (n : Nat) (e : Nat × Mv) (σ' : St) (HL : Hp), row[n]? = some e → SN Z H HL → HL q = some (.frz od (.dK kvs)) → Pv n σ' HL →
      tb { nx := fun σ2 H2 => SN Z H H2 ∧ H2 q = some (.frz od (.dK kvs)) ∧ Pv (n + 1) σ2 H2, rt := fun v H' => H' q = some (.frz od (.dK kvs)) ∧ D.rt v (upd H' q (.dK kvs)), bk := fun σ' H' => H' q = some (.frz od (.dK kvs)) ∧ D.nx σ' (upd H' q (.dK kvs)), ct := fun σ2 H2 => SN Z H H2 ∧ H2 q = some (.frz od (.dK kvs)) ∧ Pv (n + 1) σ2 H2 } ((σ'.set i (some (.int e.2.1))).set j (some (tellV e.2.2))) HL)
    (hd : ∀ (od : Obj) (σ' : St) (HL : Hp), SN Z H HL → HL q = some (.frz od (.dK kvs)) → Pv row.length σ' HL → D.nx σ' (upd HL q (.dK kvs))) :
    tLock (tFor (iVals te) (gTup K 2 (gCons (gName i) (gCons (gName j) gNil))) tb) D σ H := by
  have hkl : kvs.length = row.length := Paired.length pr
  refine ⟨q, _, hq, trivial, fun od => ht od _ ⟨q, od, kvs, rfl, upd_same, ?_⟩⟩
  refine for_it (walk_values (d := q) (o := od) (kvs := kvs)) (fun n σ' HL => SN Z H HL ∧ HL q = some (.frz od (.dK kvs)) ∧ Pv n σ' HL) ⟨SN.refl.upd zq, upd_same, h0 od⟩ (fun _ _ _ _ p => p.2.1) ?_ ?_
  · rintro n v σ' HL HL' hn ⟨e1, e2, p⟩ ⟨rfl, k, hk⟩
    obtain ⟨e, he⟩ : ∃ e, row[n]? = some e := ⟨_, List.getElem?_eq_getElem (by omega)⟩
    obtain ⟨p1, p2, p3, p4⟩ := paired_at pr hk he
    have p3' : v = .ref p2 := p3
    subst p3'
    have m2 : MvAt HL' p2 e.2 := e1 _ _ (zt _ _ p4) p4
    exact ⟨p2, _, rfl, SqT.of m2, rfl, _, _, rfl, _, _, rfl, rfl, hs od n e σ' _ he e1 e2 p⟩
  · rintro σ' HL ⟨e1, e2, p⟩
    rw [hkl] at p
    exact ⟨e2, hd od σ' HL e1 e2 p⟩
/-- [.. for goal, told in d.values() if ..]: a new list -/
theorem vals_lc {K : PySem.W.Frag} {te : TE} {i j : Nat} {tt : TT} {te2 : TE} {σ : St} {H : Hp} {Q : VK} {q : Addr} {kvs : List (Key × V)} {row : Rw} (hq : H q = some (.dK kvs)) (pr : Paired (EntAt H) kvs row) (hl : row.length ≤ 1000)
    (ht : ∀ (od : Obj) (R : V → Hp → Prop), R (.ref q) (upd H q (.frz od (.dK kvs))) → te σ (upd H q (.frz od (.dK kvs))) R) (f : Nat × Mv → Option V)
    (hw : ∀ a b : V, wipe (((wipe σ [i, j]).set i (some a)).set j (some b)) [i, j] = wipe σ [i, j])
    (hs : ∀ (od : Obj) (n : Nat) (e : Nat × Mv) (HL : Hp) (Qt : V → Hp → Prop) (Qf : Hp → Prop), row[n]? = some e → Same (upd H q (.frz od (.dK kvs))) HL → (∀ y H4, Same HL H4 → f e = some y → Qt y H4) → (∀ H3, Same HL H3 → f e = none → Qf H3) →
      tt (((wipe σ [i, j]).set i (some (.int e.2.1))).set j (some (tellV e.2.2))) HL fun b H3 => if b = true then te2 (((wipe σ [i, j]).set i (some (.int e.2.1))).set j (some (tellV e.2.2))) H3 Qt else Qf H3)
    (hd : ∀ (p : Addr) (H' : Hp), H p = none → Same H H' → H' p = some (.lst (row.filterMap f)) → Q (.ref p) H') :
    tLockE (tLc (iVals te) (gTup K 2 (gCons (gName i) (gCons (gName j) gNil))) tt te2 [i, j]) σ H Q := by
  have hkl : kvs.length = row.length := Paired.length pr
  refine ⟨q, _, hq, trivial, fun od => ht od _ ⟨q, od, kvs, rfl, upd_same, fun D hD => ?_⟩⟩
  have nDq : D ≠ q := fun z => by rw [z, upd_same] at hD; cases hD
  refine lc_S (walk_values (d := q) (o := od) (kvs := kvs)) hD (by omega) (fun n acc _ => acc = (row.take n).filterMap f) (fun _ _ _ _ _ _ _ h => h) rfl (fun H' e' => e' _ _ upd_same) ?_ ?_
  · rintro n v H3 H3' acc Qt Qf hn e3 hd' rfl ⟨rfl, k, hk⟩ kt kf
    obtain ⟨e, he⟩ : ∃ e, row[n]? = some e := ⟨_, List.getElem?_eq_getElem (by omega)⟩
    obtain ⟨p1, p2, p3, p4⟩ := paired_at pr hk he
    have p3' : v = .ref p2 := p3
    subst p3'
    have m2 : MvAt H3' p2 e.2 := e3 _ _ (by unfold MvAt at p4; exact lock_get hq p4 (by intro z; cases z))
    refine ⟨p2, _, rfl, SqT.of m2, rfl, _, _, rfl, _, _, rfl, rfl, hw _ _, ?_⟩
    have et : row.take (n + 1) = row.take n ++ [e] := by rw [List.take_add_one, he]; rfl
    refine hs od n e H3' Qt Qf he e3 (fun y H4 e4 fy => kt y H4 e4 ?_) fun H4 e4 fy => kf H4 e4 ?_
    · rw [et, List.filterMap_append]
      simp [fy]
    · rw [et, List.filterMap_append]
      simp [fy]
  · rintro H1 acc e1 hd' rfl
    rw [hkl, List.take_length] at hd'
    refine ⟨e1 _ _ upd_same, hd D _ ?_ (lock_same hq e1) (by rw [upd_ne nDq]; exact hd')⟩
    rw [upd_ne nDq] at hD
    exact hD
end SS

set_option maxRecDepth 100000
set_option maxHeartbeats 4000000
set_option pp.maxSteps 1500
namespace SR
open PySem PySem.Spec PyProof.Rows L2 GenW
section
variable {X : Cx} {st : Stmt}
/-- a generator's statement while a dict is locked -/
def tGLock (t : TGn) : TGn := fun D ys σ H => ∃ d u, H d = some u ∧ Mut (some u) ∧ ∀ od, t ⟨fun ys σ' H' => H' d = some (.frz od u) ∧ D.nx ys σ' (upd H' d u), fun ys v H' => H' d = some (.frz od u) ∧ D.rt ys v (upd H' d u), fun ys σ' H' => H' d = some (.frz od u) ∧ D.bk ys σ' (upd H' d u), fun ys σ' H' => H' d = some (.frz od u) ∧ D.ct ys σ' (upd H' d u)⟩ ys σ (upd H d (.frz od u))
theorem gs_lock {t : TGn} (h : GS X st t) : GS X st (tGLock t) := by
  refine ⟨fun A S ip R n ys s₀ c fs K J gd lv s σ H D g hn k hI ht => ?_⟩
  obtain ⟨d, u, hd, mu, ht⟩ := ht
  obtain ⟨acc, cc, r, I⟩ := hI
  obtain ⟨od, I1⟩ := I.lock hd mu
  have nf := I.nofrz hd mu
  refine h.run A S ip R n ys s₀ c fs K J gd lv s σ _ _ g hn ⟨fun n' ys' s₀' s' f hn' hs => k.ok n' ys' s₀' s' f hn' ?_, k.exc⟩ ⟨acc, cc, r, I1⟩ (ht od)
  cases f with
  | next => obtain ⟨σ', H', ⟨a', c', r', I'⟩, e, q⟩ := hs; exact ⟨σ', _, ⟨a', c', r', I'.unlock e nf⟩, q⟩
  | brk => obtain ⟨σ', H', ⟨a', c', r', I'⟩, e, q⟩ := hs; exact ⟨σ', _, ⟨a', c', r', I'.unlock e nf⟩, q⟩
  | cont => obtain ⟨σ', H', ⟨a', c', r', I'⟩, e, q⟩ := hs; exact ⟨σ', _, ⟨a', c', r', I'.unlock e nf⟩, q⟩
  | ret v => obtain ⟨x, σ', H', ⟨a', c', r', I'⟩, rv, e, q⟩ := hs; exact ⟨x, σ', _, ⟨a', c', r', I'.unlock e nf⟩, rv, q⟩
end
end SR
namespace SS
open PySem L2 SR TL
/-- all tuples stand -/
def Tups (H H' : Hp) : Prop := ∀ b xs, H b = some (.tup xs) → H' b = some (.tup xs)
theorem Same.tups {H H' : Hp} (e : Same H H') : Tups H H' := fun b xs h => e b _ h
theorem Tups.at {H H' : Hp} {b : Addr} {o : HO} (h : H b = some o) (n : ∀ xs, o ≠ .tup xs) (k : ∀ c u, c ≠ b → H c = some u → H' c = some u) : Tups H H' := fun c xs hc => k c _ (fun z => by
  rw [z, h] at hc
  exact n xs (Option.some.inj hc)) hc
theorem MvAt.tups {H H' : Hp} {p : Addr} {m : Mv} (e : Tups H H') (h : MvAt H p m) : MvAt H' p m := e _ _ h
/-- [.. for sign, (goal, told) in d.items() if ..]: a new list -/
theorem items_lc {K : PySem.W.Frag} {te : TE} {i j k : Nat} {tt : TT} {te2 : TE} {σ : L2.St} {H : Hp} {Q : VK} {q : Addr} {kvs : List (Key × V)} {row : Rw} (hq : H q = some (.dK kvs)) (pr : Paired (EntAt H) kvs row) (hl : row.length ≤ 1000)
    (ht : ∀ (od : Obj) (R : V → Hp → Prop), R (.ref q) (upd H q (.frz od (.dK kvs))) → te σ (upd H q (.frz od (.dK kvs))) R)
    (S : Nat → List V → Hp → Prop) (hS : ∀ n acc H H', Tups H H' → S n acc H → S n acc H') (h0 : ∀ H', S 0 [] H')
    (hw : ∀ a b c : V, wipe ((((wipe σ [i, j, k]).set i (some a)).set j (some b)).set k (some c)) [i, j, k] = wipe σ [i, j, k])
    (hs : ∀ (od : Obj) (n : Nat) (e : Nat × Mv) (HL : Hp) (acc : List V) (Qt : V → Hp → Prop) (Qf : Hp → Prop), row[n]? = some e → Same (upd H q (.frz od (.dK kvs))) HL → S n acc HL → (∀ y H4, Same HL H4 → S (n + 1) (acc ++ [y]) H4 → Qt y H4) → (∀ H3, Same HL H3 → S (n + 1) acc H3 → Qf H3) →
      tt ((((wipe σ [i, j, k]).set i (some (ltV e.1))).set j (some (.int e.2.1))).set k (some (tellV e.2.2))) HL fun b H3 => if b = true then te2 ((((wipe σ [i, j, k]).set i (some (ltV e.1))).set j (some (.int e.2.1))).set k (some (tellV e.2.2))) H3 Qt else Qf H3)
    (hd : ∀ (p : Addr) (H' : Hp) (acc : List V), H p = none → Same H H' → H' p = some (.lst acc) → S row.length acc H' → Q (.ref p) H') :
    tLockE (tLc (iItems te) (gTup K 2 (gCons (gName i) (gCons (gTup K 2 (gCons (gName j) (gCons (gName k) gNil))) gNil))) tt te2 [i, j, k]) σ H Q := by
  have hkl : kvs.length = row.length := Paired.length pr
  refine ⟨q, _, hq, trivial, fun od => ht od _ ⟨q, od, kvs, rfl, upd_same, fun D hD => ?_⟩⟩
  have nDq : D ≠ q := fun z => by rw [z, upd_same] at hD; cases hD
  refine lc_S (walk_items (d := q) (o := od) (kvs := kvs)) hD (by omega) S (fun n acc acc' H3 H4 hd' e s => hS _ _ _ _ (Tups.at hd' (fun _ z => by cases z) fun c u hc h => e c u hc h) s) (h0 _) (fun H' e' => e' _ _ upd_same) ?_ ?_
  · rintro n v H3 H3' acc Qt Qf hn e3 hd' s ⟨T, x, y, rfl, hT, rfl, ex, ey⟩ kt kf
    obtain ⟨e, he⟩ : ∃ e, row[n]? = some e := ⟨_, List.getElem?_eq_getElem (by omega)⟩
    have hkn : n < kvs.length := by omega
    have ekv : kvs[n]? = some kvs[n] := List.getElem?_eq_getElem hkn
    have hkk : kvs[n]? = some ((kvs[n]).1, (kvs[n]).2) := ekv
    obtain ⟨p1, p2, p3, p4⟩ := paired_at pr hkk he
    dsimp only at ex ey
    rw [ekv] at ex ey
    have ex' : x = kV (Sum.inr (lt e.1)) := by
      have := (Option.some.inj ex).symm
      rw [this]
      exact congrArg kV p1
    have ey' : y = .ref p2 := by
      have := (Option.some.inj ey).symm
      rw [this]
      exact p3
    subst ex' ey'
    have e4 : Same H3 (upd H3 T (.tup [kV (Sum.inr (lt e.1)), .ref p2])) := same_new hT
    have m2 : MvAt H3 p2 e.2 := e3 _ _ (by unfold MvAt at p4; exact lock_get hq p4 (by intro z; cases z))
    refine ⟨T, _, rfl, SqT.of upd_same, rfl, _, _, rfl, _, _, rfl, ⟨p2, _, rfl, SqT.of (e4 _ _ m2), rfl, _, _, rfl, _, _, rfl, rfl, rfl, hw _ _ _, ?_⟩⟩
    exact hs od n e _ acc Qt Qf he (e3.trans e4) (hS _ _ _ _ (Same.tups e4) s) (fun y H4 e5 z => kt y H4 (e4.trans e5) z) fun H4 e5 z => kf H4 (e4.trans e5) z
  · rintro H1 acc e1 hd' s
    rw [hkl] at s
    have hq1 : H1 q = some (.frz od (.dK kvs)) := e1 _ _ upd_same
    refine ⟨hq1, hd D _ acc ?_ (lock_same hq e1) (by rw [upd_ne nDq]; exact hd') (hS _ _ _ _ (Tups.at hq1 (fun _ z => by cases z) fun c u hc h => by rw [upd_ne hc]; exact h) s)⟩
    rw [upd_ne nDq] at hD
    exact hD
end SS

set_option maxRecDepth 100000
set_option maxHeartbeats 4000000
namespace SR
open PySem PySem.Spec PyProof.Rows L2
/-! ### repr of a list of dicts from ints or texts to ints -/
def keyD : Key → PyData
  | .inl i => .int i
  | .inr x => .str x
def dD (kvs : List (Key × Int)) : PyData := .dict (kvs.map fun p => (keyD p.1, .int p.2))
def dV (kvs : List (Key × Int)) : List (Key × V) := kvs.map fun p => (p.1, V.int p.2)
def lD (kvss : List (List (Key × Int))) : PyData := .list (kvss.map dD)
section
variable {X : Cx} {pins : List (Addr × Obj)} {σ : L2.St} {H : Hp} {s : Shared}
theorem key_reads {k : Key} {v : Value} {h : Heap} (e : keyIs k v = true) : Reads h v (keyD k) [] := by
  rcases keyIs_shape e with ⟨i, t, rfl, rfl⟩ | ⟨x, t, rfl, rfl⟩
  · exact .int i t
  · exact .str x t
theorem pairs_reads {P : Program} {w : World} {h : Heap} : ∀ {es : List DictEntry} {vs : List (Key × Value)} {kvs : List (Key × Int)}, Pairs (mixKind P w) es vs → KV (dV kvs) vs →
    ReadsAll h (es.map (·.key)) ((kvs.map fun p => (keyD p.1, PyData.int p.2)).map (·.1)) [] ∧ ReadsAll h (es.map (·.val)) ((kvs.map fun p => (keyD p.1, PyData.int p.2)).map (·.2)) []
  | _, _, [], .nil, _ => ⟨.nil, .nil⟩
  | _, _, [], .cons _ _ _, r => by cases r
  | _, _, p :: kvs, .nil, r => by cases r
  | e :: es, kv :: vs, p :: kvs, .cons h1 h2 h3, r => by
    have r' : Paired (fun (p : Key × V) (q : Key × Value) => p.1 = q.1 ∧ RelV p.2 q.2) ((p.1, V.int p.2) :: dV kvs) (kv :: vs) := r
    cases r' with
    | cons a b =>
      obtain ⟨i1, i2⟩ := pairs_reads (h := h) h3 b
      obtain ⟨a1, a2⟩ := a
      have a1' : p.1 = kv.1 := a1
      obtain ⟨t, ht⟩ : ∃ t, kv.2 = Value.int p.2 t := a2
      have k1 : Reads h e.key (keyD p.1) [] := key_reads (by rw [a1']; exact h1)
      have k2 : Reads h e.val (.int p.2) [] := by rw [h2, ht]; exact .int _ _
      exact ⟨.cons (as := []) (bs := []) k1 i1, .cons (as := []) (bs := []) k2 i2⟩
theorem dict_reads (I : Inv X pins σ H s) {q : Addr} {kvs : List (Key × Int)} (h : H q = some (.dK (dV kvs))) : ∃ as, Reads s.heap (.ref q) (dD kvs) as ∧ sysModules ∉ as := by
  obtain ⟨_, hd, vs, rel, o, es, ep, ho, hx, hdat, _, hp, _⟩ := dk_of I.hok h
  obtain ⟨i1, i2⟩ := pairs_reads (h := s.heap) hp rel
  refine ⟨_, .dict ho hx.1 hdat i1 i2, fun hm => ?_⟩
  have : sysModules = q := by simpa using hm
  rw [← this] at hd
  simp at hd
def DictsAt (H : Hp) (qs : List Addr) (kvss : List (List (Key × Int))) : Prop := Paired (fun q kvs => H q = some (.dK (dV kvs))) qs kvss
theorem dicts_reads (I : Inv X pins σ H s) {qs : List Addr} {kvss : List (List (Key × Int))} (h : DictsAt H qs kvss) : ∀ {us : List Value}, Vals (qs.map V.ref) us → ∃ as, ReadsAll s.heap us (kvss.map dD) as ∧ sysModules ∉ as := by
  unfold DictsAt at h
  induction h with
  | nil =>
    intro us r
    cases r
    exact ⟨[], .nil, by simp⟩
  | @cons q kvs qs kvss hq _ ih =>
    intro us r
    cases r with
    | cons r1 r2 =>
      rename_i u us
      obtain rfl : u = Value.ref q := r1
      obtain ⟨as, h1, n1⟩ := dict_reads I hq
      obtain ⟨bs, h2, n2⟩ := ih r2
      exact ⟨_, .cons h1 h2, fun hm => (List.mem_append.mp hm).elim n1 n2⟩
/-- the list repr's own call -/
theorem call_lD (I : Inv X pins σ H s) {A : Around} {a : Addr} {qs : List Addr} {kvss : List (List (Key × Int))} {Q : Value → Shared → Prop} {E : Value → Shared → Prop} (hl : SqL X.K H a (qs.map .ref)) (hp : DictsAt H qs kvss) (hs : (lD kvss).showable = true) (hz : (lD kvss).shown.length ≤ sizeLine)
    (hg : A.guards = some []) (hu : A.units + (lD kvss).depth < cLine) (hQ : ∀ h' u tk, (∀ b o, s.heap.get? b = some o → h'.get? b = some o) → Q (.str (lD kvss).shown u) { s with heap := h', toks := tk }) :
    s.TypeIs (.ref a) "list" ∧ wpAny (model X.prog X.w) A (call (.builtin "list.__repr__") [.ref a]) Q E s := by
  obtain ⟨its, rv, ⟨o, n, ho, hc, _, hdat⟩, _⟩ := I.list hl
  obtain ⟨as, hr, hno⟩ := dicts_reads I hp rv
  refine ⟨⟨o, ho, hc⟩, ?_⟩
  have hz' : (listText (PyData.shownAll (kvss.map dD))).length ≤ sizeLine := by simpa only [lD, PyData.shown] using hz
  have hQ' : ∀ h' u tk, (∀ b o, s.heap.get? b = some o → h'.get? b = some o) → Q (.str (listText (PyData.shownAll (kvss.map dD))) u) { s with heap := h', toks := tk } := by simpa only [lD, PyData.shown] using hQ
  have hsa : PyData.showableAll (kvss.map dD) = true := by simpa only [lD, PyData.showable] using hs
  have hu' : A.units + (PyData.depthAll (kvss.map dD) + 1) < cLine := by simpa only [lD, PyData.depth] using hu
  cases its with
  | nil =>
    have hn : kvss.map dD = [] := by
      generalize kvss.map dD = ds at hr
      cases hr
      rfl
    rw [hn] at hQ'
    exact call_list_repr_empty ⟨o, ho, hc⟩ ho hdat (hQ' s.heap _ _ fun _ _ e => e)
  | cons x its =>
    have whole : Reads s.heap (.ref a) (.list (kvss.map dD)) (a :: as) := .list ho hc hdat (by simpa using hr)
    obtain ⟨bs, hb, hk⟩ := ReprAllK.of_readsAll (prog := X.prog) (w := X.w) hr hsa (fun _ => hno) fun t ht => Nat.le_trans (listText_mem_le ht) hz'
    have hna : a ∉ bs := not_mem_of_deeper whole (by simp only [PyData.depth]; omega) hb
    exact call_list_reprK ho hc hdat hna (by simpa using hk.length_eq) (fun i y e => hk.item i y (by simpa using e)) hg (fun b _ => Clear.nil b) hu' (fun _ _ e => e) hQ' hz'
end
section
variable {X : Cx}
def rReprL (K : PySem.W.Frag) : List V → Hp → VK → Prop := fun xs H Q => ∃ a qs kvss, xs = [.ref a] ∧ SqL K H a (qs.map .ref) ∧ DictsAt H qs kvss ∧ (lD kvss).showable = true ∧ (lD kvss).depth ≤ 64 ∧ (lD kvss).shown.length ≤ sizeLine ∧ Q (.str (lD kvss).shown) H
theorem call_reprL (hgd : X.A.guards = some []) (hu : X.A.units + 66 < cLine) : CallR X (.builtin "repr") (rReprL X.K) := by
  intro pins s σ H xs us Q I r h
  obtain ⟨a, qs, kvss, rfl, hl, hp, hs, hdp, hz, q⟩ := h
  obtain ⟨u, rfl, rx⟩ := vals1 r
  obtain rfl : u = Value.ref a := rx
  obtain ⟨ty, hc⟩ := call_lD (A := X.A.in1) (E := X.xe) (Q := fun r s₁ => ∃ x t, r = .str x t ∧ EP X pins σ Q r s₁) I hl hp hs hz hgd (by show X.A.units + 1 + _ < cLine; omega) fun h' t tk k => ⟨_, _, rfl, .str (lD kvss).shown, H, I.kept (t' := tk) k, ⟨t, rfl⟩, q⟩
  exact call_repr_slot (by omega) ty PySem.F.slot_list_repr.toG hc
/-- {x!r} of a list of dicts -/
def tFmtL (K : PySem.W.Frag) (te : TE) : TE := fun σ H Q => te σ H fun x H1 => rReprL K [x] H1 Q
theorem pe_fmtL {e : Expr} {te : TE} {pos : Pos} (hgd : X.A.guards = some []) (hu : X.A.units + 66 < cLine) (he : PE X e te) : PE X (.FormattedValue e 114 none pos) (tFmtL X.K te) := by
  refine ⟨fun pins s σ H Q I h => ?_⟩
  refine wpAny_FormattedValue_repr (thn (he.run pins s σ H _ I h) fun v s1 hv => ?_)
  obtain ⟨x, H1, I1, r1, a, qs, kvss, ex, hl, hp, hs, hdp, hz, q⟩ := hv
  obtain rfl : x = .ref a := by cases ex; rfl
  obtain rfl : v = Value.ref a := r1
  obtain ⟨ty, hc⟩ := call_lD (A := X.A) (E := X.xe) (Q := fun r s₁ => ∃ x t, r = .str x t ∧ wpAny (model X.prog X.w) X.A (formatField r Str.empty) (EP X pins σ Q) X.xe s₁) I1 hl hp hs hz hgd (by omega) fun h' t tk k => ⟨_, _, rfl, wpAny_formatField_str ⟨.str (lD kvss).shown, H1, I1.kept (t' := tk) k, ⟨t, rfl⟩, q⟩ ⟨.str (lD kvss).shown, H1, (I1.kept (t' := tk) k).tok _, ⟨_, rfl⟩, q⟩ hz⟩
  exact wpAny_pyReprObj_slot (by omega) ty PySem.F.slot_list_repr.toG hc
/-- {x!r} of data without dicts -/
def tFmtD (K : PySem.W.Frag) (te : TE) : TE := fun σ H Q => te σ H fun x H1 => rReprD K [x] H1 Q
theorem pe_fmtD {e : Expr} {te : TE} {pos : Pos} (hgd : X.A.guards = some []) (hu : X.A.units + 66 < cLine) (he : PE X e te) : PE X (.FormattedValue e 114 none pos) (tFmtD X.K te) := by
  refine ⟨fun pins s σ H Q I h => ?_⟩
  refine wpAny_FormattedValue_repr (thn (he.run pins s σ H _ I h) fun v s1 hv => ?_)
  obtain ⟨x, H1, I1, r1, a, d, ex, hd, hs, hn, hdp, hz, q⟩ := hv
  obtain rfl : x = .ref a := by cases ex; rfl
  obtain ⟨as, rd⟩ := Dp.reads I1 d _ v hd r1
  obtain rfl : v = Value.ref a := r1
  refine pyReprObj_of_reads rd hs (fun z => by rw [hn] at z; cases z) hgd (by omega) (fun _ _ e => e) (fun h' t tk k => ?_) hz
  exact wpAny_formatField_str ⟨.str d.shown, H1, I1.kept (t' := tk) k, ⟨t, rfl⟩, q⟩ ⟨.str d.shown, H1, (I1.kept (t' := tk) k).tok _, ⟨_, rfl⟩, q⟩ hz
end
/-! ### an own method called by a built-in -/
section
variable {X : Cx}
/-- somewhere below the running body, no repr under way -/
theorem own_run {n : Nat} {f : Addr} {fd : FuncData} {ps : List Str} {sp : Sp} (F : FnG X.prog X.w X.K X.mg X.base n f fd ps sp) {A : Around} (sb : Sub X n A) (hgd : A.guards = some []) (hb : Binds X.K fd ps [])
    {pins : List (Addr × Obj)} {s : Shared} {σ : L2.St} {H : Hp} {vs : List V} {us : List Value} {q : V → Hp → Prop} (I : Inv X pins σ H s) (r : Vals vs us) (hq : sp vs H q E0) : wpAny (model X.prog X.w) A (call (.ref f) us) (EP X pins σ q) X.xe s := by
  have hl : us.length = ps.length := by rw [← r.length]; exact F.len _ _ _ _ hq
  have e0 : Env0 X.prog X.w X.K X.mg X.base A X.stack s H := by
    have e := I.env0
    exact ⟨by rw [sb.fr]; exact e.frames, e.mod, e.bs, e.bsz, e.funs, e.frf, e.hok, e.bare⟩
  have b := hb s us I.kIn (by simpa using hl)
  rw [List.append_nil] at b
  refine wpAny_call (codeAny_mono (F.run A X.stack s H ⟨us, []⟩ us vs _ E0 sb.room hgd e0 b r hq) fun r s' hz => ?_)
  cases r with
  | error e => exact pass0 pins σ H s e s' I hz
  | ok fl =>
    cases fl with
    | ret v => exact I.after hz
    | next => exact False.elim hz
    | brk => exact False.elim hz
    | cont => exact False.elim hz
/-- repr(o), by its own __repr__ -/
def rOwnRepr (C : Addr) (sp : Sp) : List V → Hp → VK → Prop := fun xs H Q => ∃ a dx fs, xs = [.ref a] ∧ H a = some (.ins C dx fs) ∧ sp [.ref a] H (fun v H' => ∃ y, v = .str y ∧ Q (.str y) H') E0
theorem call_ownRepr {n : Nat} {C f : Addr} {fd : FuncData} {ps : List Str} {sp : Sp} (F : FnG X.prog X.w X.K X.mg X.base n f fd ps sp) (hr : Room (n + 1) X.A) (hgd : X.A.guards = some [])
    (hs : PySem.W.findIn X.K (.ref C) "__repr__" = some (some (.ref f))) (hf : PySem.W.isFn X.K (.ref f) = true) (hb : Binds X.K fd ps []) : CallR X (.builtin "repr") (rOwnRepr C sp) := by
  intro pins s σ H xs us Q I r h
  obtain ⟨a, dx, fs, rfl, ha, hq⟩ := h
  obtain ⟨u, rfl, rx⟩ := vals1 r
  obtain rfl : u = Value.ref a := rx
  obtain ⟨mA, J, _⟩ := ins_get I.hok ha
  obtain ⟨od, J, _⟩ := J.look
  obtain ⟨m, hF⟩ := I.fr
  have sb : Sub X n X.A.in1 := Sub.in1 ⟨hr, rfl⟩
  refine PySem.W.repr_K sb.room.units0 hF I.ok.mod.kin J hs hf (wpAny_mono (own_run (vs := [.ref a]) F sb hgd hb I (.cons rfl .nil) hq) (fun z s' hz => ?_) fun _ _ e => e)
  obtain ⟨b', H', I', rb, y, rfl, hQ⟩ := hz
  obtain ⟨t, rfl⟩ := rb
  exact ⟨.str y, H', I', ⟨t, rfl⟩, hQ⟩
/-- len(o), by its own __len__ -/
def rOwnLen (C : Addr) (sp : Sp) : List V → Hp → VK → Prop := fun xs H Q => ∃ a dx fs, xs = [.ref a] ∧ H a = some (.ins C dx fs) ∧ sp [.ref a] H (fun v H' => ∃ i : Int, v = .int i ∧ 0 ≤ i ∧ i < 1000000 ∧ Q (.int i) H') E0
theorem call_ownLen {n : Nat} {C f : Addr} {fd : FuncData} {ps : List Str} {sp : Sp} (F : FnG X.prog X.w X.K X.mg X.base n f fd ps sp) (hr : Room (n + 1) X.A) (hgd : X.A.guards = some [])
    (hs : PySem.W.findIn X.K (.ref C) "__len__" = some (some (.ref f))) (hf : PySem.W.isFn X.K (.ref f) = true) (hb : Binds X.K fd ps []) : CallR X (.builtin "len") (rOwnLen C sp) := by
  intro pins s σ H xs us Q I r h
  obtain ⟨a, dx, fs, rfl, ha, hq⟩ := h
  obtain ⟨u, rfl, rx⟩ := vals1 r
  obtain rfl : u = Value.ref a := rx
  obtain ⟨mA, J, _⟩ := ins_get I.hok ha
  obtain ⟨od, J, _⟩ := J.look
  obtain ⟨m, hF⟩ := I.fr
  have sb : Sub X n X.A.in1 := Sub.in1 ⟨hr, rfl⟩
  refine PySem.W.len_K hF I.ok.mod.kin J hs hf (wpAny_mono (own_run (vs := [.ref a]) F sb hgd hb I (.cons rfl .nil) hq) (fun z s' hz => ?_) fun _ _ e => e)
  obtain ⟨b', H', I', rb, i, rfl, h0, h1, hQ⟩ := hz
  obtain ⟨t, rfl⟩ := rb
  exact ⟨⟨h0, Int.lt_trans h1 (by decide)⟩, .int i, H', I'.tok _, ⟨_, rfl⟩, hQ⟩
/-- o.m(k = v, ..) -/
def tMethK (C : Addr) (m : Str) (n : Nat) (sp : Sp) (gV : List V → List V → List V) (E : XK) (ta : TE) (tk : TA) : TE := fun σ H Q => ta σ H fun x H1 => ∃ a dx fs, x = .ref a ∧ H1 a = some (.ins C dx fs) ∧ fs.lookup m = none ∧ tk σ H1 fun zs H2 => zs.length = n ∧ sp (gV [.ref a] zs) H2 Q E
theorem pe_methK0 {CX : CXT} {k : Nat} {C f : Addr} {fd : FuncData} {ps ks : List Str} {sp : Sp} {E : XK} {m : Str} {o : Expr} {kws : List Keyword} {ta : TE} {tk : TA} {g : List Value → List Value → List Value} {gV : List V → List V → List V} {pos apos : Pos} {pl : Sem Bool}
    (he : PE X o ta) (c : Cls X.K C) (hm : Meth X.K C m f) (F : FnOk X.prog X.w X.K X.mg X.base CX k f fd ps sp) (hr : Room k X.A) (hb : KBn X.K fd ps 1 ks g gV) (hx : Passes CX X E) (hkw : PK X kws tk)
    (hall : (backToKw pos (keywordEach kws X.env)).all (·.1.isSome) = true := by rfl) (hks : (backToKw pos (keywordEach kws X.env)).filterMap (·.1) = ks := by rfl)
    (hpl : ((backTo pos (starEach [] X.env)).any (·.1) || (backToKw pos (keywordEach kws X.env)).any (·.1.isNone)) = false := by rfl)
    (ht : eval (.Call (.Attribute o m apos) [] kws pos) X.env = (do
      let ov ← eval o X.env
      standAt apos.atName
      let (f, first) ← holding [ov] (getMethod ov m pl)
      callWith pos f first (backTo pos (starEach [] X.env)) (backToKw pos (keywordEach kws X.env))) := by rfl) :
    PE X (.Call (.Attribute o m apos) [] kws pos) (tMethK C m ks.length sp gV E ta tk) := by
  refine ⟨fun pins s σ H Q I h => ?_⟩
  refine PySem.W.methodCall_KW (pl := pl) (thn (he.run pins s σ H _ I h) fun u s1 ⟨x, H1, I1, rx, a, dx, fs, ex, ea, l, q⟩ => ?_) ht
  subst ex
  obtain rfl : u = Value.ref a := rx
  refine getmeth_ok I1 ea c hm l ?_
  refine PySem.W.callWith_KW0 (first := [.ref a]) (h₀ := X.base) I.ok.mod.kin hm.kp hall ?_ hpl
  refine thn (hkw.run pos pins s1 σ H1 _ I1 q) fun ws s2 ⟨zs, H2, I2, rz, l2, q2⟩ => ⟨I2.kIn, ?_⟩
  rw [hks]
  have r1 : Vals [V.ref a] [Value.ref a] := .cons rfl .nil
  refine wpAny_call (codeAny_mono (F.run X.A X.stack s2 H2 ⟨[.ref a] ++ [], ks.zip ws⟩ (g [.ref a] ws) (gV [.ref a] zs) Q E hr I2.env0 (hb.to _ [.ref a] ws I2.kIn rfl (rz.length.symm.trans l2)) (hb.rel r1 rz) q2) fun r s' hq => ?_)
  cases r with
  | error e => exact hx pins σ _ _ e s' I2 hq
  | ok fl =>
    cases fl with
    | ret u => exact I2.after hq
    | next => exact False.elim hq
    | brk => exact False.elim hq
    | cont => exact False.elim hq
end
/-! ### x != y by the own __eq__ -/
section
variable {prog : Program} {w : World} {A : Around} {E : Value → Shared → Prop} {s : Shared} {K : PySem.W.Frag} {x C L f : Addr} {h₀ : Heap} {m : Str → Option Value} {ox : Obj} {od : Option Obj}
theorem slot_ne_object : Slot "object" "__ne__" "object.__ne__" := PySem.F.cmp_object.ne
/-- object's own !=, bound for an instance -/
theorem ifBound_ne {args : List Value} {Q : Option Value → Shared → Prop} (X : K.In s.heap) (I : PySem.W.InstAt s.heap x ox C od) (hs : PySem.W.findIn K (.ref C) "__ne__" = some (some (.builtin "object.__ne__")))
    (h : wpAny (model prog w) A (call (.builtin "object.__ne__") (.ref x :: args)) (fun v => Q (some v)) E s) : wpAny (model prog w) A (callSpecialIfBound? (.ref x) "__ne__" args) Q E s := by
  simp only [callSpecialIfBound?, bindSpecialIfBound?]
  refine wpAny_holding (wpAny_bind (wpAny_bind (wpAny_bind (I.type.here ((PySem.W.looks_findIn X hs).here ?_)))))
  simp only [slot_ne_object.bind]
  refine wpAny_bind (wpAny_askSetting (wpAny_ite ?_))
  have fin : wpAny (model prog w) A (call (.builtin "object.__ne__") ([.ref x] ++ args) >>= fun v => pure (some v)) Q E s := wpAny_bind (wpAny_mono h (fun v s' h' => wpAny_pure h') fun _ _ h' => h')
  split
  · exact wpAny_bind (wpAny_pure (wpAny_pure fin))
  · exact wpAny_tryCatch (wpAny_bind (wpAny_pure (wpAny_pure fin)))
theorem check_ne {rest : List Value} {Q : Unit → Shared → Prop} {M : Model} (X : K.In s.heap) (I : PySem.W.InstAt s.heap x ox C od) (hsub : PySem.W.subIn K (.ref C) (.type "object") = some true) (ha : argsOk "object.__ne__" ⟨.ref x :: rest, []⟩) (hq : Q () s) :
    wpAny M A (checkBuiltinCall "object.__ne__" ⟨.ref x :: rest, []⟩) Q E s := by
  simp only [checkBuiltinCall, PySem.F.cmpKind_ne, PySem.F.cmpSplit_ne]
  refine wpAny_bind ?_
  unfold isInstance
  refine wpAny_bind (I.type.here ((PySem.W.looks_subIn X hsub).here ?_))
  simp only [Bool.not_true, Bool.false_eq_true, if_false]
  cases hsig : Manifest.signature? "object.__ne__" with
  | none => exact wpAny_pure hq
  | some sig =>
    simp only [argsOk, hsig] at ha
    have h2 : Bind.checkArgs "object.__ne__" sig ⟨.ref x :: rest, []⟩ = pure () := ha
    show wpAny M A (Bind.checkArgs "object.__ne__" sig ⟨.ref x :: rest, []⟩) Q E _
    rw [h2]; exact wpAny_pure hq
theorem body_ne {b : Value} (X : K.In s.heap) (I : PySem.W.InstAt s.heap x ox C od) (hs : PySem.W.findIn K (.ref C) "__eq__" = some (some (.ref f))) (hf : PySem.W.isFn K (.ref f) = true) (hu : A.units < cLine) {Q : Fin → Shared → Prop}
    (h : wpAny (model prog w) A (call (.ref f) [.ref x, b]) (fun v s' => ∃ r, v = .bool r ∧ Q (.done (.ret (.bool (!r)))) s') E s) : wpAny (model prog w) A (Builtin.«object.__ne__» ⟨[.ref x, b], []⟩) Q E s := by
  unfold Builtin.«object.__ne__»
  refine wpAny_bind (m := slotArgs "__ne__" 1 _) (wpAny_pure ?_)
  refine wpAny_bind (wpAny_cRoomFor hu ?_)
  refine wpAny_bind (m := callSpecialIfBound? (.ref x) (Str.ofString "__eq__") [b]) (PySem.W.ifBound_K X I hs hf (wpAny_mono h (fun v s' hv => ?_) fun _ _ e => e))
  obtain ⟨r, rfl, hq⟩ := hv
  exact wpAny_bind (m := truthy (.bool r)) (wpAny_truthy_bool (wpAny_pure hq))
theorem ne_K {b : Value} {Q : Value → Shared → Prop} (hu : A.units + 1 < cLine) (F : Fr h₀ L s.heap m) (X₀ : K.In h₀) (I : PySem.W.InstAt s.heap x ox C od) (hb : PySem.W.Looks (model prog w) s.heap (typeOf b) (.ref C))
    (hn : PySem.W.findIn K (.ref C) "__ne__" = some (some (.builtin "object.__ne__"))) (hsub : PySem.W.subIn K (.ref C) (.type "object") = some true)
    (hs : PySem.W.findIn K (.ref C) "__eq__" = some (some (.ref f))) (hf : PySem.W.isFn K (.ref f) = true)
    (h : wpAny (model prog w) A.in1 (call (.ref f) [.ref x, b]) (fun v s' => ∃ r, v = .bool r ∧ Q (.bool (!r)) s') E s) : wpAny (model prog w) A (richCompare .NotEq (.ref x) b) Q E s := by
  have X := X₀.keeps F.keep
  have one : wpAny (model prog w) A (tryCompare (.ref x) "__ne__" b) (fun r s' => ∃ v, r = some v ∧ Q v s') E s := by
    unfold tryCompare
    refine wpAny_bind (ifBound_ne X I hn (wpAny_call (codeAny_call_builtin slot_ne_object.plain PySem.F.cmpEntry_ne (check_ne X I hsub (PySem.F.cmpArgs_ne _ _) (body_ne (A := A.in1) X I hs hf hu (wpAny_mono h (fun v s' hv => ?_) fun _ _ e => e))))))
    obtain ⟨r, rfl, hq⟩ := hv
    exact ⟨r, rfl, wpAny_pure ⟨_, rfl, hq⟩⟩
  unfold richCompare
  simp only [oneThing_ref]
  refine wpAny_holding (wpAny_bind (wpAny_cRoomFor (Nat.lt_of_succ_lt hu) ?_))
  refine wpAny_bind (I.type.here (wpAny_bind (hb.here ?_)))
  rw [if_neg (by simp)]
  refine wpAny_bind (wpAny_pure ?_)
  simp only [Bool.false_eq_true, if_false]
  refine wpAny_bind (wpAny_mono one (fun r s' z => ?_) fun _ _ e => e)
  obtain ⟨v, rfl, hq⟩ := z
  exact wpAny_pure hq
end
section
variable {X : Cx}
/-- x == y, by the own __eq__ -/
def rOwnEq (C : Addr) (sp : Sp) (neg : Bool) : R2 := fun x y H Q => ∃ a b dx dy fs gs, x = .ref a ∧ y = .ref b ∧ H a = some (.ins C dx fs) ∧ H b = some (.ins C dy gs) ∧ sp [.ref a, .ref b] H (fun v H' => ∃ r, v = .bl r ∧ Q (.bl (if neg then !r else r)) H') E0
theorem op_eqOwn {n : Nat} {C f : Addr} {fd : FuncData} {ps : List Str} {sp : Sp} (F : FnG X.prog X.w X.K X.mg X.base n f fd ps sp) (hr : Room n X.A) (hgd : X.A.guards = some [])
    (hs : PySem.W.findIn X.K (.ref C) "__eq__" = some (some (.ref f))) (hf : PySem.W.isFn X.K (.ref f) = true) (hb : Binds X.K fd ps []) : OpR X (compareOp .Eq) (rOwnEq C sp false) := by
  intro pins s σ H x y v u Q I rx ry h
  obtain ⟨a, b, dx, dy, fs, gs, rfl, rfl, ha, hb', hq⟩ := h
  cases rx
  cases ry
  obtain ⟨mA, J, _⟩ := ins_get I.hok ha
  obtain ⟨mB, J', _⟩ := ins_get I.hok hb'
  obtain ⟨od, J, _⟩ := J.look
  obtain ⟨od', J', _⟩ := J'.look
  obtain ⟨m, hF⟩ := I.fr
  show wpAny (model X.prog X.w) X.A (richCompare .Eq (.ref a) (.ref b)) (EP X pins σ Q) X.xe s
  refine PySem.W.cmp_K (op := .Eq) (tb := .ref C) hr.units0 hF I.ok.mod.kin J J'.type (by simp [PySem.W.notFirst]) hs hf (wpAny_mono (own_run (vs := [.ref a, .ref b]) F ⟨hr, rfl⟩ hgd hb I (.cons rfl (.cons rfl .nil)) hq) (fun z s' hz => ?_) fun _ _ e => e)
  obtain ⟨b', H', I', rb, r, rfl, hQ⟩ := hz
  cases rb
  exact ⟨.bl r, H', I', rfl, hQ⟩
theorem op_neOwn {n : Nat} {C f : Addr} {fd : FuncData} {ps : List Str} {sp : Sp} (F : FnG X.prog X.w X.K X.mg X.base n f fd ps sp) (hr : Room (n + 1) X.A) (hgd : X.A.guards = some [])
    (hn : PySem.W.findIn X.K (.ref C) "__ne__" = some (some (.builtin "object.__ne__"))) (hsub : PySem.W.subIn X.K (.ref C) (.type "object") = some true)
    (hs : PySem.W.findIn X.K (.ref C) "__eq__" = some (some (.ref f))) (hf : PySem.W.isFn X.K (.ref f) = true) (hb : Binds X.K fd ps []) : OpR X (compareOp .NotEq) (rOwnEq C sp true) := by
  intro pins s σ H x y v u Q I rx ry h
  obtain ⟨a, b, dx, dy, fs, gs, rfl, rfl, ha, hb', hq⟩ := h
  cases rx
  cases ry
  obtain ⟨mA, J, _⟩ := ins_get I.hok ha
  obtain ⟨mB, J', _⟩ := ins_get I.hok hb'
  obtain ⟨od, J, _⟩ := J.look
  obtain ⟨od', J', _⟩ := J'.look
  obtain ⟨m, hF⟩ := I.fr
  have sb : Sub X n X.A.in1 := Sub.in1 ⟨hr, rfl⟩
  show wpAny (model X.prog X.w) X.A (richCompare .NotEq (.ref a) (.ref b)) (EP X pins σ Q) X.xe s
  refine ne_K sb.room.units0 hF I.ok.mod.kin J J'.type hn hsub hs hf (wpAny_mono (own_run (vs := [.ref a, .ref b]) F sb hgd hb I (.cons rfl (.cons rfl .nil)) hq) (fun z s' hz => ?_) fun _ _ e => e)
  obtain ⟨b', H', I', rb, r, rfl, hQ⟩ := hz
  cases rb
  exact ⟨r, rfl, .bl (!r), H', I', rfl, hQ⟩
end
end SR

set_option maxRecDepth 100000
set_option maxHeartbeats 4000000
namespace SR
open PySem PySem.Spec PyProof.Rows L2
section
variable {X : Cx}
/-- somewhere below the running body -/
theorem own_runN {n : Nat} {f : Addr} {fd : FuncData} {ps : List Str} {sp : Sp} (F : FnOk X.prog X.w X.K X.mg X.base CX0 n f fd ps sp) {A : Around} (sb : Sub X n A) (hb : Binds X.K fd ps [])
    {pins : List (Addr × Obj)} {s : Shared} {σ : L2.St} {H : Hp} {vs : List V} {us : List Value} {q : V → Hp → Prop} (I : Inv X pins σ H s) (r : Vals vs us) (hq : sp vs H q E0) : wpAny (model X.prog X.w) A (call (.ref f) us) (EP X pins σ q) X.xe s := by
  have e := I.env0
  have e0 : Env0 X.prog X.w X.K X.mg X.base A X.stack s H := ⟨by rw [sb.fr]; exact e.frames, e.mod, e.bs, e.bsz, e.funs, e.frf, e.hok, e.bare⟩
  have b := hb s us I.kIn (by rw [List.append_nil, ← r.length]; exact F.len _ _ _ _ hq)
  rw [List.append_nil] at b
  refine wpAny_call (codeAny_mono (F.run A X.stack s H ⟨us, []⟩ us vs _ E0 sb.room e0 b r hq) fun res s2 hz => ?_)
  rcases res with e | fl
  · exact pass0 pins σ H s e s2 I hz
  · cases fl with
    | ret v => exact I.after hz
    | next => exact hz.elim
    | brk => exact hz.elim
    | cont => exact hz.elim
theorem call_ownLenN {n : Nat} {C f : Addr} {fd : FuncData} {ps : List Str} {sp : Sp} (F : FnOk X.prog X.w X.K X.mg X.base CX0 n f fd ps sp) (hr : Room (n + 1) X.A)
    (hs : PySem.W.findIn X.K (.ref C) "__len__" = some (some (.ref f))) (hf : PySem.W.isFn X.K (.ref f) = true) (hb : Binds X.K fd ps []) : CallR X (.builtin "len") (rOwnLen C sp) := by
  intro pins s σ H xs us Q I r ⟨a, dx, fs, ex, ha, hq⟩
  subst ex
  obtain ⟨u, eu, rx⟩ := vals1 r
  subst eu
  obtain rfl : u = Value.ref a := rx
  obtain ⟨_, J, _⟩ := ins_get I.hok ha
  obtain ⟨_, J, _⟩ := J.look
  obtain ⟨_, hF⟩ := I.fr
  refine PySem.W.len_K hF I.ok.mod.kin J hs hf (wpAny_mono (own_runN (vs := [.ref a]) F (Sub.in1 ⟨hr, rfl⟩) hb I (.cons rfl .nil) hq) (fun z s2 ⟨b2, H2, I2, rb, i, ei, h0, h1, hQ⟩ => ?_) fun _ _ e => e)
  subst ei
  obtain ⟨t, rfl⟩ := rb
  exact ⟨⟨h0, Int.lt_trans h1 (by decide)⟩, .int i, H2, I2.tok _, ⟨_, rfl⟩, hQ⟩
/-- a list or a tuple walked, while what is at its address stands -/
def iLoA (tl : TE) : TI := fun σ H R => tl σ H fun x H1 => ∃ a xs, x = .ref a ∧ LoT H1 a xs ∧ ∀ (J : It) (G : Hp → Prop), Walk J xs.length G (YAt xs) → (∀ H', H' a = H1 a → G H') → R J H1
theorem pi_loa {tg l : Expr} {tl : TE} (hl : PE X l tl) : PI X tg l (iLoA tl) := by
  refine ⟨fun pins s σ H R I h => thn (hl.run pins s σ H _ I h) fun v s1 ⟨x, H1, I1, r1, a, xs, e, hq, q⟩ => ?_⟩
  subst e
  cases r1
  rcases hq with hq | hq
  · have hq' : SqL X.K H1 a xs := SqL.of hq
    obtain ⟨its, rv, p, hz⟩ := I1.list hq'
    exact wpAny_pyIter_list p.isList (pi_one (tk := s1.toks) I1 _ (turn_list a _) ⟨_, Heap.get?_push_size _ rfl, rfl, rfl⟩ (q (Itl X.K a) _ walk_list fun H' e => SqL.of (e.trans hq)))
  · have hq' : SqT X.K H1 a xs := SqT.of hq
    obtain ⟨its, rv, p, hz⟩ := I1.tuple hq'
    exact wpAny_pyIter_tuple (show s1.heap.IsTuple a its.toArray from p) (pi_one (tk := s1.toks) I1 _ (turn_tuple a _) ⟨_, Heap.get?_push_size _ rfl, rfl, rfl⟩ (q (Itt X.K a) _ walk_tup fun H' e => SqT.of (e.trans hq)))
end
end SR

set_option maxRecDepth 100000
set_option maxHeartbeats 4000000
namespace SR
open PySem PySem.Spec PyProof.Rows L2
/-! ### sizes of what is shown -/
theorem int_short {i : Int} (h0 : 0 ≤ i) (h1 : i < 40) : (PyData.shown (.int i)).length ≤ 8 := by
  obtain ⟨n, rfl⟩ := Int.eq_ofNat_of_zero_le h0
  have hn : n < 40 := by omega
  have : ∀ m : Nat, m < 40 → (PyData.shown (.int (m : Int))).length ≤ 8 := by decide +kernel
  exact this n hn
theorem int_few {i : Int} (h0 : 0 ≤ i) (h1 : i < 40) : PyData.showable (.int i) = true := by
  simp only [PyData.showable]
  obtain ⟨n, rfl⟩ := Int.eq_ofNat_of_zero_le h0
  have hn : n < 40 := by omega
  have : ∀ m : Nat, m < 40 → decide ((m : Int).natAbs.log2 < 1920) = true := by decide +kernel
  exact this n hn
structure Shw (n k : Nat) (d : PyData) : Prop where
  ls : d.leavesShort 8 = true
  sh : d.showable = true
  bk : d.bulk ≤ n
  dp : d.depth ≤ k
theorem Shw.up {n k n' k' : Nat} {d : PyData} (h : Shw n k d) (hn : n ≤ n') (hk : k ≤ k') : Shw n' k' d := ⟨h.ls, h.sh, Nat.le_trans h.bk hn, Nat.le_trans h.dp hk⟩
theorem Shw.non : Shw 0 0 .none := ⟨by simp only [PyData.leavesShort], by simp only [PyData.showable], by simp only [PyData.bulk]; exact Nat.le_refl _, by simp only [PyData.depth]; exact Nat.le_refl _⟩
theorem Shw.bl (b : Bool) : Shw 0 0 (.bool b) := ⟨by simp only [PyData.leavesShort], by simp only [PyData.showable], by simp only [PyData.bulk]; exact Nat.le_refl _, by simp only [PyData.depth]; exact Nat.le_refl _⟩
theorem Shw.int {i : Int} (h0 : 0 ≤ i) (h1 : i < 40) : Shw 0 0 (.int i) := ⟨by simp only [PyData.leavesShort]; exact decide_eq_true (int_short h0 h1), int_few h0 h1, by simp only [PyData.bulk]; exact Nat.le_refl _, by simp only [PyData.depth]; exact Nat.le_refl _⟩
theorem Shw.str {x : Str} {n : Nat} (h : ∀ c ∈ x.cps.toList, c < 16 ^ 8) (hn : x.cps.size ≤ n) : Shw n 0 (.str x) := ⟨by simp only [PyData.leavesShort]; rw [List.all_eq_true]; exact fun c hc => decide_eq_true (h c hc), by simp only [PyData.showable], by simp only [PyData.bulk]; exact hn, by simp only [PyData.depth]; exact Nat.le_refl _⟩
theorem shw_all {n k : Nat} : ∀ {ds : List PyData}, (∀ d ∈ ds, Shw n k d) → PyData.leavesShortAll 8 ds = true ∧ PyData.showableAll ds = true ∧ PyData.bulkAll ds ≤ ds.length * (n + 1) ∧ PyData.depthAll ds ≤ k
  | [], _ => ⟨by simp only [PyData.leavesShortAll], by simp only [PyData.showableAll], by simp only [PyData.bulkAll]; exact Nat.zero_le _, by simp only [PyData.depthAll]; exact Nat.zero_le _⟩
  | d :: ds, h => by
    obtain ⟨i1, i2, i3, i4⟩ := shw_all (ds := ds) fun e he => h e (List.mem_cons_of_mem _ he)
    obtain ⟨j1, j2, j3, j4⟩ := h d List.mem_cons_self
    refine ⟨?_, ?_, ?_, ?_⟩
    · simp only [PyData.leavesShortAll, i1, j1, Bool.and_self]
    · simp only [PyData.showableAll, i2, j2, Bool.and_self]
    · simp only [PyData.bulkAll, List.length_cons, Nat.succ_mul]
      omega
    · simp only [PyData.depthAll]
      omega
theorem Shw.list {n k m : Nat} {ds : List PyData} (h : ∀ d ∈ ds, Shw n k d) (hm : ds.length ≤ m) : Shw (m * (n + 1)) (k + 1) (.list ds) := by
  obtain ⟨i1, i2, i3, i4⟩ := shw_all h
  have := Nat.mul_le_mul_right (n + 1) hm
  exact ⟨by simp only [PyData.leavesShort]; exact i1, by simp only [PyData.showable]; exact i2, by simp only [PyData.bulk]; omega, by simp only [PyData.depth]; omega⟩
theorem Shw.tup {n k m : Nat} {ds : List PyData} (h : ∀ d ∈ ds, Shw n k d) (hm : ds.length ≤ m) : Shw (m * (n + 1)) (k + 1) (.tuple ds) := by
  obtain ⟨i1, i2, i3, i4⟩ := shw_all h
  have := Nat.mul_le_mul_right (n + 1) hm
  exact ⟨by simp only [PyData.leavesShort]; exact i1, by simp only [PyData.showable]; exact i2, by simp only [PyData.bulk]; omega, by simp only [PyData.depth]; omega⟩
theorem shw_kv {n k : Nat} : ∀ {kvs : List (PyData × PyData)}, (∀ p ∈ kvs, Shw n k p.1 ∧ Shw n k p.2) → PyData.leavesShortKv 8 kvs = true ∧ PyData.showableKv kvs = true ∧ PyData.bulkKv kvs ≤ kvs.length * (2 * n + 2) ∧ PyData.depthKv kvs ≤ k
  | [], _ => ⟨by simp only [PyData.leavesShortKv], by simp only [PyData.showableKv], by simp only [PyData.bulkKv]; exact Nat.zero_le _, by simp only [PyData.depthKv]; exact Nat.zero_le _⟩
  | (a, b) :: kvs, h => by
    obtain ⟨i1, i2, i3, i4⟩ := shw_kv (kvs := kvs) fun e he => h e (List.mem_cons_of_mem _ he)
    obtain ⟨⟨j1, j2, j3, j4⟩, ⟨l1, l2, l3, l4⟩⟩ := h (a, b) List.mem_cons_self
    refine ⟨?_, ?_, ?_, ?_⟩
    · simp only [PyData.leavesShortKv, i1, j1, l1, Bool.and_self]
    · simp only [PyData.showableKv, i2, j2, l2, Bool.and_self]
    · simp only [PyData.bulkKv, List.length_cons]
      rw [Nat.succ_mul (kvs.length)]
      simp only at j3 l3
      omega
    · simp only [PyData.depthKv]
      simp only at j4 l4
      omega
theorem Shw.dict {n k m : Nat} {kvs : List (PyData × PyData)} (h : ∀ p ∈ kvs, Shw n k p.1 ∧ Shw n k p.2) (hm : kvs.length ≤ m) : Shw (m * (2 * n + 2)) (k + 1) (.dict kvs) := by
  obtain ⟨i1, i2, i3, i4⟩ := shw_kv h
  have := Nat.mul_le_mul_right (2 * n + 2) hm
  exact ⟨by simp only [PyData.leavesShort]; exact i1, by simp only [PyData.showable]; exact i2, by simp only [PyData.bulk]; omega, by simp only [PyData.depth]; omega⟩
theorem Shw.len {n k : Nat} {d : PyData} (h : Shw n k d) : d.shown.length ≤ 10 * n + 8 := by
  have b := PyData.shown_le_bulk 8 (Nat.le_refl _) d h.ls
  have := h.bk
  omega
theorem noDicts : ∀ {ds : List PyData}, (∀ d ∈ ds, d.hasDict = false) → PyData.hasDictAll ds = false
  | [], _ => by simp only [PyData.hasDictAll]
  | d :: ds, h => by simp only [PyData.hasDictAll, h d List.mem_cons_self, noDicts (ds := ds) fun e he => h e (List.mem_cons_of_mem _ he), Bool.or_self]
end SR

set_option maxRecDepth 100000
set_option maxHeartbeats 4000000
namespace SR
open PySem PySem.Spec PyProof.Rows L2
theorem u66 {k : Nat} {A : Around} (r : Room k A) : A.units + 66 < cLine := by have := r.un; omega
/-! ### data in which lists stand at the top alone; dicts may be within -/
mutual
inductive Dq (K : PySem.W.Frag) (H : Hp) : V → PyData → Prop
  | non : Dq K H .non .none
  | bl (b : Bool) : Dq K H (.bl b) (.bool b)
  | int (i : Int) : Dq K H (.int i) (.int i)
  | str (x : Str) : Dq K H (.str x) (.str x)
  | tup {a : Addr} {xs : List V} {ds : List PyData} : SqT K H a xs → DqAll K H xs ds → Dq K H (.ref a) (.tuple ds)
  | dic {a : Addr} {kvs : List (Key × V)} {ps : List (PyData × PyData)} : H a = some (.dK kvs) → DqKv K H kvs ps → Dq K H (.ref a) (.dict ps)
inductive DqAll (K : PySem.W.Frag) (H : Hp) : List V → List PyData → Prop
  | nil : DqAll K H [] []
  | cons {v : V} {vs : List V} {d : PyData} {ds : List PyData} : Dq K H v d → DqAll K H vs ds → DqAll K H (v :: vs) (d :: ds)
inductive DqKv (K : PySem.W.Frag) (H : Hp) : List (Key × V) → List (PyData × PyData) → Prop
  | nil : DqKv K H [] []
  | cons {k : Key} {v : V} {kvs : List (Key × V)} {d : PyData} {ps : List (PyData × PyData)} : Dq K H v d → DqKv K H kvs ps → DqKv K H ((k, v) :: kvs) ((keyD k, d) :: ps)
end
section
variable {X : Cx} {pins : List (Addr × Obj)} {σ : L2.St} {H : Hp} {s : Shared}
mutual
theorem Dq.rds (I : Inv X pins σ H s) : ∀ (d : PyData) (v : V) (u : Value), Dq X.K H v d → RelV v u → ∃ as, Reads s.heap u d as ∧ sysModules ∉ as
  | .none, _, _, h, r => by
    cases h; cases r
    exact ⟨_, .none, nofun⟩
  | .bool b, _, _, h, r => by
    cases h; cases r
    exact ⟨_, .bool b, nofun⟩
  | .int i, _, _, h, r => by
    cases h
    obtain ⟨t, rfl⟩ := r
    exact ⟨_, .int i t, nofun⟩
  | .str x, _, _, h, r => by
    cases h
    obtain ⟨t, rfl⟩ := r
    exact ⟨_, .str x t, nofun⟩
  | .list ds, _, _, h, _ => by cases h
  | .tuple ds, _, _, h, r => by
    cases h with
    | tup hs ha =>
      cases r
      obtain ⟨its, rv, ⟨o, e1, e2, n, e3⟩, _⟩ := I.tuple hs
      obtain ⟨as, q1, q2⟩ := DqAll.rds I ds _ its ha rv
      exact ⟨as, .tuple e1 e2 e3 q1, q2⟩
  | .dict ps, _, _, h, r => by
    cases h with
    | @dic a kvs _ hd hk =>
      cases r
      obtain ⟨_, ns, vs, rel, o, es, ep, ho, hx, hdat, _, hp, _⟩ := dk_of I.hok hd
      obtain ⟨⟨as, p1, n1⟩, ⟨bs, p2, n2⟩⟩ := DqKv.rds I ps kvs vs es.toList hk rel hp
      refine ⟨_, .dict ho hx.1 hdat p1 p2, fun hm => ?_⟩
      rcases List.mem_append.mp hm with z | z
      · rcases List.mem_cons.mp z with e | z
        · rw [← e] at ns
          simp at ns
        · exact n1 z
      · exact n2 z
theorem DqAll.rds (I : Inv X pins σ H s) : ∀ (ds : List PyData) (vs : List V) (us : List Value), DqAll X.K H vs ds → Vals vs us → ∃ as, ReadsAll s.heap us ds as ∧ sysModules ∉ as
  | [], _, _, h, r => by
    cases h; cases r
    exact ⟨_, .nil, nofun⟩
  | d :: ds, _, _, h, r => by
    cases h with
    | cons h1 h2 =>
      cases r with
      | cons r1 r2 =>
        obtain ⟨as, p1, n1⟩ := Dq.rds I d _ _ h1 r1
        obtain ⟨bs, p2, n2⟩ := DqAll.rds I ds _ _ h2 r2
        exact ⟨_, .cons p1 p2, fun hm => (List.mem_append.mp hm).elim n1 n2⟩
theorem DqKv.rds (I : Inv X pins σ H s) : ∀ (ps : List (PyData × PyData)) (kvs : List (Key × V)) (vs : List (Key × Value)) (es : List DictEntry), DqKv X.K H kvs ps → KV kvs vs → Pairs (mixKind X.prog X.w) es vs →
    (∃ as, ReadsAll s.heap (es.map (·.key)) (ps.map (·.1)) as ∧ sysModules ∉ as) ∧ ∃ bs, ReadsAll s.heap (es.map (·.val)) (ps.map (·.2)) bs ∧ sysModules ∉ bs
  | [], _, _, _, h, r, e => by
    cases h; cases r; cases e
    exact ⟨⟨[], .nil, nofun⟩, ⟨[], .nil, nofun⟩⟩
  | (a, d) :: ps, _, _, _, h, r, e => by
    cases h with
    | cons h1 h2 =>
      cases r with
      | cons ra rb =>
        cases e with
        | cons c1 c2 c3 =>
          obtain ⟨⟨as, p1, n1⟩, ⟨bs, p2, n2⟩⟩ := DqKv.rds I ps _ _ _ h2 rb c3
          obtain ⟨cs, p3, n3⟩ := Dq.rds I d _ _ h1 ra.2
          obtain ⟨ra1, ra2⟩ := ra
          have ra1' := ra1.symm
          dsimp only at ra1' ra2 c1 c2
          rw [ra1'] at c1
          rw [← c2] at p3
          exact ⟨⟨_, .cons (as := []) (key_reads c1) p1, n1⟩, ⟨_, .cons (as := cs) p3 p2, fun hm => (List.mem_append.mp hm).elim n3 n2⟩⟩
end
/-- the list repr's own call -/
theorem call_listQ (I : Inv X pins σ H s) {A : Around} {a : Addr} {xs : List V} {ds : List PyData} {Q : Value → Shared → Prop} {E : Value → Shared → Prop} (hl : SqL X.K H a xs) (hp : DqAll X.K H xs ds) (hs : PyData.showableAll ds = true) (hz : (PyData.shown (.list ds)).length ≤ sizeLine)
    (hg : A.guards = some []) (hu : A.units + (PyData.depthAll ds + 1) < cLine) (hQ : ∀ h' u tk, (∀ b o, s.heap.get? b = some o → h'.get? b = some o) → Q (.str (PyData.shown (.list ds)) u) { s with heap := h', toks := tk }) :
    s.TypeIs (.ref a) "list" ∧ wpAny (model X.prog X.w) A (call (.builtin "list.__repr__") [.ref a]) Q E s := by
  obtain ⟨its, rv, ⟨o, n, ho, hc, _, hdat⟩, _⟩ := I.list hl
  obtain ⟨as, hr, hno⟩ := DqAll.rds I ds xs its hp rv
  refine ⟨⟨o, ho, hc⟩, ?_⟩
  simp only [PyData.shown] at hz hQ
  rcases its with _ | ⟨x, its⟩
  · cases hr
    exact call_list_repr_empty ⟨o, ho, hc⟩ ho hdat (hQ s.heap _ _ fun _ _ e => e)
  · obtain ⟨bs, hb, hk⟩ := ReprAllK.of_readsAll (prog := X.prog) (w := X.w) hr hs (fun _ => hno) fun t ht => Nat.le_trans (listText_mem_le ht) hz
    have deep : a ∉ bs := not_mem_of_deeper (.list ho hc hdat (by simpa using hr)) (by simp only [PyData.depth]; omega) hb
    exact call_list_reprK ho hc hdat deep (by simpa using hk.length_eq) (fun i y e => hk.item i y (by simpa using e)) hg (fun b _ => Clear.nil b) hu (fun _ _ e => e) hQ hz
end
section
variable {X : Cx}
def rReprQ (K : PySem.W.Frag) : List V → Hp → VK → Prop := fun us H Q => ∃ a xs ds, us = [.ref a] ∧ SqL K H a xs ∧ DqAll K H xs ds ∧ PyData.showableAll ds = true ∧ PyData.depthAll ds ≤ 60 ∧ (PyData.shown (.list ds)).length ≤ sizeLine ∧ Q (.str (PyData.shown (.list ds))) H
theorem call_reprQ (hgd : X.A.guards = some []) (hu : X.A.units + 66 < cLine) : CallR X (.builtin "repr") (rReprQ X.K) := by
  intro pins s σ H xs us Q I r ⟨a, vs, ds, ex, hl, hp, hs, hdp, hz, q⟩
  subst ex
  obtain ⟨u, rfl, rx⟩ := vals1 r
  obtain rfl : u = Value.ref a := rx
  obtain ⟨ty, hc⟩ := call_listQ (A := X.A.in1) (E := X.xe) (Q := fun r s₁ => ∃ x t, r = .str x t ∧ EP X pins σ Q r s₁) I hl hp hs hz hgd (by show X.A.units + 1 + _ < cLine; omega) fun h' t tk k => ⟨_, _, rfl, .str (PyData.shown (.list ds)), H, I.kept (t' := tk) k, ⟨t, rfl⟩, q⟩
  exact call_repr_slot (by omega) ty PySem.F.slot_list_repr.toG hc
/-- {x!r} of such a list -/
def tFmtQ (K : PySem.W.Frag) (te : TE) : TE := fun σ H Q => te σ H fun x H1 => rReprQ K [x] H1 Q
theorem pe_fmtQ {e : Expr} {te : TE} {pos : Pos} (hgd : X.A.guards = some []) (hu : X.A.units + 66 < cLine) (he : PE X e te) : PE X (.FormattedValue e 114 none pos) (tFmtQ X.K te) := by
  refine ⟨fun pins s σ H Q I h => wpAny_FormattedValue_repr (thn (he.run pins s σ H _ I h) fun v s1 ⟨x, H1, I1, r1, a, vs, ds, ex, hl, hp, hs, hdp, hz, q⟩ => ?_)⟩
  obtain rfl : x = .ref a := by cases ex; rfl
  obtain rfl : v = Value.ref a := r1
  obtain ⟨ty, hc⟩ := call_listQ (A := X.A) (E := X.xe) (Q := fun r s₁ => ∃ x t, r = .str x t ∧ wpAny (model X.prog X.w) X.A (formatField r Str.empty) (EP X pins σ Q) X.xe s₁) I1 hl hp hs hz hgd (by omega) fun h' t tk k => ⟨_, _, rfl, wpAny_formatField_str ⟨.str (PyData.shown (.list ds)), H1, I1.kept (t' := tk) k, ⟨t, rfl⟩, q⟩ ⟨.str (PyData.shown (.list ds)), H1, (I1.kept (t' := tk) k).tok _, ⟨_, rfl⟩, q⟩ hz⟩
  exact wpAny_pyReprObj_slot (by omega) ty PySem.F.slot_list_repr.toG hc
end
/-! ### a def called by keywords alone -/
def tCallW (sp : Sp) (n : Nat) (gV : List V → List V → List V) (E : XK) (tk : TA) : TE := fun σ H Q => tk σ H fun zs H1 => zs.length = n ∧ sp (gV [] zs) H1 Q E
structure CalW (P : Program) (w : World) (K : PySem.W.Frag) (mg : Str → Option Value) (base : Heap) (x : Str) (k : Nat) (ks : List Str) (gV : List V → List V → List V) (sp : Sp) : Prop where
  ex : ∃ (f : Addr) (fd : FuncData) (ps : List Str) (g : List Value → List Value → List Value), FnOk P w K mg base CX0 k f fd ps sp ∧ mg x = some (.ref f) ∧ PySem.W.keepIn K (.ref f) = true ∧ KBn K fd ps 0 ks g gV
theorem pe_calW {X : Cx} {x : Str} {k : Nat} {ks : List Str} {gV : List V → List V → List V} {sp : Sp} {kws : List Keyword} {tk : TA} {p pos : Pos} (C : CalW X.prog X.w X.K X.mg X.base x k ks gV sp) (hr : Room k X.A) (hkw : PK X kws tk) (hg : Gl X x := by rfl) (hdb : (x == ("__debug__" : Str)) = false := by decide)
    (hall : (backToKw pos (keywordEach kws X.env)).all (·.1.isSome) = true := by rfl) (hks : (backToKw pos (keywordEach kws X.env)).filterMap (·.1) = ks := by rfl)
    (hpl : ((backTo pos (starEach [] X.env)).any (·.1) || (backToKw pos (keywordEach kws X.env)).any (·.1.isNone)) = false := by rfl) : PE X (.Call (.Name x p) [] kws pos) (tCallW sp ks.length gV E0 tk) := by
  obtain ⟨f, fd, ps, g, F, m, kp, hb⟩ := C.ex
  refine ⟨fun pins s σ H Q I h => wpAny_Call_Name_kw (ld_glob I hg m ?_ hdb)⟩
  refine PySem.W.callWith_KW0 (h₀ := X.base) I.ok.mod.kin kp hall (thn (hkw.run pos pins s σ H _ I h) fun ws s2 ⟨zs, H2, I2, rz, l2, q2⟩ => ⟨I2.kIn, ?_⟩) hpl
  rw [hks]
  refine wpAny_call (codeAny_mono (F.run X.A X.stack s2 H2 ⟨[] ++ [], ks.zip ws⟩ (g [] ws) (gV [] zs) Q E0 hr I2.env0 (hb.to _ [] ws I2.kIn rfl (rz.length.symm.trans l2)) (hb.rel .nil rz) q2) fun r s' hq => ?_)
  rcases r with e | fl
  · exact pass0 pins σ _ _ e s' I2 hq
  · cases fl with
    | ret u => exact I2.after hq
    | next => exact hq.elim
    | brk => exact hq.elim
    | cont => exact hq.elim
/-- two and three keywords, the other way round -/
def gW2 {α : Type} : List α → List α → List α
  | [], [b, a] => [a, b]
  | _, _ => []
def gW3 {α : Type} : List α → List α → List α
  | [], [c, b, a] => [a, b, c]
  | _, _ => []
theorem gW2_rel {vs zs : List V} {us ws : List Value} (r1 : Vals vs us) (r2 : Vals zs ws) : Vals (gW2 vs zs) (gW2 us ws) := by
  cases r1 with
  | cons _ _ => exact .nil
  | nil =>
    rcases r2 with _ | ⟨a, r2⟩
    · exact .nil
    · rcases r2 with _ | ⟨b, r2⟩
      · exact .nil
      · rcases r2 with _ | ⟨c, r2⟩
        · exact .cons b (.cons a .nil)
        · exact .nil
theorem gW3_rel {vs zs : List V} {us ws : List Value} (r1 : Vals vs us) (r2 : Vals zs ws) : Vals (gW3 vs zs) (gW3 us ws) := by
  cases r1 with
  | cons _ _ => exact .nil
  | nil =>
    rcases r2 with _ | ⟨a, r2⟩
    · exact .nil
    · rcases r2 with _ | ⟨b, r2⟩
      · exact .nil
      · rcases r2 with _ | ⟨c, r2⟩
        · exact .nil
        · rcases r2 with _ | ⟨d, r2⟩
          · exact .cons c (.cons b (.cons a .nil))
          · exact .nil
theorem Fun.kb2 {K : PySem.W.Frag} {x qual : Str} {st : Stmt} {f : Addr} {fd : FuncData} {ps ks : List Str} (F : Fun K x qual st f fd) (hk : ks.length = 2)
    (h : ∀ (kV doc pm : Value) (an : Option Addr) (cdv ct a b : Value), bindArgs (PySem.W.fnOf x qual (defArgs st) (defBody st) (defScope st) .none kV doc pm an cdv ct) ⟨[], ks.zip [b, a]⟩ = pure (ps.zip [a, b])) : KBn K fd ps 0 ks gW2 gW2 := by
  obtain ⟨oc, od, kV, doc, pm, an, cdv, ct, osl, rfl, lk, hcd⟩ := F.ex
  refine ⟨fun s us ws X l1 l2 => ?_, gW2_rel⟩
  rw [hk] at l2
  match us, l1, ws, l2 with
  | [], _, [b, a], _ => exact .of_eq (h kV doc pm an cdv ct a b)
theorem Fun.kb3 {K : PySem.W.Frag} {x qual : Str} {st : Stmt} {f : Addr} {fd : FuncData} {ps ks : List Str} (F : Fun K x qual st f fd) (hk : ks.length = 3)
    (h : ∀ (kV doc pm : Value) (an : Option Addr) (cdv ct a b c : Value), bindArgs (PySem.W.fnOf x qual (defArgs st) (defBody st) (defScope st) .none kV doc pm an cdv ct) ⟨[], ks.zip [c, b, a]⟩ = pure (ps.zip [a, b, c])) : KBn K fd ps 0 ks gW3 gW3 := by
  obtain ⟨oc, od, kV, doc, pm, an, cdv, ct, osl, rfl, lk, hcd⟩ := F.ex
  refine ⟨fun s us ws X l1 l2 => ?_, gW3_rel⟩
  rw [hk] at l2
  match us, l1, ws, l2 with
  | [], _, [c, b, a], _ => exact .of_eq (h kV doc pm an cdv ct a b c)
end SR

set_option maxRecDepth 100000
set_option maxHeartbeats 4000000
set_option pp.maxSteps 1500
namespace SS
open PySem L2 SR TL
def rowOf (rows : List Rw) (s : Int) : Rw := (rows[s.toNat]?).getD []
theorem rowOf_get {rows : List Rw} {s : Int} (s0 : 0 ≤ s) (s1 : s < (rows.length : Int)) : rows[s.toNat]? = some (rowOf rows s) := by
  unfold rowOf
  rw [List.getElem?_eq_getElem (by omega)]
  rfl
/-- (sign, goal, told) -/
def TriAt (H : Hp) (t : Addr) (e : Nat × Mv) : Prop := H t = some (.tup [ltV e.1, .int e.2.1, tellV e.2.2])
section
variable {P : Program} {w : World} {K : PySem.W.Frag} {mg : Str → Option Value} {base : Heap}
/-! ### Reader.start, ends -/
abbrev sSrt : Stmt := inClass (top 26) 3
abbrev psSelf : List Str := ["self"]
theorem scSrt : FnScope psSelf psSelf (defScope sSrt) := ⟨rfl, rfl, rfl, by decide +kernel, rfl, by decide +kernel, by decide +kernel⟩
def spStart (C : Addr) : Sp := fun vs H Q _ => ∃ (x : Addr) (rows : List Rw) (ends : List Int) (start : Int), vs = [.ref x] ∧ RdAt C H x rows ends start ∧ Q (.int start) H
theorem ok_start {f C : Addr} {fd : FuncData} (F : Fun K "start" "Reader.start" sSrt f fd) (T : RTx K mg C) : FnOk P w K mg base CX0 1 f fd psSelf (spStart C) := by
  refine F.ok scSrt (fun vs H Q E h => ?_) (fun cdv A outer s H vs Q E hr h => ?_)
  · obtain ⟨x, rows, ends, start, rfl, _⟩ := h
    rfl
  · obtain ⟨x, rows, ends, start, rfl, R, k⟩ := h
    refine ⟨_, pss_one (ps_ret (pe_fld (pv 0) rfl)), ?_⟩
    obtain ⟨dx, pr, pe, fs, qs, h1, h2, h3, h4, h5, h6, h7, h8⟩ := R.ex
    exact ⟨_, rfl, x, C, dx, _, _, rfl, h1, T.cl, T.nS, h4, k⟩
abbrev sEns : Stmt := inClass (top 26) 4
theorem scEns : FnScope psSelf psSelf (defScope sEns) := ⟨rfl, rfl, rfl, by decide +kernel, rfl, by decide +kernel, by decide +kernel⟩
def spEnds (C : Addr) : Sp := fun vs H Q _ => ∃ (x : Addr) (rows : List Rw) (ends : List Int) (start : Int), vs = [.ref x] ∧ RdAt C H x rows ends start ∧ ∀ pe, H pe = some (.tup (ends.map .int)) → Q (.ref pe) H
theorem ok_ends {f C : Addr} {fd : FuncData} (F : Fun K "ends" "Reader.ends" sEns f fd) (T : RTx K mg C) : FnOk P w K mg base CX0 1 f fd psSelf (spEnds C) := by
  refine F.ok scEns (fun vs H Q E h => ?_) (fun cdv A outer s H vs Q E hr h => ?_)
  · obtain ⟨x, rows, ends, start, rfl, _⟩ := h
    rfl
  · obtain ⟨x, rows, ends, start, rfl, R, k⟩ := h
    refine ⟨_, pss_one (ps_ret (pe_fld (pv 0) rfl)), ?_⟩
    obtain ⟨dx, pr, pe, fs, qs, h1, h2, h3, h4, h5, h6, h7, h8⟩ := R.ex
    exact ⟨_, rfl, x, C, dx, _, _, rfl, h1, T.cl, T.nE, h3, k pe h8⟩
/-! ### __len__, __contains__ (a state), require_state -/
abbrev sRLen : Stmt := inClass (top 26) 10
theorem scRLen : FnScope psSelf psSelf (defScope sRLen) := ⟨rfl, rfl, rfl, by decide +kernel, rfl, by decide +kernel, by decide +kernel⟩
def spRLen (C : Addr) : Sp := fun vs H Q _ => ∃ (x : Addr) (rows : List Rw) (ends : List Int) (start : Int), vs = [.ref x] ∧ RdAt C H x rows ends start ∧ Q (.int (rows.length : Nat)) H
theorem ok_rlen {f C : Addr} {fd : FuncData} (F : Fun K "__len__" "Reader.__len__" sRLen f fd) (B : Bl mg) (T : RTx K mg C) : FnOk P w K mg base CX0 1 f fd psSelf (spRLen C) := by
  refine F.ok scRLen (fun vs H Q E h => ?_) (fun cdv A outer s H vs Q E hr h => ?_)
  · obtain ⟨x, rows, ends, start, rfl, _⟩ := h
    rfl
  · obtain ⟨x, rows, ends, start, rfl, R, k⟩ := h
    refine ⟨_, pss_one (ps_ret (pe_callB call_len_seq (by rfl) B.len boot_len (pa_cons (pe_fld (pv 0) rfl) pa_nil))), ?_⟩
    obtain ⟨dx, pr, pe, fs, qs, h1, h2, h3, h4, h5, h6, h7, h8⟩ := R.ex
    refine ⟨_, rfl, x, C, dx, _, _, rfl, h1, T.cl, T.nR, h2, pr, _, rfl, .inr (SqT.of h6), ?_⟩
    rw [List.length_map, Paired.length h7]
    exact k
abbrev sRCon : Stmt := inClass (top 26) 11
abbrev psRCon : List Str := ["self", "value"]
theorem scRCon : FnScope psRCon psRCon (defScope sRCon) := ⟨rfl, rfl, rfl, by decide +kernel, rfl, by decide +kernel, by decide +kernel⟩
def spRCon (C : Addr) : Sp := fun vs H Q _ => ∃ (x : Addr) (q : Int) (rows : List Rw) (ends : List Int) (start : Int), vs = [.ref x, .int q] ∧ RdAt C H x rows ends start ∧ 0 ≤ q ∧ q < (rows.length : Int) ∧ Q (.bl true) H
theorem ok_rcon {f C : Addr} {fd : FuncData} (F : Fun K "__contains__" "Reader.__contains__" sRCon f fd) (B : Bl mg) (T : RTx K mg C) (N : Cal P w K mg base "is_below" 1 ["value", "limit"] spNum) : FnOk P w K mg base CX0 2 f fd psRCon (spRCon C) := by
  refine F.ok scRCon (fun vs H Q E h => ?_) (fun cdv A outer s H vs Q E hr h => ?_)
  · obtain ⟨x, q, rows, ends, start, rfl, _⟩ := h
    rfl
  · obtain ⟨x, q, rows, ends, start, rfl, R, q0, q1, k⟩ := h
    have hr1 := hr
    refine ⟨_, pss_one (ps_ret (pe_cal N hr1 (pa_cons (pv 1) (pa_cons (pe_callB call_len_seq (by rfl) B.len boot_len (pa_cons (pe_fld (pv 0) rfl) pa_nil)) pa_nil)))), ?_⟩
    obtain ⟨dx, pr, pe, fs, qs, h1, h2, h3, h4, h5, h6, h7, h8⟩ := R.ex
    refine ⟨_, rfl, _, rfl, x, C, dx, _, _, rfl, h1, T.cl, T.nR, h2, pr, _, rfl, .inr (SqT.of h6), _, _, rfl, q0, ?_, k⟩
    rw [List.length_map, Paired.length h7]
    exact q1
/-- the class's own len and in -/
structure RdO (P : Program) (w : World) (K : PySem.W.Frag) (mg : Str → Option Value) (base : Heap) (C : Addr) : Prop where
  tx : RTx K mg C
  len : ∃ f fd, FnOk P w K mg base CX0 1 f fd psSelf (spRLen C) ∧ PySem.W.findIn K (.ref C) "__len__" = some (some (.ref f)) ∧ PySem.W.isFn K (.ref f) = true ∧ Binds K fd psSelf []
  con : ∃ f fd, FnOk P w K mg base CX0 2 f fd psRCon (spRCon C) ∧ PySem.W.findIn K (.ref C) "__contains__" = some (some (.ref f)) ∧ PySem.W.isFn K (.ref f) = true ∧ Binds K fd psRCon []
abbrev sRqs : Stmt := top 27
abbrev psRqs : List Str := ["reader", "value"]
theorem scRqs : FnScope psRqs psRqs (defScope sRqs) := ⟨rfl, rfl, rfl, by decide +kernel, rfl, by decide +kernel, by decide +kernel⟩
def spRqs (C : Addr) : Sp := fun vs H Q _ => ∃ (x : Addr) (q : Int) (rows : List Rw) (ends : List Int) (start : Int), vs = [.ref x, .int q] ∧ RdAt C H x rows ends start ∧ 0 ≤ q ∧ q < (rows.length : Int) ∧ Q .non H
theorem ok_rqs {f C : Addr} {fd : FuncData} (F : Fun K "require_state" "require_state" sRqs f fd) (R : RdO P w K mg base C) : FnOk P w K mg base CX0 3 f fd psRqs (spRqs C) := by
  obtain ⟨fc, dc, cF, cA, cI, cB⟩ := R.con
  refine F.ok scRqs (fun vs H Q E h => ?_) (fun cdv A outer s H vs Q E hr h => ?_)
  · obtain ⟨x, q, rows, ends, start, rfl, _⟩ := h
    rfl
  · obtain ⟨x, q, rows, ends, start, rfl, D, q0, q1, k⟩ := h
    refine ⟨_, pss_one (ps_if (pt_cmpR (op_notInOwn cF hr cA cI cB pass0) (pv 1) (pv 0) (by rfl)) (pss_one ps_never) pss_nil), ?_⟩
    obtain ⟨dx, pr, pe, fs, qs, h1, _⟩ := D.ex
    exact ⟨_, rfl, _, rfl, x, dx, fs, rfl, h1, x, q, rows, ends, start, rfl, D, q0, q1, _, rfl, _, rfl, iteF k⟩
/-! ### move -/
abbrev sMov : Stmt := inClass (top 26) 5
abbrev psMov : List Str := ["self", "state", "sign"]
theorem scMov : FnScope psMov psMov (defScope sMov) := ⟨rfl, rfl, rfl, by decide +kernel, rfl, by decide +kernel, by decide +kernel⟩
def spMov (C : Addr) : Sp := fun vs H Q _ => ∃ (x : Addr) (q : Int) (c : Nat) (rows : List Rw) (ends : List Int) (start : Int), vs = [.ref x, .int q, ltV c] ∧ RdAt C H x rows ends start ∧ 0 ≤ q ∧ q < (rows.length : Int) ∧
  (mvOf (rowOf rows q) c = none → Q .non H) ∧ ∀ m p, mvOf (rowOf rows q) c = some m → MvAt H p m → Q (.ref p) H
theorem ok_mov {f C : Addr} {fd : FuncData} (F : Fun K "move" "Reader.move" sMov f fd) (T : RTx K mg C) (Rs : Cal P w K mg base "require_state" 3 psRqs (spRqs C)) : FnOk P w K mg base CX0 4 f fd psMov (spMov C) := by
  refine F.ok scMov (fun vs H Q E h => ?_) (fun cdv A outer s H vs Q E hr h => ?_)
  · obtain ⟨x, q, c, rows, ends, start, rfl, _⟩ := h
    rfl
  · obtain ⟨x, q, c, rows, ends, start, rfl, D, q0, q1, kn, ks⟩ := h
    have hu := hu_of hr
    refine ⟨_, pss_cons (ps_expr (pe_cal Rs hr (pa_cons (pv 0) (pa_cons (pv 1) pa_nil))))
      (pss_one (ps_ret (pe_dget1 hu (pe_ix ix_tup (pe_fld (pv 0) rfl) (pv 1) (fun _ _ => rfl)) (pv 2) ⟨rfl, rfl, rfl, rfl⟩))), ?_⟩
    obtain ⟨dx, pr, pe, fs, qs, d1, d2, d3, d4, d5, d6, d7, d8⟩ := id D.ex
    obtain ⟨d, hd, hrow⟩ := paired_get _ d7 (rowOf_get q0 q1)
    obtain ⟨kvs, z1, z2⟩ := rw_iff.mp hrow
    refine ⟨_, rfl, _, rfl, x, q, rows, ends, start, rfl, D, q0, q1, ?_⟩
    refine ⟨_, rfl, x, C, dx, _, _, rfl, d1, T.cl, T.nR, d2, _, rfl, pr, _, _, .ref d, rfl, rfl, SqT.of d6, atI_of q0 (by rw [List.getElem?_map, hd]; rfl), d, rfl, .inl ⟨_, .inl z1⟩, _, rfl, _, DGet.k (k := Sum.inr (lt c)) z1, ?_⟩
    rcases ents_val (c := c) z2 with ⟨pm, m, v1, v2, v3⟩ | ⟨v1, v2, _⟩
    · rw [show valV kvs (Sum.inr (lt c)) = some (.ref pm) from v1]
      exact ks m pm v2 v3
    · rw [show valV kvs (Sum.inr (lt c)) = none from v1]
      exact kn v2
/-! ### moves -/
abbrev sMvs : Stmt := inClass (top 26) 6
abbrev nMvs : List Str := ["self", "state", "sign", "goal", "told"]
abbrev psMvs : List Str := ["self", "state"]
theorem scMvs : GScope nMvs psMvs (defScope sMvs) := ⟨rfl, rfl, rfl, by decide +kernel, rfl, by decide +kernel, by decide +kernel⟩
def spMvs (C : Addr) : SpG := fun vs H Q _ => ∃ (x : Addr) (q : Int) (rows : List Rw) (ends : List Int) (start : Int), vs = [.ref x, .int q] ∧ RdAt C H x rows ends start ∧ 0 ≤ q ∧ q < (rows.length : Int) ∧ (rowOf rows q).length ≤ 6 ∧
  ∀ (ts : List Addr) (H' : Hp), Same H H' → Paired (TriAt H') ts (rowOf rows q) → Q (ts.map .ref) H'
theorem ok_mvs {f C : Addr} {fd : FuncData} (F : Fun K "moves" "Reader.moves" sMvs f fd) (T : RTx K mg C) (Rs : Cal P w K mg base "require_state" 3 psRqs (spRqs C)) : GFn P w K mg base 4 f fd psMvs (spMvs C) := by
  refine F.gen scMvs (fun vs H Q E h => ?_) (fun cdv A outer s H vs Q E pn hr h => ?_)
  · obtain ⟨x, q, rows, ends, start, rfl, _⟩ := h
    rfl
  · obtain ⟨x, q, rows, ends, start, rfl, D, q0, q1, h6, k⟩ := h
    refine ⟨_, gss_cons (gs_ps (ps_expr (pe_cal Rs hr (pa_cons (pv 0) (pa_cons (pv 1) pa_nil)))))
      (gss_one (gs_lock (gs_for owns_gcx rfl (pi_items (pe_ix ix_tup (pe_fld (pv 0) rfl) (pv 1) (fun _ _ => rfl))) (pg_tup rfl (pgs_cons (pg_name (i := 2) scMvs.nd rfl (.inl rfl)) (pgs_cons (pg_tup rfl (pgs_cons (pg_name (i := 3) scMvs.nd rfl (.inl rfl)) (pgs_cons (pg_name (i := 4) scMvs.nd rfl (.inl rfl)) pgs_nil))) pgs_nil)))
        (gss_one (gs_yield (pe_tup (pa_cons (pv 2) (pa_cons (pv 3) (pa_cons (pv 4) pa_nil))))))))), ?_⟩
    obtain ⟨dx, pr, pe, fs, qs, d1, d2, d3, d4, d5, d6, d7, d8⟩ := id D.ex
    obtain ⟨d, hd, hrow⟩ := paired_get _ d7 (rowOf_get q0 q1)
    obtain ⟨kvs, z1, z2⟩ := rw_iff.mp hrow
    have hkl : kvs.length = (rowOf rows q).length := Paired.length z2
    refine ⟨_, rfl, _, rfl, x, q, rows, ends, start, rfl, D, q0, q1, ?_⟩
    refine ⟨d, _, z1, trivial, fun od => ?_⟩
    refine ⟨_, rfl, x, C, dx, _, _, rfl, lock_get z1 d1 (by intro z; cases z), T.cl, T.nR, d2, _, rfl, pr, _, _, .ref d, rfl, rfl, SqT.of (lock_get z1 d6 (by intro z; cases z)), atI_of q0 (by rw [List.getElem?_map, hd]; rfl), d, od, kvs, rfl, upd_same, ?_⟩
    refine gfor_it (walk_items (d := d) (o := od) (kvs := kvs)) (fun n ys σ HL => Same (upd H d (.frz od (.dK kvs))) HL ∧ ∃ (ts : List Addr) (a2 a3 a4 : Option V), σ = [some (.ref x), some (.int q), a2, a3, a4] ∧ ys = ts.map .ref ∧ Paired (TriAt HL) ts ((rowOf rows q).take n)) ?_ (fun n ys σ HL _ p => p.1 _ _ upd_same) ?_ ?_
    · exact ⟨Same.refl _, [], none, none, none, rfl, rfl, .nil⟩
    · rintro n v ys σ H3 H3' hn ⟨e3, ts, a2, a3, a4, rfl, rfl, hts⟩ ⟨T2, u, y, rfl, hT, rfl, ex, ey⟩
      obtain ⟨e, he⟩ : ∃ e, (rowOf rows q)[n]? = some e := ⟨_, List.getElem?_eq_getElem (by omega)⟩
      have ekv : kvs[n]? = some kvs[n] := List.getElem?_eq_getElem hn
      have hkk : kvs[n]? = some ((kvs[n]).1, (kvs[n]).2) := ekv
      obtain ⟨p1, p2, p3, p4⟩ := paired_at z2 hkk he
      dsimp only at ex ey
      rw [ekv] at ex ey
      have ex' : u = kV (Sum.inr (lt e.1)) := by
        have := (Option.some.inj ex).symm
        rw [this]
        exact congrArg kV p1
      have ey' : y = .ref p2 := by
        have := (Option.some.inj ey).symm
        rw [this]
        exact p3
      subst ex' ey'
      have e4 : Same H3 (upd H3 T2 (.tup [kV (Sum.inr (lt e.1)), .ref p2])) := same_new hT
      have m2 : MvAt H3 p2 e.2 := e3 _ _ (by unfold MvAt at p4; exact lock_get z1 p4 (by intro z; cases z))
      refine ⟨T2, _, rfl, SqT.of upd_same, rfl, _, _, rfl, _, _, rfl, ⟨p2, _, rfl, SqT.of (e4 _ _ m2), rfl, _, _, rfl, _, _, rfl, rfl, rfl, ?_⟩⟩
      have htl := Paired.length hts
      rw [List.length_take] at htl
      refine ⟨by rw [List.length_map, sizeLine_eq]; omega, _, rfl, _, rfl, _, rfl, (by show 3 ≤ sizeLine; decide), fun t ht => ?_⟩
      have e5 := e4.trans (same_new (o := .tup [ltV e.1, .int e.2.1, tellV e.2.2]) ht)
      refine ⟨e3.trans e5, ts ++ [t], _, _, _, rfl, by simp, ?_⟩
      rw [List.take_add_one, he]
      exact paired_snoc (Paired.mono hts fun a b g => e5 _ _ g) upd_same
    · rintro ys σ H3 ⟨e3, ts, a2, a3, a4, rfl, rfl, hts⟩
      rw [hkl, List.take_length] at hts
      have hq1 : H3 d = some (.frz od (.dK kvs)) := e3 _ _ upd_same
      exact ⟨hq1, k ts _ (lock_same z1 e3) (Paired.mono hts fun a b g => by
        show (upd H3 d (.dK kvs)) a = _
        rw [upd_ne (fun z => by rw [TriAt, z, hq1] at g; cases g)]
        exact g)⟩
end
end SS

/-! Reach by edges among the numbers below n. -/
namespace ZA
open Classical
/-- steps of an edge relation -/
inductive Star (E : Int → Int → Prop) : Int → Int → Prop
  | refl (s) : Star E s s
  | step {s t u} : Star E s t → E t u → Star E s u
theorem Star.trans {E : Int → Int → Prop} {s t u : Int} (a : Star E s t) (b : Star E t u) : Star E s u := by
  induction b with
  | refl => exact a
  | step _ e ih => exact ih.step e
theorem Star.mono {E F : Int → Int → Prop} {s t : Int} (h : ∀ a b, E a b → F a b) (a : Star E s t) : Star F s t := by
  induction a with
  | refl => exact .refl _
  | step _ e ih => exact ih.step (h _ _ e)
/-- the numbers below n with P, in order -/
noncomputable def those (n : Nat) (P : Int → Prop) : List Int := ((List.range n).map fun k : Nat => (k : Int)).filter fun t => decide (P t)
theorem mem_those {n : Nat} {P : Int → Prop} {t : Int} : t ∈ those n P ↔ (0 ≤ t ∧ t < (n : Int)) ∧ P t := by
  unfold those
  rw [List.mem_filter, decide_eq_true_iff]
  refine and_congr ?_ Iff.rfl
  rw [List.mem_map]
  constructor
  · rintro ⟨k, hk, rfl⟩
    have := List.mem_range.mp hk
    omega
  · rintro ⟨h0, h1⟩
    exact ⟨t.toNat, List.mem_range.mpr (by omega), by omega⟩
theorem those_asc (n : Nat) (P : Int → Prop) : (those n P).Pairwise (· < ·) := by
  unfold those
  refine List.Pairwise.filter _ ?_
  rw [List.pairwise_map]
  exact List.pairwise_lt_range.imp fun h => by omega
theorem asc_uniq {l l' : List Int} (h : l.Pairwise (· < ·)) (h' : l'.Pairwise (· < ·)) (m : ∀ t, t ∈ l ↔ t ∈ l') : l = l' := by
  have n1 : l.Nodup := h.imp fun h e => by omega
  have n2 : l'.Nodup := h'.imp fun h e => by omega
  exact List.Perm.eq_of_pairwise (le := (· < ·)) (fun a b _ _ h1 h2 => by omega) h h' ((List.perm_ext_iff_of_nodup n1 n2).mpr m)
theorem asc_of {l : List Int} (h : l.Pairwise (· ≤ ·)) (nd : l.Nodup) : l.Pairwise (· < ·) := by
  induction l with
  | nil => exact .nil
  | cons a l ih =>
    obtain ⟨h1, h2⟩ := List.pairwise_cons.mp h
    obtain ⟨d1, d2⟩ := List.nodup_cons.mp nd
    refine List.pairwise_cons.mpr ⟨fun b hb => ?_, ih h2 d2⟩
    have := h1 b hb
    have : a ≠ b := fun e => d1 (e ▸ hb)
    omega
theorem those_uniq {n : Nat} {P : Int → Prop} {l : List Int} (h : l.Pairwise (· < ·)) (m : ∀ t, t ∈ l ↔ (0 ≤ t ∧ t < (n : Int)) ∧ P t) : l = those n P :=
  asc_uniq h (those_asc n P) fun t => (m t).trans mem_those.symm
theorem those_congr {n : Nat} {P R : Int → Prop} (h : ∀ t, 0 ≤ t → t < (n : Int) → (P t ↔ R t)) : those n P = those n R :=
  asc_uniq (those_asc n P) (those_asc n R) fun t => by
    rw [mem_those, mem_those]
    exact and_congr_right fun ⟨h0, h1⟩ => h t h0 h1
theorem those_len (n : Nat) (P : Int → Prop) : (those n P).length ≤ n := by
  unfold those
  refine Nat.le_trans (List.length_filter_le _ _) ?_
  rw [List.length_map, List.length_range]
  exact Nat.le_refl _
/-- where at most k steps lead from S -/
def Within (E : Int → Int → Prop) (S : Int → Prop) : Nat → Int → Prop
  | 0, t => S t
  | k + 1, t => Within E S k t ∨ ∃ s, Within E S k s ∧ E s t
theorem Within.star {E : Int → Int → Prop} {S : Int → Prop} : ∀ {k : Nat} {t : Int}, Within E S k t → ∃ s, S s ∧ Star E s t
  | 0, t, h => ⟨t, h, .refl t⟩
  | k + 1, t, h => by
    rcases h with h | ⟨s, h, e⟩
    · exact Within.star h
    · obtain ⟨a, h1, h2⟩ := Within.star h
      exact ⟨a, h1, h2.step e⟩
theorem Within.le {E : Int → Int → Prop} {S : Int → Prop} {k : Nat} {t : Int} (h : Within E S k t) : ∀ {m : Nat}, k ≤ m → Within E S m t := by
  intro m hm
  induction m with
  | zero => have : k = 0 := by omega
            subst this; exact h
  | succ m ih =>
    by_cases e : k = m + 1
    · subst e; exact h
    · exact .inl (ih (by omega))
theorem within_of_star {E : Int → Int → Prop} {S : Int → Prop} {s t : Int} (hs : S s) (h : Star E s t) : ∃ k, Within E S k t := by
  induction h with
  | refl => exact ⟨0, hs⟩
  | step _ e ih =>
    obtain ⟨k, hk⟩ := ih
    exact ⟨k + 1, .inr ⟨_, hk, e⟩⟩
/-- once nothing is new, nothing will be -/
theorem still {E : Int → Int → Prop} {S : Int → Prop} {k : Nat} (h : ∀ t, Within E S (k + 1) t → Within E S k t) : ∀ m t, Within E S m t → Within E S k t := by
  intro m
  induction m with
  | zero => exact fun t z => Within.le (k := 0) z (Nat.zero_le _)
  | succ m ih =>
    rintro t (z | ⟨s, z, e⟩)
    · exact ih t z
    · exact h t (.inr ⟨s, ih s z, e⟩)
theorem within_all {E : Int → Int → Prop} {S : Int → Prop} {n : Nat} (hS : ∀ t, S t → 0 ≤ t ∧ t < (n : Int)) (hE : ∀ s t, 0 ≤ s → s < (n : Int) → E s t → 0 ≤ t ∧ t < (n : Int)) : ∀ k t, Within E S k t → 0 ≤ t ∧ t < (n : Int) := by
  intro k
  induction k with
  | zero => exact hS
  | succ k ih =>
    rintro t (z | ⟨s, z, e⟩)
    · exact ih t z
    · exact hE s t (ih s z).1 (ih s z).2 e
/-- n steps are enough among n numbers -/
theorem within_n {E : Int → Int → Prop} {S : Int → Prop} {n : Nat} (hS : ∀ t, S t → 0 ≤ t ∧ t < (n : Int)) (hE : ∀ s t, 0 ≤ s → s < (n : Int) → E s t → 0 ≤ t ∧ t < (n : Int)) {t : Int} (h : ∃ s, S s ∧ Star E s t) : Within E S n t := by
  obtain ⟨s, h1, h2⟩ := h
  obtain ⟨m, hm⟩ := within_of_star h1 h2
  by_cases hst : ∃ k, k ≤ n ∧ ∀ t, Within E S (k + 1) t → Within E S k t
  · obtain ⟨k, hk, hs⟩ := hst
    exact Within.le (still hs m t hm) hk
  · exfalso
    -- every turn finds one more
    have grow : ∀ k, k ≤ n + 1 → k ≤ (those n (Within E S k)).length := by
      intro k
      induction k with
      | zero => exact fun _ => Nat.zero_le _
      | succ k ih =>
        intro hk
        have h1 := ih (by omega)
        have hn : ¬ ∀ t, Within E S (k + 1) t → Within E S k t := fun z => hst ⟨k, by omega, z⟩
        obtain ⟨u, hu⟩ := not_forall.mp hn
        obtain ⟨hu1, hu2⟩ := Classical.not_imp.mp hu
        have rg := within_all hS hE _ _ hu1
        have sub : ∀ x ∈ u :: those n (Within E S k), x ∈ those n (Within E S (k + 1)) := fun x hx => by
          rcases List.mem_cons.mp hx with rfl | hx
          · exact mem_those.mpr ⟨rg, hu1⟩
          · obtain ⟨a, b⟩ := mem_those.mp hx
            exact mem_those.mpr ⟨a, .inl b⟩
        have nd : (u :: those n (Within E S k)).Nodup := List.nodup_cons.mpr ⟨fun z => hu2 (mem_those.mp z).2, (those_asc _ _).imp fun h e => by omega⟩
        have len : ∀ (l D : List Int), l.Nodup → (∀ x ∈ l, x ∈ D) → l.length ≤ D.length := by
          intro l
          induction l with
          | nil => exact fun _ _ _ => Nat.zero_le _
          | cons x l ih =>
            intro D nd h
            obtain ⟨n1, n2⟩ := List.nodup_cons.mp nd
            have hx := h x List.mem_cons_self
            have := ih (D.erase x) n2 fun y hy => (List.mem_erase_of_ne (fun (e : y = x) => n1 (e ▸ hy))).mpr (h y (List.mem_cons_of_mem _ hy))
            rw [List.length_erase_of_mem hx] at this
            have hpos : 0 < D.length := List.length_pos_of_mem hx
            show l.length + 1 ≤ D.length
            omega
        have := len _ _ nd sub
        rw [List.length_cons] at this
        omega
    have := grow (n + 1) (Nat.le_refl _)
    have := those_len n (Within E S (n + 1))
    omega
theorem within_iff {E : Int → Int → Prop} {S : Int → Prop} {n : Nat} (hS : ∀ t, S t → 0 ≤ t ∧ t < (n : Int)) (hE : ∀ s t, 0 ≤ s → s < (n : Int) → E s t → 0 ≤ t ∧ t < (n : Int)) {t : Int} : Within E S n t ↔ ∃ s, S s ∧ Star E s t := ⟨Within.star, within_n hS hE⟩
end ZA

set_option maxRecDepth 100000
set_option maxHeartbeats 4000000
set_option pp.maxSteps 1500
namespace SS
open PySem L2 SR TL ZA
/-! ### silent moves -/
def rowAt (rows : List Rw) (s : Int) : Rw := (rows[s.toNat]?).getD []
def SilE (rows : List Rw) (s t : Int) : Prop := ∃ e ∈ rowAt rows s, e.2.1 = t ∧ e.2.2 = none
def TellE (rows : List Rw) (x : List Nat) (s t : Int) : Prop := ∃ e ∈ rowAt rows s, e.2.1 = t ∧ e.2.2 = some x
/-- the states behind silent words from those of S -/
noncomputable def silL (rows : List Rw) (S : List Int) : List Int := those rows.length fun t => ∃ s ∈ S, Star (SilE rows) s t
/-- the goals of the moves of some states that tell x -/
def goalsL (rows : List Rw) (S : List Int) (x : List Nat) : List Int := S.flatMap fun s => (rowAt rows s).filterMap fun e => if e.2.2 = some x then some e.2.1 else none
noncomputable def stpL (rows : List Rw) (S : List Int) (x : List Nat) : List Int := silL rows (goalsL rows S x)
noncomputable def lastL (rows : List Rw) (s : Int) (w : List (List Nat)) : List Int := w.foldl (stpL rows) (silL rows [s])
/-- moves lead to states -/
def Good (rows : List Rw) : Prop := ∀ row ∈ rows, ∀ e ∈ row, 0 ≤ e.2.1 ∧ e.2.1 < (rows.length : Int)
theorem WfR.good {cs ts : List Nat} {ms : List (List Nat)} {rows : List Rw} {ends : List Int} {start : Int} (W : WfR cs ts ms rows ends start) : Good rows := W.goal
theorem rowAt_mem {rows : List Rw} {s : Int} {e : Nat × Mv} (h : e ∈ rowAt rows s) : rowAt rows s ∈ rows := by
  unfold rowAt at h ⊢
  cases z : rows[s.toNat]? with
  | none => rw [z] at h; cases h
  | some row => exact List.mem_of_getElem? z
theorem rowAt_get {rows : List Rw} {s : Int} (s0 : 0 ≤ s) (s1 : s < (rows.length : Int)) : rows[s.toNat]? = some (rowAt rows s) := by
  unfold rowAt
  rw [List.getElem?_eq_getElem (by omega)]
  rfl
theorem Good.rg {rows : List Rw} (g : Good rows) {s t : Int} (h : SilE rows s t) : 0 ≤ t ∧ t < (rows.length : Int) := by
  obtain ⟨e, he, rfl, _⟩ := h
  exact g _ (rowAt_mem he) e he
theorem Good.rgT {rows : List Rw} (g : Good rows) {x : List Nat} {s t : Int} (h : TellE rows x s t) : 0 ≤ t ∧ t < (rows.length : Int) := by
  obtain ⟨e, he, rfl, _⟩ := h
  exact g _ (rowAt_mem he) e he
theorem mem_goalsL {rows : List Rw} {S : List Int} {x : List Nat} {t : Int} : t ∈ goalsL rows S x ↔ ∃ s ∈ S, TellE rows x s t := by
  unfold goalsL TellE
  rw [List.mem_flatMap]
  refine exists_congr fun s => and_congr_right fun _ => ?_
  rw [List.mem_filterMap]
  refine exists_congr fun e => and_congr_right fun _ => ?_
  by_cases h : e.2.2 = some x
  · rw [if_pos h]
    exact ⟨fun z => ⟨Option.some.inj z, h⟩, fun z => by rw [z.1]⟩
  · rw [if_neg h]
    exact ⟨fun z => (nomatch z), fun z => (h z.2).elim⟩
theorem star_rg {rows : List Rw} (g : Good rows) {s t : Int} (h : Star (SilE rows) s t) (h0 : 0 ≤ s ∧ s < (rows.length : Int)) : 0 ≤ t ∧ t < (rows.length : Int) := by
  cases h with
  | refl => exact h0
  | step _ e => exact g.rg e
theorem mem_silL {rows : List Rw} (g : Good rows) {S : List Int} (hS : ∀ s ∈ S, 0 ≤ s ∧ s < (rows.length : Int)) {t : Int} : t ∈ silL rows S ↔ ∃ s ∈ S, Star (SilE rows) s t := by
  unfold silL
  rw [mem_those]
  exact ⟨fun h => h.2, fun h => ⟨by obtain ⟨s, h1, h2⟩ := h; exact star_rg g h2 (hS s h1), h⟩⟩
theorem silL_rg {rows : List Rw} {S : List Int} {t : Int} (h : t ∈ silL rows S) : 0 ≤ t ∧ t < (rows.length : Int) := (mem_those.mp h).1
theorem silL_nd (rows : List Rw) (S : List Int) : (silL rows S).Nodup := (those_asc _ _).imp fun h e => by omega
theorem silL_len (rows : List Rw) (S : List Int) : (silL rows S).length ≤ rows.length := those_len _ _
theorem silL_congr {rows : List Rw} {S S' : List Int} (h : ∀ t, t ∈ S ↔ t ∈ S') : silL rows S = silL rows S' := those_congr fun t _ _ => exists_congr fun s => and_congr_left fun _ => h s
theorem stpL_congr {rows : List Rw} {S S' : List Int} {x : List Nat} (h : ∀ t, t ∈ S ↔ t ∈ S') : stpL rows S x = stpL rows S' x := silL_congr fun t => by
  rw [mem_goalsL, mem_goalsL]
  exact exists_congr fun s => and_congr_left fun _ => h s
theorem goalsL_rg {rows : List Rw} (g : Good rows) {S : List Int} {x : List Nat} {t : Int} (h : t ∈ goalsL rows S x) : 0 ≤ t ∧ t < (rows.length : Int) := by
  obtain ⟨s, _, h⟩ := mem_goalsL.mp h
  exact g.rgT h
/-! the same of the sorted rows -/
theorem rowAt_sort {rows : List Rw} {s : Int} {e : Nat × Mv} : e ∈ rowAt (rows.map sortR) s ↔ e ∈ rowAt rows s := by
  unfold rowAt
  rw [List.getElem?_map]
  cases rows[s.toNat]? with
  | none => exact Iff.rfl
  | some row => exact (sortR_perm row).mem_iff
theorem silE_sort {rows : List Rw} : SilE (rows.map sortR) = SilE rows := by
  funext s t
  exact propext (exists_congr fun e => and_congr_left fun _ => rowAt_sort)
theorem tellE_sort {rows : List Rw} {x : List Nat} {s t : Int} : TellE (rows.map sortR) x s t ↔ TellE rows x s t := exists_congr fun e => and_congr_left fun _ => rowAt_sort
theorem silL_sort {rows : List Rw} {S : List Int} : silL (rows.map sortR) S = silL rows S := by
  unfold silL
  rw [silE_sort, List.length_map]
theorem stpL_sort {rows : List Rw} {S : List Int} {x : List Nat} : stpL (rows.map sortR) S x = stpL rows S x := by
  unfold stpL
  rw [silL_sort]
  refine silL_congr fun t => ?_
  rw [mem_goalsL, mem_goalsL]
  exact exists_congr fun s => and_congr_right fun _ => tellE_sort
theorem lastL_sort {rows : List Rw} {s : Int} {w : List (List Nat)} : lastL (rows.map sortR) s w = lastL rows s w := by
  unfold lastL
  rw [silL_sort]
  congr 1
  funext S x
  exact stpL_sort
theorem Good.sort {rows : List Rw} (g : Good rows) : Good (rows.map sortR) := by
  intro row hr e he
  obtain ⟨r, h1, rfl⟩ := List.mem_map.mp hr
  rw [List.length_map]
  exact g r h1 e ((sortR_perm r).mem_iff.mp he)
theorem rows_few {rows : List Rw} {n : Nat} (h : ∀ row ∈ rows, row.length ≤ n) : ∀ row ∈ rows.map sortR, row.length ≤ n := by
  intro row hr
  obtain ⟨r, h1, rfl⟩ := List.mem_map.mp hr
  rw [(sortR_perm r).length_eq]
  exact h r h1
/-! ### the search from left to right -/
structure Wk (rows : List Rw) (S : List Int) (k n : Nat) (fd : List Int) : Prop where
  sub : ∀ s ∈ S, s ∈ fd
  nd : fd.Nodup
  rg : ∀ q ∈ fd, 0 ≤ q ∧ q < (rows.length : Int)
  rc : ∀ t ∈ fd, ∃ s ∈ S, Star (SilE rows) s t
  cl : ∀ i q, i < k → fd[i]? = some q → ∀ t, SilE rows q t → t ∈ fd
  cj : ∀ q, fd[k]? = some q → ∀ e ∈ (rowAt rows q).take n, e.2.2 = none → e.2.1 ∈ fd
theorem Wk.start {rows : List Rw} {S : List Int} (nd : S.Nodup) (rg : ∀ q ∈ S, 0 ≤ q ∧ q < (rows.length : Int)) : Wk rows S 0 0 S :=
  ⟨fun _ h => h, nd, rg, fun t h => ⟨t, h, .refl t⟩, fun i q h => by omega, fun q _ e he => by rw [List.take_zero] at he; cases he⟩
theorem Wk.skip {rows : List Rw} {S fd : List Int} {k n : Nat} {q : Int} {e : Nat × Mv} (h : Wk rows S k n fd) (hq : fd[k]? = some q) (he : (rowAt rows q)[n]? = some e) (hm : e.2.2 = none → e.2.1 ∈ fd) : Wk rows S k (n + 1) fd := by
  refine ⟨h.sub, h.nd, h.rg, h.rc, h.cl, fun q' hq' e' he' => ?_⟩
  rw [hq] at hq'
  cases hq'
  rw [List.take_add_one, he] at he'
  rcases List.mem_append.mp he' with z | z
  · exact h.cj q hq e' z
  · have : e' = e := by simpa using z
    rw [this]; exact hm
theorem Wk.add {rows : List Rw} {S fd : List Int} {k n : Nat} {q : Int} {e : Nat × Mv} (g : Good rows) (h : Wk rows S k n fd) (hq : fd[k]? = some q) (he : (rowAt rows q)[n]? = some e) (h2 : e.2.2 = none) (hm : e.2.1 ∉ fd) : Wk rows S k (n + 1) (fd ++ [e.2.1]) := by
  have hlt : k < fd.length := (List.getElem?_eq_some_iff.mp hq).1
  have ed : SilE rows q e.2.1 := ⟨e, List.mem_of_getElem? he, rfl, h2⟩
  refine ⟨fun s hs => List.mem_append_left _ (h.sub s hs), ?_, fun t ht => ?_, fun t ht => ?_, fun i p hi hp t ht => ?_, fun p hp e' he' hn => ?_⟩
  · rw [List.nodup_append]
    refine ⟨h.nd, List.pairwise_singleton _ _, fun a ha b hb => ?_⟩
    rw [List.mem_singleton.mp hb]
    exact fun z => hm (z ▸ ha)
  · rcases List.mem_append.mp ht with z | z
    · exact h.rg t z
    · rw [List.mem_singleton.mp z]; exact g.rg ed
  · rcases List.mem_append.mp ht with z | z
    · exact h.rc t z
    · rw [List.mem_singleton.mp z]
      obtain ⟨s, h1, h3⟩ := h.rc q (List.mem_of_getElem? hq)
      exact ⟨s, h1, h3.step ed⟩
  · rw [List.getElem?_append_left (by omega)] at hp
    exact List.mem_append_left _ (h.cl i p hi hp t ht)
  · rw [List.getElem?_append_left hlt, hq] at hp
    cases hp
    rw [List.take_add_one, he] at he'
    rcases List.mem_append.mp he' with z | z
    · exact List.mem_append_left _ (h.cj q hq e' z hn)
    · have : e' = e := by simpa using z
      rw [this]; exact List.mem_append_right _ (by simp)
theorem Wk.next {rows : List Rw} {S fd : List Int} {k : Nat} {q : Int} (hq : fd[k]? = some q) (h : Wk rows S k (rowAt rows q).length fd) : Wk rows S (k + 1) 0 fd := by
  refine ⟨h.sub, h.nd, h.rg, h.rc, fun i p hi hp t ht => ?_, fun p _ e he => by rw [List.take_zero] at he; cases he⟩
  by_cases z : i = k
  · subst z
    rw [hq] at hp
    cases hp
    obtain ⟨e, he, rfl, h2⟩ := ht
    exact h.cj q hq e (by rw [List.take_length]; exact he) h2
  · exact h.cl i p (by omega) hp t ht
theorem Wk.done {rows : List Rw} {S fd : List Int} {k : Nat} (g : Good rows) (h : Wk rows S k 0 fd) (hl : fd.length ≤ k) : sortI fd = silL rows S := by
  refine those_uniq (asc_of (sortI_ord fd) ((sortI_perm fd).nodup_iff.mpr h.nd)) fun t => ?_
  rw [(sortI_perm fd).mem_iff]
  constructor
  · exact fun ht => ⟨h.rg t ht, h.rc t ht⟩
  · rintro ⟨z, s, hs, st⟩
    clear z
    induction st with
    | refl => exact h.sub _ hs
    | @step t u st e ih =>
      have hm := ih
      obtain ⟨i, hi⟩ := List.mem_iff_getElem?.mp hm
      exact h.cl i t (by have := (List.getElem?_eq_some_iff.mp hi).1; omega) hi u e
/-- a number less the counter in slot j -/
def muAt (m j : Nat) : L2.St → Hp → Nat := fun σ _ => match σ[j]? with
  | some (some (.int i)) => m - i.toNat
  | _ => 0
section
variable {P : Program} {w : World} {K : PySem.W.Frag} {mg : Str → Option Value} {base : Heap}
/-! ### require_states, require_word -/
abbrev sRqz : Stmt := top 28
abbrev nRqz : List Str := ["reader", "value"]
abbrev psRqz : List Str := ["reader", "value"]
theorem scRqz : FnScope nRqz psRqz (defScope sRqz) := ⟨rfl, rfl, rfl, by decide +kernel, rfl, by decide +kernel, by decide +kernel⟩
def spRqz (C : Addr) : Sp := fun vs H Q _ => ∃ (x a : Addr) (S : List Int) (rows : List Rw) (ends : List Int) (start : Int), vs = [.ref x, .ref a] ∧ RdAt C H x rows ends start ∧ rows.length ≤ 12 ∧ S.Nodup ∧ (∀ s ∈ S, 0 ≤ s ∧ s < (rows.length : Int)) ∧ LoT H a (S.map .int) ∧ ∀ H', Same H H' → Q .non H'
theorem ok_rqz {f C : Addr} {fd : FuncData} (F : Fun K "require_states" "require_states" sRqz f fd) (B : Bl mg) (R : RdO P w K mg base C) (Sa : Cal P w K mg base "are_different" 2 ["value", "limit"] (spSta K)) : FnOk P w K mg base CX0 3 f fd psRqz (spRqz C) := by
  obtain ⟨fc, dc, cF, cA, cI, cB⟩ := R.len
  refine F.ok scRqz (fun vs H Q E h => ?_) (fun cdv A outer s H vs Q E hr h => ?_)
  · obtain ⟨x, a, S, rows, ends, start, rfl, _⟩ := h
    rfl
  · obtain ⟨x, a, S, rows, ends, start, rfl, D, h12, nd, rg, hS, k⟩ := h
    refine ⟨_, pss_one (ps_if (pt_not (pt_val (pe_cal Sa hr (pa_cons (pv 1) (pa_cons (pe_callB (call_ownLenN cF hr cA cI cB) (by rfl) B.len boot_len (pa_cons (pv 0) pa_nil)) pa_nil))))) (pss_one ps_never) pss_nil), ?_⟩
    obtain ⟨dx, pr, pe, fs, qs, h1, _⟩ := D.ex
    refine ⟨_, rfl, _, rfl, x, dx, fs, rfl, h1, x, rows, ends, start, rfl, D, _, rfl, by omega, by omega, ?_⟩
    have := nodup_len _ _ nd rg
    exact ⟨a, _, S, rfl, by omega, nd, rg, .inl hS, fun H' e => ⟨_, rfl, iteF (k _ e)⟩⟩
abbrev sRqw : Stmt := top 29
abbrev nRqw : List Str := ["value"]
abbrev psRqw : List Str := ["value"]
theorem scRqw : FnScope nRqw psRqw (defScope sRqw) := ⟨rfl, rfl, rfl, by decide +kernel, rfl, by decide +kernel, by decide +kernel⟩
def spRqw : Sp := fun vs H Q _ => ∃ (x : List Nat), vs = [txtV x] ∧ Lets x ∧ x.length ≤ 1000 ∧ ∀ H', Same H H' → Q .non H'
theorem ok_rqw {f : Addr} {fd : FuncData} (F : Fun K "require_word" "require_word" sRqw f fd) (Wd : Cal P w K mg base "is_word" 1 ["value"] spWord) : FnOk P w K mg base CX0 2 f fd psRqw spRqw := by
  refine F.ok scRqw (fun vs H Q E h => ?_) (fun cdv A outer s H vs Q E hr h => ?_)
  · obtain ⟨x, rfl, _⟩ := h
    rfl
  · obtain ⟨x, rfl, hx, hl, k⟩ := h
    refine ⟨_, pss_one (ps_if (pt_not (pt_val (pe_cal Wd hr (pa_cons (pv 0) pa_nil))))
        (pss_one ps_never) pss_nil), ?_⟩
    refine ⟨_, rfl, _, rfl, .inr ⟨x, rfl, hl, fun b H1 hb e => ?_⟩⟩
    obtain rfl : b = true := hb.mpr hx
    exact ⟨_, rfl, iteF (k _ e)⟩
/-! ### silent_of -/
abbrev sSil : Stmt := top 31
abbrev nSil : List Str := ["reader", "states", "found", "at", "goal", "told"]
abbrev psSil : List Str := ["reader", "states"]
theorem scSil : FnScope nSil psSil (defScope sSil) := ⟨rfl, rfl, rfl, by decide +kernel, rfl, by decide +kernel, by decide +kernel⟩
def spSil (C : Addr) : Sp := fun vs H Q _ => ∃ (x a : Addr) (S : List Int) (rows : List Rw) (ends : List Int) (start : Int), vs = [.ref x, .ref a] ∧ RdAt C H x rows ends start ∧ rows.length ≤ 12 ∧ Good rows ∧ S.Nodup ∧ (∀ s ∈ S, 0 ≤ s ∧ s < (rows.length : Int)) ∧ LoT H a (S.map .int) ∧
  ∀ (p : Addr) (H' : Hp), H p = none → Same H H' → H' p = some (.tup ((silL rows S).map .int)) → Q (.ref p) H'
theorem ok_sil {f C : Addr} {fd : FuncData} (F : Fun K "silent_of" "silent_of" sSil f fd) (B : Bl mg) (T : RTx K mg C) : FnOk P w K mg base CX0 1 f fd psSil (spSil C) := by
  refine F.ok scSil (fun vs H Q E h => ?_) (fun cdv A outer s H vs Q E hr h => ?_)
  · obtain ⟨x, a, S, rows, ends, start, rfl, _⟩ := h
    rfl
  · obtain ⟨x, a, S, rows, ends, start, rfl, D, h12, G, nd, rg, hS, k⟩ := h
    refine ⟨_, pss_cons (ps_set (i := 2) scSil.nd rfl (.inl rfl) (pe_callTy call_list_of (by rfl) B.list (by decide +kernel) (pa_cons (pv 1) pa_nil)))
      (pss_cons (ps_set (i := 3) scSil.nd rfl (.inl rfl) pe_int)
      (pss_cons (ps_while PassesOwn.never (pt_cmpR op_lt (pv 3) (pe_callB call_len_seq (by rfl) B.len boot_len (pa_cons (pv 2) pa_nil)) (nomark _))
        (pss_cons (ps_lock (ps_for PassesOwn.never rfl (pi_values (pe_ix ix_tup (pe_fld (pv 0) rfl) (pe_ix ix_list (pv 2) (pv 3) (fun _ _ => rfl)) (fun _ _ => rfl))) (pg_tup rfl (pgs_cons (pg_name (i := 4) scSil.nd rfl (.inl rfl)) (pgs_cons (pg_name (i := 5) scSil.nd rfl (.inl rfl)) pgs_nil)))
        (pss_one (ps_if (PW.pt (pw_and (pt_cmpR op_isN (pv 5) pe_non (nomark _)) (pw_and1 (pt_cmpR op_notIn_seq (pv 4) (pv 2) (by rfl)))))
        (pss_one (ps_expr (pe_bm PySem.F.plainAttrs_list PySem.F.slot_list_append PySem.F.type_list_append mt_append (pv 2) (pa_cons (pv 4) pa_nil)))) pss_nil))))
      (pss_one (ps_aug (i := 3) scSil.nd rfl (.inl rfl) pe_int ip_add))))
      (pss_one (ps_ret (pe_callTy call_tuple_of (by rfl) B.tuple (by decide +kernel) (pa_cons (pe_callB cr_sorted (by rfl) B.sorted (by decide +kernel) (pa_cons (pv 2) pa_nil)) pa_nil)))))), ?_⟩
    refine ⟨_, rfl, a, _, rfl, hS.seq, fun l hl => ?_⟩
    refine while_by (fun σ H' => Same H H' ∧ ∃ (fd : List Int) (n : Nat) (a4 a5 : Option V), σ = [some (.ref x), some (.ref a), some (.ref l), some (.int (n : Nat)), a4, a5] ∧ H' l = some (.lst (fd.map .int)) ∧ Wk rows S n 0 fd) (muAt rows.length 3) ?_ ?_ ?_
    · exact ⟨same_new hl, S, 0, none, none, rfl, upd_same, Wk.start nd rg⟩
    · rintro σ H1 ⟨e1, fd, n, a4, a5, rfl, h1, R⟩
      refine ⟨_, rfl, _, rfl, l, _, rfl, .inl (SqL.of h1), _, _, rfl, rfl, _, rfl, ?_⟩
      rw [List.length_map]
      have hlen : fd.length ≤ rows.length := nodup_len _ _ R.nd R.rg
      refine ite2 (fun hlt => ?_) (fun hge => ?_)
      · have hlt : n < fd.length := by have := of_decide_eq_true hlt; omega
        obtain ⟨q, hq⟩ : ∃ q, fd[n]? = some q := ⟨_, List.getElem?_eq_getElem hlt⟩
        obtain ⟨q0, q1⟩ := R.rg q (List.mem_of_getElem? hq)
        obtain ⟨dx, pr, pe, fs, qs, d1, d2, d3, d4, d5, d6, d7, d8⟩ := (D.mono e1).ex
        obtain ⟨d, hd, hrow⟩ := paired_get _ d7 (rowAt_get q0 q1)
        obtain ⟨kvs, k1, k2⟩ := rw_iff.mp hrow
        refine vals_for k1 k2 (fun od R' hR' => ?_) (fun b => b = d ∨ b = l) (.inl rfl) (fun p xs hp z => ?_) (fun m σ' HL => ∃ (fd : List Int) (a4 a5 : Option V), σ' = [some (.ref x), some (.ref a), some (.ref l), some (.int (n : Nat)), a4, a5] ∧ HL l = some (.lst (fd.map .int)) ∧ Wk rows S n m fd ∧ fd[n]? = some q) (fun od => ?_) ?_ ?_
        · exact ⟨_, rfl, x, C, dx, fs, _, rfl, lock_get k1 d1 (by intro z; cases z), T.cl, T.nR, d2, _, rfl, _, rfl, l, _, _, .int q, rfl, rfl, SqL.of (lock_get k1 h1 (by intro z; cases z)), atI_nat (by rw [List.getElem?_map, hq]; rfl), pr, _, _, .ref d, rfl, rfl, SqT.of (lock_get k1 d6 (by intro z; cases z)), atI_of q0 (by rw [List.getElem?_map, hd]; rfl), hR'⟩
        · rcases z with rfl | rfl
          · rw [k1] at hp; cases hp
          · rw [h1] at hp; cases hp
        · exact ⟨fd, a4, a5, rfl, lock_get k1 h1 (by intro z; cases z), R, hq⟩
        · rintro od m e σ' HL he e2 hz ⟨fd, b4, b5, rfl, hl2, R2, hq2⟩
          have hlen2 : fd.length ≤ rows.length := nodup_len _ _ R2.nd R2.rg
          refine ⟨_, rfl, rfl, _, rfl, ?_⟩
          rw [tell_non]
          cases ho : e.2.2 with
          | some z => exact iteF ⟨e2, hz, fd, _, _, rfl, hl2, R2.skip hq2 he (fun z => by rw [ho] at z; cases z), hq2⟩
          | none =>
            refine iteT ⟨_, rfl, _, rfl, l, _, rfl, .inl (SqL.of hl2), rfl, flat_ints _, _, rfl, ?_⟩
            rw [inV_ints]
            by_cases hm : e.2.1 ∈ fd
            · rw [decide_eq_true hm]
              exact iteF ⟨e2, hz, fd, _, _, rfl, hl2, R2.skip hq2 he (fun _ => hm), hq2⟩
            · rw [decide_eq_false hm]
              have nlq : d ≠ l := fun z => by rw [z, hl2] at hz; cases hz
              refine iteT ⟨_, rfl, .inl ⟨rfl, _, SqL.of hl2⟩, _, rfl, l, _, _, rfl, rfl, hl2, (by rw [List.length_map, sizeLine_eq]; omega), ?_⟩
              refine ⟨e2.upd (.inr rfl), by rw [upd_ne nlq]; exact hz, fd ++ [e.2.1], _, _, rfl, by rw [upd_same, List.map_append]; rfl, R2.add G hq2 he ho hm, ?_⟩
              rw [List.getElem?_append_left (List.getElem?_eq_some_iff.mp hq2).1]
              exact hq2
        · rintro od σ' HL e2 hz ⟨fd, b4, b5, rfl, hl2, R2, hq2⟩
          have nlq : l ≠ d := fun z => by rw [← z, hl2] at hz; cases hz
          have hlt' : n < fd.length := (List.getElem?_eq_some_iff.mp hq2).1
          have hlen2 : fd.length ≤ rows.length := nodup_len _ _ R2.nd R2.rg
          refine ⟨_, rfl, _, _, rfl, rfl, ⟨e2.back e1 hl k1, fd, n + 1, b4, b5, rfl, by rw [upd_ne nlq]; exact hl2, R2.next hq2⟩, ?_⟩
          show rows.length - ((n : Int) + 1).toNat < rows.length - (n : Int).toNat
          omega
      · have hge' : fd.length ≤ n := by
          have h : ¬ ((n : Int) < (fd.length : Nat)) := fun z => hge (decide_eq_true z)
          omega
        have h64 : fd.length < 64 := by omega
        refine ⟨_, rfl, l, fd, rfl, SqL.of h1, h64, fun fd' p pm so hp => ⟨p, _, rfl, .inl ⟨SqL.of upd_same, fun pt hpt => ?_⟩⟩⟩
        rw [sortI_uniq pm so, R.done G hge'] at hpt ⊢
        exact k pt _ (e1.free ((same_new hp).free hpt)) ((e1.trans (same_new hp)).trans (same_new hpt)) upd_same
    · intro σ H Q Q' m h
      obtain ⟨v, h1, w, h2, p, ys, h3, h4, i, j, h5, h6, b, h7, q⟩ := h
      exact ⟨v, h1, w, h2, p, ys, h3, h4, i, j, h5, h6, b, h7, m _ _ q⟩
end
end SS

set_option maxRecDepth 100000
set_option maxHeartbeats 4000000
set_option pp.maxSteps 1500
namespace SS
open PySem L2 SR TL ZA
theorem tell_eq {o : Option (List Nat)} {x : List Nat} : decide (tellV o = txtV x) = decide (o = some x) := by
  cases o with
  | none => exact (decide_eq_false (by intro z; cases z)).trans (decide_eq_false (by intro z; cases z)).symm
  | some y =>
    refine decide_eq_decide.mpr ⟨fun h => ?_, fun h => by cases h; rfl⟩
    have : txt y = txt x := V.str.inj h
    rw [txt_inj this]
/-- the goals, each once, as they come -/
structure Gl (rows : List Rw) (S : List Int) (x : List Nat) (k n : Nat) (gs : List Int) : Prop where
  nd : gs.Nodup
  mem : ∀ t, t ∈ gs ↔ (∃ s ∈ S.take k, TellE rows x s t) ∨ ∃ s, S[k]? = some s ∧ ∃ e ∈ (rowAt rows s).take n, e.2.1 = t ∧ e.2.2 = some x
theorem Gl.start {rows : List Rw} {S : List Int} {x : List Nat} : Gl rows S x 0 0 [] := ⟨List.Pairwise.nil, fun t => ⟨fun h => (nomatch h), fun h => by
  rcases h with ⟨s, h, _⟩ | ⟨s, _, e, h, _⟩
  · rw [List.take_zero] at h; cases h
  · rw [List.take_zero] at h; cases h⟩⟩
theorem Gl.skip {rows : List Rw} {S : List Int} {x : List Nat} {k n : Nat} {gs : List Int} {s : Int} {e : Nat × Mv} (h : Gl rows S x k n gs) (hs : S[k]? = some s) (he : (rowAt rows s)[n]? = some e) (hm : e.2.2 = some x → e.2.1 ∈ gs) : Gl rows S x k (n + 1) gs := by
  refine ⟨h.nd, fun t => ⟨fun ht => ((h.mem t).mp ht).imp_right ?_, fun ht => ?_⟩⟩
  · rintro ⟨s', h1, e', h2, h3⟩
    refine ⟨s', h1, e', ?_, h3⟩
    rw [List.take_add_one]
    exact List.mem_append_left _ h2
  · rcases ht with ht | ⟨s', h1, e', h2, h3, h4⟩
    · exact (h.mem t).mpr (.inl ht)
    · rw [hs] at h1
      cases h1
      rw [List.take_add_one, he] at h2
      rcases List.mem_append.mp h2 with z | z
      · exact (h.mem t).mpr (.inr ⟨s, hs, e', z, h3, h4⟩)
      · have : e' = e := by simpa using z
        rw [this] at h3 h4
        rw [← h3]
        exact hm h4
theorem Gl.add {rows : List Rw} {S : List Int} {x : List Nat} {k n : Nat} {gs : List Int} {s : Int} {e : Nat × Mv} (h : Gl rows S x k n gs) (hs : S[k]? = some s) (he : (rowAt rows s)[n]? = some e) (h2 : e.2.2 = some x) (hm : e.2.1 ∉ gs) : Gl rows S x k (n + 1) (gs ++ [e.2.1]) := by
  refine ⟨?_, fun t => ?_⟩
  · rw [List.nodup_append]
    refine ⟨h.nd, List.pairwise_singleton _ _, fun a ha b hb => ?_⟩
    rw [List.mem_singleton.mp hb]
    exact fun z => hm (z ▸ ha)
  · rw [List.mem_append, h.mem, List.mem_singleton, or_assoc]
    refine or_congr Iff.rfl ⟨fun ht => ?_, fun ht => ?_⟩
    · rcases ht with ⟨s', h1, e', z1, z2⟩ | rfl
      · refine ⟨s', h1, e', ?_, z2⟩
        rw [List.take_add_one]
        exact List.mem_append_left _ z1
      · refine ⟨s, hs, e, ?_, rfl, h2⟩
        rw [List.take_add_one, he]
        exact List.mem_append_right _ (by simp)
    · obtain ⟨s', h1, e', z1, z2, z3⟩ := ht
      rw [hs] at h1
      cases h1
      rw [List.take_add_one, he] at z1
      rcases List.mem_append.mp z1 with z | z
      · exact .inl ⟨s, hs, e', z, z2, z3⟩
      · have : e' = e := by simpa using z
        rw [this] at z2
        exact .inr z2.symm
theorem Gl.next {rows : List Rw} {S : List Int} {x : List Nat} {k : Nat} {gs : List Int} {s : Int} (hs : S[k]? = some s) (h : Gl rows S x k (rowAt rows s).length gs) : Gl rows S x (k + 1) 0 gs := by
  refine ⟨h.nd, fun t => (h.mem t).trans ?_⟩
  have et : S.take (k + 1) = S.take k ++ [s] := by rw [List.take_add_one, hs]; rfl
  rw [et]
  constructor
  · rintro (⟨s', h1, h2⟩ | ⟨s', h1, e, h2, h3⟩)
    · exact .inl ⟨s', List.mem_append_left _ h1, h2⟩
    · rw [hs] at h1
      cases h1
      rw [List.take_length] at h2
      exact .inl ⟨s, List.mem_append_right _ (by simp), e, h2, h3⟩
  · rintro (⟨s', h1, h2⟩ | ⟨s', _, e, h2, _⟩)
    · rcases List.mem_append.mp h1 with z | z
      · exact .inl ⟨s', z, h2⟩
      · have : s' = s := by simpa using z
        rw [this] at h2
        obtain ⟨e, h2, h3⟩ := h2
        exact .inr ⟨s, hs, e, by rw [List.take_length]; exact h2, h3⟩
    · rw [List.take_zero] at h2; cases h2
theorem Gl.done {rows : List Rw} {S : List Int} {x : List Nat} {k : Nat} {gs : List Int} (h : Gl rows S x k 0 gs) (hk : S.length ≤ k) : ∀ t, t ∈ gs ↔ t ∈ goalsL rows S x := fun t => by
  rw [h.mem, mem_goalsL, List.take_of_length_le hk]
  constructor
  · rintro (z | ⟨s, _, e, z, _⟩)
    · exact z
    · rw [List.take_zero] at z; cases z
  · exact .inl
theorem Gl.rg {rows : List Rw} {S : List Int} {x : List Nat} {k n : Nat} {gs : List Int} (g : Good rows) (h : Gl rows S x k n gs) : ∀ t ∈ gs, 0 ≤ t ∧ t < (rows.length : Int) := fun t ht => by
  rcases (h.mem t).mp ht with ⟨s, _, z⟩ | ⟨s, _, e, z, z1, z2⟩
  · exact g.rgT z
  · exact g.rgT ⟨e, List.mem_of_mem_take z, z1, z2⟩
section
variable {P : Program} {w : World} {K : PySem.W.Frag} {mg : Str → Option Value} {base : Heap}
/-! ### step_of -/
abbrev sStp : Stmt := top 32
abbrev nStp : List Str := ["reader", "states", "thing", "goals", "state", "goal", "told"]
abbrev psStp : List Str := ["reader", "states", "thing"]
theorem scStp : FnScope nStp psStp (defScope sStp) := ⟨rfl, rfl, rfl, by decide +kernel, rfl, by decide +kernel, by decide +kernel⟩
def spStp (C : Addr) : Sp := fun vs H Q _ => ∃ (x a : Addr) (S : List Int) (th : List Nat) (rows : List Rw) (ends : List Int) (start : Int), vs = [.ref x, .ref a, txtV th] ∧ RdAt C H x rows ends start ∧ rows.length ≤ 12 ∧ Good rows ∧ S.Nodup ∧ (∀ s ∈ S, 0 ≤ s ∧ s < (rows.length : Int)) ∧ LoT H a (S.map .int) ∧
  ∀ (p : Addr) (H' : Hp), H p = none → Same H H' → H' p = some (.tup ((stpL rows S th).map .int)) → Q (.ref p) H'
theorem ok_stp {f C : Addr} {fd : FuncData} (F : Fun K "step_of" "step_of" sStp f fd) (B : Bl mg) (T : RTx K mg C) (Si : Cal P w K mg base "silent_of" 1 psSil (spSil C)) : FnOk P w K mg base CX0 2 f fd psStp (spStp C) := by
  refine F.ok scStp (fun vs H Q E h => ?_) (fun cdv A outer s H vs Q E hr h => ?_)
  · obtain ⟨x, a, S, th, rows, ends, start, rfl, _⟩ := h
    rfl
  · obtain ⟨x, a, S, th, rows, ends, start, rfl, D, h12, G, nd, rg, hS, k⟩ := h
    refine ⟨_, pss_cons (ps_set (i := 3) scStp.nd rfl (.inl rfl) (pe_lst pa_nil))
      (pss_cons (ps_for PassesOwn.never rfl (pi_loa (pv 1)) (pg_name (i := 4) scStp.nd rfl (.inl rfl))
        (pss_one (ps_lock (ps_for PassesOwn.never rfl (pi_values (pe_ix ix_tup (pe_fld (pv 0) rfl) (pv 4) (fun _ _ => rfl))) (pg_tup rfl (pgs_cons (pg_name (i := 5) scStp.nd rfl (.inl rfl)) (pgs_cons (pg_name (i := 6) scStp.nd rfl (.inl rfl)) pgs_nil)))
        (pss_one (ps_if (PW.pt (pw_and (pt_cmpR op_eq (pv 6) (pv 2) (nomark _)) (pw_and1 (pt_cmpR op_notIn_seq (pv 5) (pv 3) (by rfl)))))
        (pss_one (ps_expr (pe_bm PySem.F.plainAttrs_list PySem.F.slot_list_append PySem.F.type_list_append mt_append (pv 3) (pa_cons (pv 5) pa_nil)))) pss_nil))))))
      (pss_one (ps_ret (pe_cal Si (hr.mono (by decide)) (pa_cons (pv 0) (pa_cons (pv 3) pa_nil)))))), ?_⟩
    refine ⟨by show 0 ≤ sizeLine; decide, fun l hl => ?_⟩
    have hl1 : (upd H l (.lst [])) l = some (.lst []) := upd_same
    have eh : Same H (upd H l (.lst [])) := same_new hl
    refine ⟨_, rfl, a, _, rfl, hS.mono eh, fun J G' wk hG => for_it wk (fun i σ H' => Same H H' ∧ ∃ (gs : List Int) (a4 a5 a6 : Option V), σ = [some (.ref x), some (.ref a), some (txtV th), some (.ref l), a4, a5, a6] ∧ H' l = some (.lst (gs.map .int)) ∧ Gl rows S th i 0 gs) ?_ ?_ ?_ ?_⟩
    · exact ⟨eh, [], none, none, none, rfl, hl1, Gl.start⟩
    · rintro i σ H' _ ⟨e', gs, b4, b5, b6, rfl, _, _⟩
      refine hG H' ?_
      rcases hS with z | z <;> rw [eh _ _ z, e' _ _ z]
    · rintro i v σ H1 H1' hi ⟨e1, gs, b4, b5, b6, rfl, h1, R⟩ ⟨rfl, hv⟩
      rw [List.getElem?_map] at hv
      obtain ⟨q, hq, rfl⟩ := Option.map_eq_some_iff.mp hv
      obtain ⟨q0, q1⟩ := rg q (List.mem_of_getElem? hq)
      obtain ⟨dx, pr, pe, fs, qs, d1, d2, d3, d4, d5, d6, d7, d8⟩ := (D.mono e1).ex
      obtain ⟨d, hd, hrow⟩ := paired_get _ d7 (rowAt_get q0 q1)
      obtain ⟨kvs, k1, k2⟩ := rw_iff.mp hrow
      refine vals_for k1 k2 (fun od R' hR' => ?_) (fun b => b = d ∨ b = l) (.inl rfl) (fun p xs hp z => ?_) (fun m σ' HL => ∃ (gs : List Int) (a5 a6 : Option V), σ' = [some (.ref x), some (.ref a), some (txtV th), some (.ref l), some (.int q), a5, a6] ∧ HL l = some (.lst (gs.map .int)) ∧ Gl rows S th i m gs) (fun od => ?_) ?_ ?_
      · exact ⟨_, rfl, x, C, dx, fs, _, rfl, lock_get k1 d1 (by intro z; cases z), T.cl, T.nR, d2, _, rfl, pr, _, _, .ref d, rfl, rfl, SqT.of (lock_get k1 d6 (by intro z; cases z)), atI_of q0 (by rw [List.getElem?_map, hd]; rfl), hR'⟩
      · rcases z with rfl | rfl
        · rw [k1] at hp; cases hp
        · rw [h1] at hp; cases hp
      · exact ⟨gs, b5, b6, rfl, lock_get k1 h1 (by intro z; cases z), R⟩
      · rintro od m e σ' HL he e2 hz ⟨gs, c5, c6, rfl, hl2, R2⟩
        have hlen2 : gs.length ≤ rows.length := nodup_len _ _ R2.nd (R2.rg G)
        refine ⟨_, rfl, _, rfl, by cases e.2.2 <;> rfl, _, rfl, ?_⟩
        rw [tell_eq]
        by_cases ho : e.2.2 = some th
        · rw [decide_eq_true ho]
          refine iteT ⟨_, rfl, _, rfl, l, _, rfl, .inl (SqL.of hl2), rfl, flat_ints _, _, rfl, ?_⟩
          rw [inV_ints]
          by_cases hm : e.2.1 ∈ gs
          · rw [decide_eq_true hm]
            exact iteF ⟨e2, hz, gs, _, _, rfl, hl2, R2.skip hq he (fun _ => hm)⟩
          · rw [decide_eq_false hm]
            have nlq : d ≠ l := fun z => by rw [z, hl2] at hz; cases hz
            refine iteT ⟨_, rfl, .inl ⟨rfl, _, SqL.of hl2⟩, _, rfl, l, _, _, rfl, rfl, hl2, (by rw [List.length_map, sizeLine_eq]; omega), ?_⟩
            exact ⟨e2.upd (.inr rfl), by rw [upd_ne nlq]; exact hz, gs ++ [e.2.1], _, _, rfl, by rw [upd_same, List.map_append]; rfl, R2.add hq he ho hm⟩
        · rw [decide_eq_false ho]
          exact iteF ⟨e2, hz, gs, _, _, rfl, hl2, R2.skip hq he (fun z => (ho z).elim)⟩
      · rintro od σ' HL e2 hz ⟨gs, c5, c6, rfl, hl2, R2⟩
        have nlq : l ≠ d := fun z => by rw [← z, hl2] at hz; cases hz
        exact ⟨e2.back e1 hl k1, gs, _, c5, c6, rfl, by rw [upd_ne nlq]; exact hl2, R2.next hq⟩
    · rintro σ H1 ⟨e1, gs, b4, b5, b6, rfl, h1, R⟩
      have hk : S.length ≤ (S.map V.int).length := by rw [List.length_map]; exact Nat.le_refl _
      refine ⟨_, rfl, _, rfl, x, l, gs, rows, ends, start, rfl, D.mono e1, h12, G, R.nd, R.rg G, .inl h1, fun p H2 hp e2 h2 => k p H2 (e1.free hp) (e1.trans e2) ?_⟩
      rw [h2]
      unfold stpL
      rw [silL_congr (R.done hk)]
/-! ### last_of -/
abbrev sLst : Stmt := top 33
abbrev nLst : List Str := ["reader", "state", "row", "found", "thing"]
abbrev psLst : List Str := ["reader", "state", "row"]
theorem scLst : FnScope nLst psLst (defScope sLst) := ⟨rfl, rfl, rfl, by decide +kernel, rfl, by decide +kernel, by decide +kernel⟩
def spLst (C : Addr) : Sp := fun vs H Q _ => ∃ (x : Addr) (q : Int) (t : List Nat) (rows : List Rw) (ends : List Int) (start : Int), vs = [.ref x, .int q, txtV t] ∧ RdAt C H x rows ends start ∧ rows.length ≤ 12 ∧ Good rows ∧ 0 ≤ q ∧ q < (rows.length : Int) ∧ t.length ≤ 1000 ∧
  ∀ (p : Addr) (H' : Hp), H p = none → Same H H' → H' p = some (.tup ((lastL rows q (t.map fun c => [c])).map .int)) → Q (.ref p) H'
theorem lastL_snoc {rows : List Rw} {q : Int} {w : List (List Nat)} {x : List Nat} : lastL rows q (w ++ [x]) = stpL rows (lastL rows q w) x := by
  unfold lastL
  rw [List.foldl_append]
  rfl
theorem lastL_those (rows : List Rw) (q : Int) (w : List (List Nat)) : ∃ S, lastL rows q w = silL rows S := by
  rcases List.eq_nil_or_concat w with rfl | ⟨w', x, rfl⟩
  · exact ⟨_, rfl⟩
  · rw [List.concat_eq_append, lastL_snoc]
    exact ⟨_, rfl⟩
theorem lastL_nd (rows : List Rw) (q : Int) (w : List (List Nat)) : (lastL rows q w).Nodup := by
  obtain ⟨S, e⟩ := lastL_those rows q w
  rw [e]; exact silL_nd _ _
theorem lastL_rg {rows : List Rw} {q t : Int} {w : List (List Nat)} (h : t ∈ lastL rows q w) : 0 ≤ t ∧ t < (rows.length : Int) := by
  obtain ⟨S, e⟩ := lastL_those rows q w
  rw [e] at h
  exact silL_rg h
theorem ok_lst {f C : Addr} {fd : FuncData} (F : Fun K "last_of" "last_of" sLst f fd) (B : Bl mg) (Si : Cal P w K mg base "silent_of" 1 psSil (spSil C)) (St : Cal P w K mg base "step_of" 2 psStp (spStp C)) : FnOk P w K mg base CX0 3 f fd psLst (spLst C) := by
  refine F.ok scLst (fun vs H Q E h => ?_) (fun cdv A outer s H vs Q E hr h => ?_)
  · obtain ⟨x, q, t, rows, ends, start, rfl, _⟩ := h
    rfl
  · obtain ⟨x, q, t, rows, ends, start, rfl, D, h12, G, q0, q1, hl, k⟩ := h
    have hr1 := hr.mono (by decide : 1 ≤ 2)
    refine ⟨_, pss_cons (ps_set (i := 3) scLst.nd rfl (.inl rfl) (pe_cal Si hr1 (pa_cons (pv 0) (pa_cons (pe_tup (pa_cons (pv 1) pa_nil)) pa_nil))))
      (pss_cons (ps_for PassesOwn.never rfl (pi_str (pv 2)) (pg_name (i := 4) scLst.nd rfl (.inl rfl))
        (pss_one (ps_set (i := 3) scLst.nd rfl (.inl rfl) (pe_cal St hr (pa_cons (pv 0) (pa_cons (pv 3) (pa_cons (pv 4) pa_nil)))))))
      (pss_one (ps_ret (pv 3)))), ?_⟩
    refine ⟨_, rfl, _, rfl, by show 1 ≤ sizeLine; decide, fun T hT => ?_⟩
    have e0 : Same H (upd H T (.tup [.int q])) := same_new hT
    refine ⟨x, T, [q], rows, ends, start, rfl, D.mono e0, h12, G, List.pairwise_singleton _ _, fun s hs => ?_, .inr upd_same, fun p H1 hp e1 h1 => ?_⟩
    · rw [List.mem_singleton.mp hs]; exact ⟨q0, q1⟩
    have e01 := e0.trans e1
    have hpH : H p = none := e0.free hp
    have hz : (txt t).cps.size = t.length := by simp [txt]
    refine ⟨_, rfl, _, rfl, for_it walk_str (fun i σ H' => Same H H' ∧ ∃ (pf : Addr) (a4 : Option V), σ = [some (.ref x), some (.int q), some (txtV t), some (.ref pf), a4] ∧ H pf = none ∧ H' pf = some (.tup ((lastL rows q ((t.take i).map fun c => [c])).map .int))) ⟨e01, p, none, rfl, hpH, h1⟩ (fun _ _ _ _ _ => trivial) ?_ ?_⟩
    · rintro i v σ H2 H2' hi ⟨e2, pf, b4, rfl, hpf, h2⟩ ⟨rfl, c, hc, rfl⟩
      have hc' : t[i]? = some c := by simpa [txt] using hc
      refine ⟨_, rfl, _, rfl, _, rfl, x, pf, _, [c], rows, ends, start, rfl, D.mono e2, h12, G, lastL_nd _ _ _, fun s hs => lastL_rg hs, .inr h2, fun p3 H3 hp3 e3 h3 => ?_⟩
      refine ⟨e2.trans e3, p3, _, rfl, e2.free hp3, ?_⟩
      rw [h3, List.take_add_one, hc', List.map_append]
      show some (HO.tup _) = some (HO.tup ((lastL rows q (_ ++ [[c]])).map .int))
      rw [lastL_snoc]
    · rintro σ H2 ⟨e2, pf, b4, rfl, hpf, h2⟩
      rw [hz, List.take_length] at h2
      exact ⟨_, rfl, k pf H2 hpf e2 h2⟩
end
end SS

set_option maxRecDepth 100000
set_option maxHeartbeats 4000000
namespace SS
open PySem L2 SR TL
/-! ### all texts, by length and then in order -/
def kids (cs : List Nat) (x : List Nat) : List (List Nat) := cs.map fun c => x ++ [c]
def lay (cs : List Nat) : Nat → List (List Nat)
  | 0 => [[]]
  | n + 1 => (lay cs n).flatMap (kids cs)
def txs (cs : List Nat) : Nat → List (List Nat)
  | 0 => [[]]
  | n + 1 => txs cs n ++ lay cs (n + 1)
theorem txs_succ (cs : List Nat) : ∀ n, txs cs (n + 1) = [] :: (txs cs n).flatMap (kids cs)
  | 0 => by simp [txs, lay]
  | n + 1 => by
    show txs cs (n + 1) ++ (lay cs (n + 1)).flatMap (kids cs) = [] :: (txs cs n ++ lay cs (n + 1)).flatMap (kids cs)
    rw [txs_succ cs n, List.flatMap_append]
    rfl
theorem mem_lay {cs : List Nat} : ∀ {n : Nat} {x : List Nat}, x ∈ lay cs n ↔ (∀ c ∈ x, c ∈ cs) ∧ x.length = n
  | 0, x => by
    constructor
    · intro h
      have : x = [] := by simpa [lay] using h
      subst this
      exact ⟨fun c h => (nomatch h), rfl⟩
    · rintro ⟨_, h⟩
      have : x = [] := List.length_eq_zero_iff.mp h
      subst this
      simp [lay]
  | n + 1, x => by
    show x ∈ (lay cs n).flatMap (kids cs) ↔ _
    rw [List.mem_flatMap]
    constructor
    · rintro ⟨y, hy, hx⟩
      obtain ⟨c, hc, rfl⟩ := List.mem_map.mp hx
      obtain ⟨h1, h2⟩ := mem_lay.mp hy
      refine ⟨fun d hd => ?_, by simp [h2]⟩
      rcases List.mem_append.mp hd with z | z
      · exact h1 d z
      · rw [List.mem_singleton.mp z]; exact hc
    · rintro ⟨h1, h2⟩
      have hne : x ≠ [] := fun z => by rw [z] at h2; simp at h2
      refine ⟨x.dropLast, mem_lay.mpr ⟨fun c hc => h1 c ((List.dropLast_sublist x).subset hc), by rw [List.length_dropLast, h2]; rfl⟩, List.mem_map.mpr ⟨x.getLast hne, h1 _ (List.getLast_mem hne), List.dropLast_concat_getLast hne⟩⟩
theorem mem_txs {cs : List Nat} : ∀ {n : Nat} {x : List Nat}, x ∈ txs cs n ↔ (∀ c ∈ x, c ∈ cs) ∧ x.length ≤ n
  | 0, x => by
    show x ∈ lay cs 0 ↔ _
    rw [mem_lay, Nat.le_zero]
  | n + 1, x => by
    show x ∈ txs cs n ++ lay cs (n + 1) ↔ _
    rw [List.mem_append, mem_txs, mem_lay]
    constructor
    · rintro (⟨h1, h2⟩ | ⟨h1, h2⟩)
      · exact ⟨h1, by omega⟩
      · exact ⟨h1, by omega⟩
    · rintro ⟨h1, h2⟩
      by_cases h : x.length = n + 1
      · exact .inr ⟨h1, h⟩
      · exact .inl ⟨h1, by omega⟩
theorem txs_prefix (cs : List Nat) (n : Nat) : ∀ k, ∃ t, txs cs (n + k) = txs cs n ++ t
  | 0 => ⟨[], by simp⟩
  | k + 1 => by
    obtain ⟨t, e⟩ := txs_prefix cs n k
    exact ⟨t ++ lay cs (n + k + 1), by show txs cs (n + k) ++ lay cs (n + k + 1) = _; rw [e, List.append_assoc]⟩
theorem txs_filter (cs : List Nat) (n : Nat) : ∀ k, (txs cs (n + k)).filter (fun x => decide (x.length ≤ n)) = txs cs n
  | 0 => List.filter_eq_self.mpr fun x hx => decide_eq_true (mem_txs.mp hx).2
  | k + 1 => by
    show (txs cs (n + k) ++ lay cs (n + k + 1)).filter _ = _
    rw [List.filter_append, txs_filter cs n k]
    have : (lay cs (n + k + 1)).filter (fun x => decide (x.length ≤ n)) = [] := by
      rw [List.filter_eq_nil_iff]
      intro x hx h
      have := (mem_lay.mp hx).2
      have := of_decide_eq_true h
      omega
    rw [this, List.append_nil]
theorem len_lay (cs : List Nat) : ∀ n, (lay cs n).length = cs.length ^ n
  | 0 => rfl
  | n + 1 => by
    show ((lay cs n).flatMap (kids cs)).length = _
    rw [List.length_flatMap]
    have : (lay cs n).map (fun x => (kids cs x).length) = (lay cs n).map fun _ => cs.length := List.map_congr_left fun x _ => by simp [kids]
    rw [this, Nat.pow_succ, ← len_lay cs n]
    generalize lay cs n = l
    induction l with
    | nil => simp
    | cons a l ih => rw [List.map_cons, List.sum_cons, ih, List.length_cons, Nat.add_mul]; omega
theorem len_kids (cs : List Nat) : ∀ X : List (List Nat), (X.flatMap (kids cs)).length = X.length * cs.length
  | [] => by simp
  | x :: X => by
    rw [List.flatMap_cons, List.length_append, len_kids cs X, List.length_cons, Nat.add_mul]
    simp [kids]
    omega
theorem len_lay4 {cs : List Nat} (h : cs.length ≤ 4) (n : Nat) : (lay cs n).length ≤ 4 ^ n := by
  rw [len_lay]
  exact Nat.pow_le_pow_left h n
theorem len_txs4 {cs : List Nat} (h : cs.length ≤ 4) : ∀ n : Nat, (txs cs n).length ≤ 2 * 4 ^ n
  | 0 => by simp [txs]
  | n + 1 => by
    have h1 := len_lay4 h (n + 1)
    have h2 := len_txs4 h n
    have e : 4 ^ (n + 1) = 4 * 4 ^ n := by rw [Nat.pow_succ, Nat.mul_comm]
    show (txs cs n ++ lay cs (n + 1)).length ≤ _
    rw [List.length_append]
    omega
end SS

set_option maxRecDepth 100000
set_option maxHeartbeats 4000000
set_option pp.maxSteps 1500
namespace SS
open PySem L2 SR TL ZA
/-- the law's rows: a list of dicts -/
def RwsL (H : Hp) (a : Addr) (rows : List Rw) : Prop := ∃ qs : List Addr, H a = some (.lst (qs.map .ref)) ∧ Paired (RwAt H) qs rows
theorem RwsL.mono {H H' : Hp} {a : Addr} {rows : List Rw} (e : Same H H') (h : RwsL H a rows) : RwsL H' a rows := by
  obtain ⟨qs, h1, h2⟩ := h
  exact ⟨qs, e _ _ h1, Paired.mono h2 fun a b g => g.mono e⟩
theorem RwsL.get {H : Hp} {a : Addr} {rows : List Rw} {q : Int} (h : RwsL H a rows) (q0 : 0 ≤ q) (q1 : q < (rows.length : Int)) : ∃ (xs : List V) (d : Addr) (kvs : List (Key × V)), H a = some (.lst xs) ∧ atI xs q = some (.ref d) ∧ H d = some (.dK kvs) ∧ Paired (EntAt H) kvs (rowAt rows q) := by
  obtain ⟨qs, h1, h2⟩ := h
  obtain ⟨d, hd, hrow⟩ := paired_get _ h2 (rowAt_get q0 q1)
  obtain ⟨kvs, k1, k2⟩ := rw_iff.mp hrow
  exact ⟨_, d, kvs, h1, atI_of q0 (by rw [List.getElem?_map, hd]; rfl), k1, k2⟩
/-- a move told from rows -/
def mvAt (rows : List Rw) (s : Int) (c : Nat) : Option Mv := mvOf (rowAt rows s) c
theorem mvOf_mem {row : Rw} {c : Nat} {m : Mv} (h : mvOf row c = some m) : (c, m) ∈ row := by
  unfold mvOf at h
  obtain ⟨e, he, rfl⟩ := Option.map_eq_some_iff.mp h
  have h1 := List.find?_some he
  have h2 := List.mem_of_find?_eq_some he
  have : e.1 = c := of_decide_eq_true h1
  rw [← this]
  exact h2
/-- what a word tells, and where it leads -/
def stepM (rows : List Rw) (o : Option (List (List Nat) × Int)) (c : Nat) : Option (List (List Nat) × Int) := o.bind fun r => (mvAt rows r.2 c).map fun m => (r.1 ++ m.2.toList, m.1)
def runM (rows : List Rw) (s : Int) (w : List Nat) : Option (List (List Nat) × Int) := w.foldl (stepM rows) (some ([], s))
theorem runM_snoc {rows : List Rw} {s : Int} {w : List Nat} {c : Nat} : runM rows s (w ++ [c]) = stepM rows (runM rows s w) c := by
  unfold runM
  rw [List.foldl_append]
  rfl
theorem runM_none {rows : List Rw} {s : Int} {w v : List Nat} (h : runM rows s w = none) : runM rows s (w ++ v) = none := by
  unfold runM at h ⊢
  rw [List.foldl_append, h]
  induction v with
  | nil => rfl
  | cons c v ih => exact ih
theorem lastL_sil {rows : List Rw} (g : Good rows) {s t u : Int} (s0 : 0 ≤ s ∧ s < (rows.length : Int)) {f : List (List Nat)} (h : t ∈ lastL rows s f) (e : SilE rows t u) : u ∈ lastL rows s f := by
  obtain ⟨S, eS⟩ := lastL_those rows s f
  rw [eS] at h ⊢
  obtain ⟨h0, a, ha, st⟩ := mem_those.mp h
  exact mem_those.mpr ⟨g.rg e, a, ha, st.step e⟩
theorem lastL_tell {rows : List Rw} (g : Good rows) {s t u : Int} {x : List Nat} {f : List (List Nat)} (h : t ∈ lastL rows s f) (e : TellE rows x t u) : u ∈ lastL rows s (f ++ [x]) := by
  rw [lastL_snoc]
  unfold stpL silL
  exact mem_those.mpr ⟨g.rgT e, u, mem_goalsL.mpr ⟨t, h, e⟩, .refl u⟩
theorem run_last {rows : List Rw} (g : Good rows) {s : Int} (s0 : 0 ≤ s ∧ s < (rows.length : Int)) : ∀ (n : Nat) (w : List Nat), w.length = n → ∀ f t, runM rows s w = some (f, t) → t ∈ lastL rows s f := by
  intro n
  induction n with
  | zero =>
    intro w hw f t h
    have : w = [] := List.length_eq_zero_iff.mp hw
    subst this
    cases h
    exact mem_those.mpr ⟨s0, s, List.mem_singleton.mpr rfl, .refl s⟩
  | succ n ih =>
    intro w hw f t h
    rcases List.eq_nil_or_concat w with rfl | ⟨w', c, rfl⟩
    · cases hw
    · rw [List.concat_eq_append] at h hw
      rw [runM_snoc] at h
      have hl : w'.length = n := by simpa using hw
      cases hr : runM rows s w' with
      | none => rw [hr] at h; cases h
      | some r =>
        obtain ⟨f', t'⟩ := r
        rw [hr] at h
        have hi := ih w' hl f' t' hr
        have h' : (mvAt rows t' c).map (fun m => (f' ++ m.2.toList, m.1)) = some (f, t) := h
        obtain ⟨m, hm, em⟩ := Option.map_eq_some_iff.mp h'
        cases em
        have he := mvOf_mem hm
        cases ho : m.2 with
        | none =>
          rw [Option.toList_none, List.append_nil]
          exact lastL_sil g s0 hi ⟨_, he, rfl, ho⟩
        | some x => exact lastL_tell g hi ⟨_, he, rfl, ho⟩
theorem run_rg {rows : List Rw} (g : Good rows) {s : Int} (s0 : 0 ≤ s ∧ s < (rows.length : Int)) {w : List Nat} {f : List (List Nat)} {t : Int} (h : runM rows s w = some (f, t)) : 0 ≤ t ∧ t < (rows.length : Int) := lastL_rg (run_last g s0 _ w rfl f t h)
theorem run_len {rows : List Rw} {s : Int} : ∀ (n : Nat) (w : List Nat), w.length = n → ∀ f t, runM rows s w = some (f, t) → f.length ≤ w.length := by
  intro n
  induction n with
  | zero =>
    intro w hw f t h
    have : w = [] := List.length_eq_zero_iff.mp hw
    subst this
    cases h
    exact Nat.le_refl _
  | succ n ih =>
    intro w hw f t h
    rcases List.eq_nil_or_concat w with rfl | ⟨w', c, rfl⟩
    · cases hw
    · rw [List.concat_eq_append] at h hw ⊢
      rw [runM_snoc] at h
      have hl : w'.length = n := by simpa using hw
      cases hr : runM rows s w' with
      | none => rw [hr] at h; cases h
      | some r =>
        obtain ⟨f', t'⟩ := r
        rw [hr] at h
        have hi := ih w' hl f' t' hr
        have h' : (mvAt rows t' c).map (fun m => (f' ++ m.2.toList, m.1)) = some (f, t) := h
        obtain ⟨m, hm, em⟩ := Option.map_eq_some_iff.mp h'
        cases em
        rw [List.length_append, List.length_append]
        have : m.2.toList.length ≤ 1 := by cases m.2 <;> simp
        simp only [List.length_singleton]
        omega
/-- the things that are told are told by moves -/
theorem run_names {rows : List Rw} {s : Int} : ∀ (n : Nat) (w : List Nat), w.length = n → ∀ f t, runM rows s w = some (f, t) → ∀ x ∈ f, ∃ row ∈ rows, ∃ e ∈ row, e.2.2 = some x := by
  intro n
  induction n with
  | zero =>
    intro w hw f t h
    have : w = [] := List.length_eq_zero_iff.mp hw
    subst this
    cases h
    intro x hx
    cases hx
  | succ n ih =>
    intro w hw f t h
    rcases List.eq_nil_or_concat w with rfl | ⟨w', c, rfl⟩
    · cases hw
    · rw [List.concat_eq_append] at h hw
      rw [runM_snoc] at h
      have hl : w'.length = n := by simpa using hw
      cases hr : runM rows s w' with
      | none => rw [hr] at h; cases h
      | some r =>
        obtain ⟨f', t'⟩ := r
        rw [hr] at h
        have hi := ih w' hl f' t' hr
        have h' : (mvAt rows t' c).map (fun m => (f' ++ m.2.toList, m.1)) = some (f, t) := h
        obtain ⟨m, hm, em⟩ := Option.map_eq_some_iff.mp h'
        cases em
        intro x hx
        rcases List.mem_append.mp hx with z | z
        · exact hi x z
        · have he := mvOf_mem hm
          refine ⟨_, rowAt_mem he, _, he, ?_⟩
          cases ho : m.2 with
          | none => rw [ho] at z; cases z
          | some y =>
            rw [ho] at z
            have : x = y := by simpa using z
            rw [this]
section
variable {P : Program} {w : World} {K : PySem.W.Frag} {mg : Str → Option Value} {base : Heap}
/-! ### _law_texts -/
abbrev sTex : Stmt := top 68
abbrev nTex : List Str := ["_law_abc", "_law_cap", "_law_found", "_law_latest", "_law_turn", "_law_longer", "_law_note", "_law_letter"]
abbrev psTex : List Str := ["_law_abc", "_law_cap"]
theorem scTex : FnScope nTex psTex (defScope sTex) := ⟨rfl, rfl, rfl, by decide +kernel, rfl, by decide +kernel, by decide +kernel⟩
def spTex : Sp := fun vs H Q _ => ∃ (a : Addr) (cs : List Nat) (cap : Nat), vs = [.ref a, .int cap] ∧ cs.length ≤ 4 ∧ cap ≤ 8 ∧ H a = some (.lst (cs.map ltV)) ∧
  ∀ (p : Addr) (H' : Hp), H p = none → Same H H' → H' p = some (.lst ((txs cs cap).map txtV)) → Q (.ref p) H'
theorem pow4 {i : Nat} (h : i ≤ 8) : 4 ^ i ≤ 65536 := Nat.le_trans (Nat.pow_le_pow_right (by decide) h) (by decide)
theorem ok_tex {f : Addr} {fd : FuncData} (F : Fun K "_law_texts" "_law_texts" sTex f fd) (B : Bl mg) : FnOk P w K mg base CX0 1 f fd psTex spTex := by
  refine F.ok scTex (fun vs H Q E h => ?_) (fun cdv A outer s H vs Q E hr h => ?_)
  · obtain ⟨a, cs, cap, rfl, _⟩ := h
    rfl
  · obtain ⟨a, cs, cap, rfl, h4, hcap, hA, k⟩ := h
    refine ⟨_, pss_cons (ps_par (i := 2) (j := 3) (by rfl) scTex.nd rfl rfl (by decide) rfl rfl (pa_cons (pe_lst (pa_cons pe_str pa_nil)) (pa_cons (pe_lst (pa_cons pe_str pa_nil)) pa_nil)) (by rfl))
      (pss_cons (ps_for PassesOwn.never rfl (pi_range1 (by rfl) B.range (pa_cons (pv 1) pa_nil)) (pg_name (i := 4) scTex.nd rfl (.inl rfl))
        (pss_cons (ps_set (i := 5) scTex.nd rfl (.inl rfl) (pe_lst pa_nil))
      (pss_cons (ps_for PassesOwn.never rfl (pi_list (pv 3)) (pg_name (i := 6) scTex.nd rfl (.inr rfl))
        (pss_one (ps_expr (pe_bm PySem.F.plainAttrs_list PySem.F.slot_list_extend PySem.F.type_list_extend mt_extend (pv 5) (pa_cons (pe_lc (own := [("_law_letter", 7)]) (g := gName 7) (tt := tYes) (te := tOp (rAddT) (tVar 6) (tVar 7)) rfl scTex.nd (pi_list (pv 0)) (blkOk_by (by kernel_rfl)) (fun _ _ _ _ _ => pg_name (i := 7) scTex.nd rfl (.inl rfl)) (fun _ _ _ _ _ => pts_nil) (fun _ _ _ _ _ => pe_op op_add_str (pv 6) (pv 7))) pa_nil)))))
      (pss_one (ps_par (i := 2) (j := 3) (by rfl) scTex.nd rfl rfl (by decide) rfl rfl (pa_cons (pe_op op_cat (pv 2) (pv 5)) (pa_cons (pv 5) pa_nil)) (by rfl))))))
      (pss_one (ps_ret (pv 2)))), ?_⟩
    refine ⟨(by show 1 ≤ sizeLine; decide), fun pf hpf => ⟨(by show 1 ≤ sizeLine; decide), fun pl hpl => ⟨_, _, rfl, ?_⟩⟩⟩
    have nfl : pf ≠ pl := ne_of_none upd_same hpl
    refine ⟨_, rfl, _, rfl, by omega, by omega, for_it (walk_range (lo := 0) (n := (cap : Int).toNat)) (fun i σ H' => Same H H' ∧ ∃ pf pl a4 a5 a6 a7, σ = [some (.ref a), some (.int cap), some (.ref pf), some (.ref pl), a4, a5, a6, a7] ∧
      H pf = none ∧ H' pf = some (.lst ((txs cs i).map txtV)) ∧ H' pl = some (.lst ((lay cs i).map txtV))) ?_ (fun _ _ _ _ _ => trivial) ?_ ?_⟩
    · have hplH : H pl = none := by rw [upd_ne (Ne.symm nfl)] at hpl; exact hpl
      exact ⟨same_upd (same_new hpf) hplH, pf, pl, none, none, none, none, rfl, hpf, by rw [upd_ne nfl, upd_same]; rfl, by rw [upd_same]; rfl⟩
    · rintro i v σ H1 H1' hi ⟨e1, pf, pl, a4, a5, a6, a7, rfl, hpfH, h1, h2⟩ ⟨rfl, rfl⟩
      rw [Int.toNat_natCast] at hi
      have hp4 := pow4 (i := i) (by omega)
      have hp5 := pow4 (i := i + 1) (by omega)
      have l1 := len_lay4 h4 i
      have l2 := len_txs4 h4 i
      have l3 := len_lay4 h4 (i + 1)
      refine ⟨(by show 0 ≤ sizeLine; decide), fun pg hpg => ?_⟩
      refine ⟨_, rfl, pl, rfl, ⟨_, SqL.of ((same_new hpg) _ _ h2)⟩, for_it (walk_list (K := K) (a := pl) (xs := (lay cs i).map txtV)) (fun j σ H' => Same H1' H' ∧ ∃ b6 b7, σ = [some (.ref a), some (.int cap), some (.ref pf), some (.ref pl), some (.int (0 + (i : Nat))), some (.ref pg), b6, b7] ∧ H' pg = some (.lst ((((lay cs i).take j).flatMap (kids cs)).map txtV))) ?_ (fun j σ H' _ p => SqL.of (p.1 _ _ h2)) ?_ ?_⟩
      · exact ⟨same_new hpg, a6, a7, rfl, upd_same⟩
      · rintro j v σ H2 H2' hj ⟨e2, b6, b7, rfl, h3⟩ ⟨rfl, hv⟩
        rw [List.getElem?_map] at hv
        obtain ⟨l, hl, rfl⟩ := Option.map_eq_some_iff.mp hv
        rw [List.length_map] at hj
        have hll := (mem_lay.mp (List.mem_of_getElem? hl)).2
        refine ⟨_, rfl, .inl ⟨rfl, _, SqL.of h3⟩, ?_⟩
        refine ⟨_, rfl, _, rfl, ⟨_, SqL.of (e2 _ _ (e1 _ _ hA))⟩, fun D hD => lc_S (walk_list (K := K) (a := a) (xs := cs.map ltV)) hD (by rw [List.length_map]; omega) (fun i acc _ => acc = (cs.take i).map fun c => txtV (l ++ [c])) (fun _ _ _ _ _ _ _ h => h) rfl (fun H' e' => SqL.of (e' _ _ (e2 _ _ (e1 _ _ hA)))) ?_ ?_⟩
        · rintro i' x H3 H3' acc Qt Qf hi' e3 hd rfl ⟨rfl, hx⟩ kt kf
          rw [List.getElem?_map] at hx
          obtain ⟨c, hc', rfl⟩ := Option.map_eq_some_iff.mp hx
          refine ⟨rfl, _, rfl, _, rfl, _, _, rfl, rfl, ?_, ?_⟩
          · rw [txt_len, sizeLine_eq]
            show l.length + 1 ≤ 16777216
            omega
          · show Qt (.str (txt l ++ txt [c])) _
            rw [txt_app]
            refine kt _ _ (Same.refl _) ?_
            have et : cs.take (i' + 1) = cs.take i' ++ [c] := by rw [List.take_add_one, hc']; rfl
            rw [et, List.map_append]
            rfl
        · rintro H3 acc e3 hd rfl
          rw [List.length_map, List.take_length] at hd
          have hle : (((lay cs i).take j).flatMap (kids cs)).length ≤ (lay cs i).length * cs.length := by
            rw [len_kids]
            refine Nat.mul_le_mul_right _ ?_
            rw [List.length_take]
            omega
          have hle2 : (lay cs i).length * cs.length ≤ 4 ^ i * 4 := Nat.mul_le_mul l1 h4
          refine ⟨pg, D, _, _, rfl, rfl, e3 _ _ h3, hd, ?_, ?_⟩
          · rw [List.length_map, List.length_map, sizeLine_eq]
            omega
          · refine ⟨same_upd (e2.trans e3) hpg, _, _, rfl, ?_⟩
            rw [upd_same, List.take_add_one, hl, List.flatMap_append, List.map_append]
            simp [kids, List.map_map]
      · rintro σ H2 ⟨e2, b6, b7, rfl, h3⟩
        rw [List.length_map, List.take_length] at h3
        refine ⟨_, rfl, _, rfl, pf, pg, _, _, rfl, rfl, e2 _ _ h1, h3, ?_, fun p hp => ⟨_, rfl, _, _, rfl, ?_⟩⟩
        · rw [List.length_map, List.length_map, sizeLine_eq]
          show (txs cs i).length + (lay cs (i + 1)).length ≤ _
          omega
        · have hpH : H p = none := e1.free (e2.free hp)
          refine ⟨e1.trans (e2.trans (same_new hp)), p, pg, _, _, _, _, rfl, hpH, ?_, (same_new hp) _ _ h3⟩
          rw [upd_same, ← List.map_append]
          rfl
    · rintro σ H1 ⟨e1, pf, pl, a4, a5, a6, a7, rfl, hpfH, h1, h2⟩
      rw [Int.toNat_natCast] at h1
      exact ⟨_, rfl, k pf H1 hpfH e1 h1⟩
/-! ### _law_run -/
abbrev sRun : Stmt := top 69
abbrev nRun : List Str := ["_law_rows", "_law_spot", "_law_path", "_law_found", "_law_letter", "_law_told"]
abbrev psRun : List Str := ["_law_rows", "_law_spot", "_law_path"]
theorem scRun : FnScope nRun psRun (defScope sRun) := ⟨rfl, rfl, rfl, by decide +kernel, rfl, by decide +kernel, by decide +kernel⟩
def spRun : Sp := fun vs H Q _ => ∃ (a : Addr) (s : Int) (x : List Nat) (rows : List Rw), vs = [.ref a, .int s, txtV x] ∧ RwsL H a rows ∧ Good rows ∧ 0 ≤ s ∧ s < (rows.length : Int) ∧ x.length ≤ 1000 ∧
  (runM rows s x = none → ∀ H', Same H H' → Q .non H') ∧ ∀ (f : List (List Nat)) (t : Int) (p pf : Addr) (H' : Hp), runM rows s x = some (f, t) → Same H H' → H' p = some (.tup [.ref pf, .int t]) → H' pf = some (.lst (f.map txtV)) → Q (.ref p) H'
theorem ok_run {f : Addr} {fd : FuncData} (F : Fun K "_law_run" "_law_run" sRun f fd) (B : Bl mg) : FnOk P w K mg base CX0 1 f fd psRun spRun := by
  refine F.ok scRun (fun vs H Q E h => ?_) (fun cdv A outer s H vs Q E hr h => ?_)
  · obtain ⟨a, s, x, rows, rfl, _⟩ := h
    rfl
  · obtain ⟨a, s, x, rows, rfl, hR, G, s0, s1, hx, kn, ks⟩ := h
    have hu := hu_of hr
    refine ⟨_, pss_cons (ps_set (i := 3) scRun.nd rfl (.inl rfl) (pe_lst pa_nil))
      (pss_cons (ps_for PassesOwn.never rfl (pi_str (pv 2)) (pg_name (i := 4) scRun.nd rfl (.inl rfl))
        (pss_cons (ps_if (pt_cmp (pc_dnotin hu (pv 4) (pe_ix ix_list (pv 0) (pv 1) (fun _ _ => rfl))))
        (pss_one (ps_ret pe_non)) pss_nil)
      (pss_cons (ps_asg (pe_dget hu (pe_ix ix_list (pv 0) (pv 1) (fun _ _ => rfl)) (pv 4) (fun _ _ => rfl)) (pg_tup rfl (pgs_cons (pg_name (i := 1) scRun.nd rfl (.inl rfl)) (pgs_cons (pg_name (i := 5) scRun.nd rfl (.inl rfl)) pgs_nil))))
      (pss_one (ps_set (i := 3) scRun.nd rfl (.inl rfl) (pe_op op_cat (pv 3) (pe_op op_rep (pe_lst (pa_cons (pv 5) pa_nil)) (pe_callTy call_int1 (by rfl) B.int (by decide +kernel) (pa_cons (pe_cmpR op_notN (pv 5) pe_non (nomark _)) pa_nil)))))))))
      (pss_one (ps_ret (pe_tup (pa_cons (pv 3) (pa_cons (pv 1) pa_nil)))))), ?_⟩
    have hz : (txt x).cps.size = x.length := by simp [txt]
    refine ⟨by show 0 ≤ sizeLine; decide, fun l hl => ?_⟩
    refine ⟨_, rfl, _, rfl, for_it walk_str (fun i σ H' => Same H H' ∧ ∃ (pf : Addr) (t : Int) (f : List (List Nat)) (a4 a5 : Option V), σ = [some (.ref a), some (.int t), some (txtV x), some (.ref pf), a4, a5] ∧ H' pf = some (.lst (f.map txtV)) ∧ runM rows s (x.take i) = some (f, t)) ⟨same_new hl, l, s, [], none, none, rfl, upd_same, rfl⟩ (fun _ _ _ _ _ => trivial) ?_ ?_⟩
    · rintro i v σ H1 H1' hi ⟨e1, pf, t, f, b4, b5, rfl, hpf, hrun⟩ ⟨rfl, c, hc, rfl⟩
      have hc' : x[i]? = some c := by simpa [txt] using hc
      have et : x.take (i + 1) = x.take i ++ [c] := by rw [List.take_add_one, hc']; rfl
      obtain ⟨t0, t1⟩ := run_rg G ⟨s0, s1⟩ hrun
      obtain ⟨xs, d, kvs, g1, g2, g3, g4⟩ := (hR.mono e1).get t0 t1
      refine ⟨_, rfl, _, rfl, _, rfl, a, _, _, .ref d, rfl, rfl, SqL.of g1, g2, d, _, rfl, DGet.k (k := Sum.inr (lt c)) g3, _, rfl, ?_⟩
      have nx : runM rows s (x.take (i + 1)) = (mvAt rows t c).map fun m => (f ++ m.2.toList, m.1) := by
        rw [et, runM_snoc, hrun]
        rfl
      have hfl := run_len _ _ rfl _ _ hrun
      rw [List.length_take] at hfl
      rcases ents_val (c := c) g4 with ⟨p, m, v1, v2, v3⟩ | ⟨v1, v2, v3⟩
      · rw [v1]
        refine iteF ?_
        refine ⟨_, rfl, _, rfl, a, _, _, .ref d, rfl, rfl, SqL.of g1, g2, _, rfl, d, .ref p, rfl, ?_, ?_⟩
        · rw [← v1]; exact DGet.k (k := Sum.inr (lt c)) g3
        refine ⟨p, _, rfl, SqT.of v3, rfl, _, _, rfl, _, _, rfl, rfl, ?_⟩
        refine ⟨_, rfl, _, rfl, by show 1 ≤ sizeLine; decide, fun p1 hp1 => ⟨_, rfl, rfl, .inr ⟨_, rfl, ?_⟩⟩⟩
        rw [tell_non]
        have f1 : Same H1' (upd H1' p1 (.lst [tellV m.2])) := same_new hp1
        obtain ⟨kk, hkk⟩ : ∃ kk : Nat, kk = if m.2 = none then 0 else 1 := ⟨_, rfl⟩
        have hk1 : kk ≤ 1 := by
          by_cases h : m.2 = none
          · rw [if_pos h] at hkk; omega
          · rw [if_neg h] at hkk; omega
        rw [show (if (!decide (m.2 = none)) = true then (1 : Int) else 0) = (kk : Int) by
          by_cases h : m.2 = none
          · rw [if_pos h] at hkk; simp [h, hkk]
          · rw [if_neg h] at hkk; simp [h, hkk]]
        refine ⟨p1, _, _, rfl, rfl, upd_same, by omega, by omega, ?_, fun p2 hp2 => ?_⟩
        · show 1 * ((kk : Nat) : Int).toNat ≤ sizeLine
          rw [sizeLine_eq]
          omega
        have f2 := f1.trans (same_new (o := .lst (List.replicate (kk : Int).toNat [tellV m.2]).flatten) hp2)
        have tel : (List.replicate ((kk : Nat) : Int).toNat [tellV m.2]).flatten = (m.2.toList).map txtV := by
          rw [Int.toNat_natCast, hkk]
          cases ho : m.2 with
          | none => rfl
          | some y => rfl
        refine ⟨pf, p2, _, _, rfl, rfl, f2 _ _ hpf, upd_same, ?_, fun p3 hp3 => ?_⟩
        · rw [tel, List.length_map, List.length_map, sizeLine_eq]
          have : m.2.toList.length ≤ 1 := by cases m.2 <;> simp
          omega
        refine ⟨e1.trans (f2.trans (same_new hp3)), p3, m.1, f ++ m.2.toList, _, _, rfl, ?_, ?_⟩
        · rw [upd_same, tel, List.map_append]
        · rw [nx]
          unfold mvAt
          rw [v2]
          rfl
      · rw [v1]
        refine iteT ?_
        refine kn ?_ H1' e1
        have hnx : runM rows s (x.take (i + 1)) = none := by
          rw [nx]
          unfold mvAt
          rw [v2]
          rfl
        have := runM_none (v := x.drop (i + 1)) hnx
        rwa [List.take_append_drop] at this
    · rintro σ H1 ⟨e1, pf, t, f, b4, b5, rfl, hpf, hrun⟩
      rw [hz, List.take_length] at hrun
      refine ⟨_, rfl, _, rfl, by show 2 ≤ sizeLine; decide, fun p hp => ks f t p pf _ hrun (e1.trans (same_new hp)) upd_same ((same_new hp) _ _ hpf)⟩
end
end SS

set_option maxRecDepth 100000
set_option maxHeartbeats 4000000
set_option pp.maxSteps 1500
namespace SS
open PySem L2 SR TL ZA
theorem join_txts (xs : List (List Nat)) : Txt.join "" (xs.map txt) = txt xs.flatten := by
  rw [join_eq]
  have key : ∀ xs : List (List Nat), tl (Str.join "" (xs.map txt)) = xs.flatten := by
    intro xs
    rw [tl_join]
    induction xs with
    | nil => rfl
    | cons c xs ih =>
      cases xs with
      | nil => simp [joinL, txt]
      | cons d xs =>
        show tl (txt c) ++ (tl ("" : Str) ++ joinL (tl ("" : Str)) ((d :: xs).map txt |>.map tl)) = c ++ (d :: xs).flatten
        rw [ih, show tl (txt c) = c from txt_codes c, show tl ("" : Str) = [] from rfl]
        rfl
  rw [txt_of (Str.join "" (xs.map txt))]
  exact congrArg txt (key xs)
theorem flat_ones : ∀ {f : List (List Nat)}, (∀ x ∈ f, x.length = 1) → f = f.flatten.map fun c => [c]
  | [], _ => rfl
  | x :: f, h => by
    have h1 := h x List.mem_cons_self
    match x, h1 with
    | [c], _ =>
      rw [List.flatten_cons, List.map_append, ← flat_ones (f := f) fun y hy => h y (List.mem_cons_of_mem _ hy)]
      rfl
theorem sum_txts : ∀ {f : List (List Nat)} {b : Nat}, (∀ x ∈ f, x.length ≤ b) → ((f.map txt).map (·.length)).sum ≤ f.length * b
  | [], _, _ => by simp
  | x :: f, b, h => by
    have := h x List.mem_cons_self
    have := sum_txts (f := f) fun y hy => h y (List.mem_cons_of_mem _ hy)
    have e : (txt x).length = x.length := txt_len x
    simp only [List.map_cons, List.sum_cons, List.length_cons, Nat.succ_mul]
    omega
end SS

set_option maxRecDepth 100000
set_option maxHeartbeats 4000000
namespace SR
open PySem PySem.Spec PyProof.Rows L2
open PySem.SeqAt
open AutoSeq1 (wpAny_loadPart')
open MeetsSeq
theorem int_eq_declines_inst (b : Int) (u : Tok) (l : Addr) (c : Value) (dd : Option Addr) (sl : Array (Option Value)) :
    Meets (Builtin.«int.__eq__» ⟨[.int b u, .ref l], []⟩) (fun _ R s => s.heap.get? l = some { cls := c, dict := dd, data := .plain, slots := sl } ∧ R (.ok (.ret .notImplemented)) s) :=
  .of_wp fun prog w A R s h => by obtain ⟨hp, g, d, tk, os⟩ := s; obtain ⟨hl, h⟩ := h; wp_walk using wpAny_loadPart' hl, wpAny_load hl; exact ⟨_, rfl, h⟩
theorem str_eq_declines_inst (b : Str) (u : Tok) (l : Addr) (c : Value) (dd : Option Addr) (sl : Array (Option Value)) :
    Meets (Builtin.«str.__eq__» ⟨[.str b u, .ref l], []⟩) (fun _ R s => s.heap.get? l = some { cls := c, dict := dd, data := .plain, slots := sl } ∧ R (.ok (.ret .notImplemented)) s) :=
  .of_wp fun prog w A R s h => by obtain ⟨hp, g, d, tk, os⟩ := s; obtain ⟨hl, h⟩ := h; wp_walk using wpAny_loadPart' hl, wpAny_load hl; exact ⟨_, rfl, h⟩
section
variable {prog : Program} {w : World} {A : Around} {E : Value → Shared → Prop} {s : Shared} {R : Result → Shared → Prop}
theorem list_eq_declines_inst {l x : Addr} (hx : ∀ (A : Around) (E : Value → Shared → Prop) (Q : Bool → Shared → Prop), Q false s → wpAny (model prog w) A (isInstance (.ref x) (.type "list")) Q E s) (h : R (.ok (.ret .notImplemented)) s) :
    wpAny (model prog w) A.in1 (Builtin.«list.__eq__» ⟨[.ref l, .ref x], []⟩) (fun fin s' => match fin with | .done f => R (.ok f) s' | .again c' => c'.quiet = true ∧ codeAny (model prog w) A c' R s') E s := by
  show wpAny _ _ (slotArgs "__eq__" 1 ⟨[.ref l, .ref x], []⟩ >>= _) _ _ _
  refine wpAny_bind (m := slotArgs "__eq__" 1 ⟨[.ref l, .ref x], []⟩) (wpAny_pure ?_)
  refine wpAny_bind (m := isInstance (.ref x) (.type "list")) (hx _ _ _ ?_)
  exact wpAny_pure h
theorem tuple_eq_declines_inst {l x : Addr} (hx : ∀ (A : Around) (E : Value → Shared → Prop) (Q : Bool → Shared → Prop), Q false s → wpAny (model prog w) A (isInstance (.ref x) (.type "tuple")) Q E s) (h : R (.ok (.ret .notImplemented)) s) :
    wpAny (model prog w) A.in1 (Builtin.«tuple.__eq__» ⟨[.ref l, .ref x], []⟩) (fun fin s' => match fin with | .done f => R (.ok f) s' | .again c' => c'.quiet = true ∧ codeAny (model prog w) A c' R s') E s := by
  show wpAny _ _ (slotArgs "__eq__" 1 ⟨[.ref l, .ref x], []⟩ >>= _) _ _ _
  refine wpAny_bind (m := slotArgs "__eq__" 1 ⟨[.ref l, .ref x], []⟩) (wpAny_pure ?_)
  refine wpAny_bind (m := isInstance (.ref x) (.type "tuple")) (hx _ _ _ ?_)
  exact wpAny_pure h
end
end SR

set_option maxRecDepth 100000
set_option maxHeartbeats 4000000
namespace SR
open PySem PySem.Spec PyProof.Rows L2
open PySem.SeqAt
section
variable {prog : Program} {w : World} {A : Around} {E : Value → Shared → Prop} {s : Shared} {K : PySem.W.Frag} {x C L f : Addr} {h₀ : Heap} {m : Str → Option Value} {ox : Obj} {od : Option Obj}
theorem dict_eq_declines_inst {R : Result → Shared → Prop} {l x : Addr} (hT : s.TypeIs (.ref l) "dict") (hx : ∀ (A : Around) (E : Value → Shared → Prop) (Q : Bool → Shared → Prop), Q false s → wpAny (model prog w) A (isInstance (.ref x) (.type "dict")) Q E s) (h : R (.ok (.ret .notImplemented)) s) :
    wpAny (model prog w) A.in1 (Builtin.«dict.__eq__» ⟨[.ref l, .ref x], []⟩) (fun fin s' => match fin with | .done f => R (.ok f) s' | .again c' => c'.quiet = true ∧ codeAny (model prog w) A c' R s') E s := by
  show wpAny _ _ (Builtin.Dict.dictSlotArgs "__eq__" ⟨[.ref l, .ref x], []⟩ >>= _) _ _ s
  refine wpAny_bind ?_
  unfold Builtin.Dict.dictSlotArgs
  refine wpAny_bind (wpAny_notOrdered_dict hT ?_)
  show wpAny _ _ (pure (Value.ref l, Value.ref x)) _ _ s
  refine wpAny_pure ?_
  refine wpAny_bind (hx _ _ _ ?_)
  simp only [Bool.not_false, if_true]
  exact wpAny_bind (wpAny_rule (wpAny_pure h))
/-- x == o, o of an own class with its own ==, x of a built-in type that declines -/
theorem rc_back {u : Value} {T id : String} {Q : Value → Shared → Prop} (hu : A.units < cLine) (F : Fr h₀ L s.heap m) (X₀ : K.In h₀) (hT : s.TypeIs u T) (I : PySem.W.InstAt s.heap x ox C od) (hsub : PySem.W.subIn K (.ref C) (.type T) = some false)
    (sl : Slot T "__eq__" id) (hc : ∀ Q' : Value → Shared → Prop, Q' .notImplemented s → wpAny (model prog w) A (call (.builtin id) [u, .ref x]) Q' E s)
    (hs : PySem.W.findIn K (.ref C) "__eq__" = some (some (.ref f))) (hf : PySem.W.isFn K (.ref f) = true)
    (h : wpAny (model prog w) A (call (.ref f) [.ref x, u]) (PySem.W.CmpBack Q) E s) : wpAny (model prog w) A (richCompare .Eq u (.ref x)) Q E s := by
  have X := X₀.keeps F.keep
  have one : wpAny (model prog w) A (tryCompare (.ref x) "__eq__" u) (fun r s' => ∃ v, r = some v ∧ Q v s') E s := by
    unfold tryCompare
    refine wpAny_bind (PySem.W.ifBound_K X I hs hf (wpAny_mono h (fun v s' hv => ?_) fun _ _ e => e))
    cases v <;> first | exact hv.elim | exact wpAny_pure ⟨_, rfl, hv⟩
  simp only [richCompare, cmpInfo, hT.oneThing_none]
  refine wpAny_holding (wpAny_bind (wpAny_cRoomFor hu ?_))
  refine wpAny_bind (wpAny_typeOf hT (wpAny_bind (I.type.here ?_)))
  have hne : (Value.type T != Value.ref C) = true := rfl
  rw [if_pos hne]
  refine wpAny_bind ((PySem.W.looks_subIn X hsub).here ?_)
  simp only [Bool.false_eq_true, if_false]
  refine wpAny_bind (wpAny_tryCompare_declines hT sl (hc _ ⟨rfl, ?_⟩))
  simp only [Bool.not_false, if_true]
  refine wpAny_bind (wpAny_mono one (fun r s' z => ?_) fun _ _ e => e)
  obtain ⟨v, rfl, hq⟩ := z
  exact wpAny_pure hq
end
/-- the built-in types of which a thing may be -/
structure OddC (K : PySem.W.Frag) (C : Addr) : Prop where
  to : ∀ T ∈ (["NoneType", "int", "str", "list", "tuple", "dict"] : List String), PySem.W.subIn K (.type T) (.ref C) = some false
  fro : ∀ T ∈ (["NoneType", "int", "str", "list", "tuple", "dict"] : List String), PySem.W.subIn K (.ref C) (.type T) = some false
  ic : PySem.W.isClsIn K C = true
  ty : PySem.W.typeIn K (.ref C) = some (.type "type")
theorem OddC.kit {K : PySem.W.Frag} {C : Addr} (o : OddC K C) {T : String} (h : T ∈ (["NoneType", "int", "str", "list", "tuple", "dict"] : List String)) : PySem.W.kitOne K (.type T) (.ref C) = some false := by
  unfold PySem.W.kitOne
  have nq : ¬ (Value.type T == Value.ref C) = true := fun q => by
    have z : Value.type T = Value.ref C := beq_iff_eq.mp q
    cases z
  rw [if_neg nq]
  unfold PySem.W.kitCls
  have h2' : (PySem.W.clsIn K C).isSome = true := o.ic
  show (if ((PySem.W.clsIn K C).isSome && PySem.W.typeIn K (.ref C) == some (.type "type")) = true then PySem.W.subIn K (.type T) (.ref C) else none) = some false
  rw [if_pos (by rw [h2', o.ty] <;> rfl)]
  exact o.to T h
/-- a thing of such a type -/
inductive Odd (H : Hp) : V → String → Prop
  | non : Odd H .non "NoneType"
  | int (i : Int) : Odd H (.int i) "int"
  | str (z : Str) : Odd H (.str z) "str"
  | lst {a : Addr} {xs : List V} : H a = some (.lst xs) → Odd H (.ref a) "list"
  | tup {a : Addr} {xs : List V} : H a = some (.tup xs) → Odd H (.ref a) "tuple"
  | dict {a : Addr} {kvs : List (Key × V)} : H a = some (.dK kvs) → Odd H (.ref a) "dict"
theorem Odd.mem {H : Hp} {v : V} {T : String} (o : Odd H v T) : T ∈ (["NoneType", "int", "str", "list", "tuple", "dict"] : List String) := by
  cases o <;> decide
theorem Odd.mono {H H' : Hp} {v : V} {T : String} (e : ∀ b o, H b = some o → H' b = some o) (o : Odd H v T) : Odd H' v T := by
  cases o with
  | non => exact .non
  | int i => exact .int i
  | str z => exact .str z
  | lst h => exact .lst (e _ _ h)
  | tup h => exact .tup (e _ _ h)
  | dict h => exact .dict (e _ _ h)
theorem Odd.tyx {K : PySem.W.Frag} {H : Hp} {v : V} {T : String} (o : Odd H v T) : TyX K H v (.type T) := by
  cases o with
  | non => exact .base .non
  | int i => exact .base (.int i)
  | str z => exact .base (.str z)
  | lst h => exact .base (.lst h)
  | tup h => exact .base (.tup h)
  | dict h => exact .base (.dK h)
section
variable {X : Cx}
theorem Odd.typeIs {pins : List (Addr × Obj)} {σ : L2.St} {H : Hp} {s : Shared} {v : V} {u : Value} {T : String} (I : Inv X pins σ H s) (o : Odd H v T) (r : RelV v u) : s.TypeIs u T := by
  cases o with
  | non => cases (show u = Value.none from r); rfl
  | int i => obtain ⟨t, rfl⟩ := r; exact typeIs_int s i t
  | str z => obtain ⟨t, rfl⟩ := r; exact typeIs_str s z t
  | @lst a xs h =>
    cases (show u = Value.ref a from r)
    obtain ⟨_, _, n, _, h1⟩ := (show ObjOk X.prog X.w H s.heap a (.lst xs) from I.hok a _ h)
    exact ⟨_, h1, rfl⟩
  | @tup a xs h =>
    cases (show u = Value.ref a from r)
    obtain ⟨_, _, _, o, h1, h2, _⟩ := (show ObjOk X.prog X.w H s.heap a (.tup xs) from I.hok a _ h)
    exact ⟨o, h1, h2⟩
  | @dict a kvs h =>
    cases (show u = Value.ref a from r)
    obtain ⟨_, _, vs, _, o, es, ep, h1, h2, _⟩ := (show ObjOk X.prog X.w H s.heap a (.dK kvs) from I.hok a _ h)
    exact ⟨o, h1, h2.1⟩
/-- o == x, x a thing of a built-in type -/
def rEqFwd (C : Addr) (sp : Sp) : R2 := fun x y H Q => ∃ a dx fs T, x = .ref a ∧ H a = some (.ins C dx fs) ∧ Odd H y T ∧ sp [.ref a, y] H (fun v H' => ∃ r, v = .bl r ∧ Q (.bl r) H') E0
theorem op_eqFwd {n : Nat} {C f : Addr} {fd : FuncData} {ps : List Str} {sp : Sp} (O : OddC X.K C) (F : FnG X.prog X.w X.K X.mg X.base n f fd ps sp) (hr : Room n X.A) (hgd : X.A.guards = some [])
    (hs : PySem.W.findIn X.K (.ref C) "__eq__" = some (some (.ref f))) (hf : PySem.W.isFn X.K (.ref f) = true) (hb : Binds X.K fd ps []) : OpR X (compareOp .Eq) (rEqFwd C sp) := by
  intro pins s σ H x y v u Q I rx ry h
  obtain ⟨a, dx, fs, T, rfl, ha, od', hq⟩ := h
  cases rx
  obtain ⟨mA, J, _⟩ := ins_get I.hok ha
  obtain ⟨od, J, _⟩ := J.look
  obtain ⟨m, hF⟩ := I.fr
  show wpAny (model X.prog X.w) X.A (richCompare .Eq (.ref a) u) (EP X pins σ Q) X.xe s
  refine PySem.W.cmp_K (op := .Eq) (tb := .type T) hr.units0 hF I.ok.mod.kin J ?_ ?_ hs hf (wpAny_mono (own_run (vs := [.ref a, y]) F ⟨hr, rfl⟩ hgd hb I (.cons rfl (.cons ry .nil)) hq) (fun z s' hz => ?_) fun _ _ e => e)
  · obtain ⟨P, Z, p, _⟩ := kit_of I ry (od'.tyx (K := X.K))
    exact Z.ty _ _ I.kIn p
  · unfold PySem.W.notFirst
    rw [O.to T od'.mem]
    simp
  · obtain ⟨b', H', I', rb, r, rfl, hQ⟩ := hz
    cases rb
    exact ⟨.bl r, H', I', rfl, hQ⟩
/-- x == o, x a thing of a built-in type -/
def rEqBack (C : Addr) (sp : Sp) : R2 := fun x y H Q => ∃ a dx fs T, y = .ref a ∧ H a = some (.ins C dx fs) ∧ Odd H x T ∧ sp [.ref a, x] H (fun v H' => ∃ r, v = .bl r ∧ Q (.bl r) H') E0
theorem op_eqBack {n : Nat} {C f : Addr} {fd : FuncData} {ps : List Str} {sp : Sp} (O : OddC X.K C) (F : FnG X.prog X.w X.K X.mg X.base n f fd ps sp) (hr : Room n X.A) (hgd : X.A.guards = some [])
    (hs : PySem.W.findIn X.K (.ref C) "__eq__" = some (some (.ref f))) (hf : PySem.W.isFn X.K (.ref f) = true) (hb : Binds X.K fd ps []) : OpR X (compareOp .Eq) (rEqBack C sp) := by
  intro pins s σ H x y v u Q I rx ry h
  obtain ⟨a, dx, fs, T, rfl, ha, o, hq⟩ := h
  cases ry
  obtain ⟨mA, J, hdat⟩ := ins_get I.hok ha
  obtain ⟨od, J', _⟩ := J.look
  obtain ⟨m, hF⟩ := I.fr
  have hT := o.typeIs I rx
  have own : wpAny (model X.prog X.w) X.A (call (.ref f) [.ref a, v]) (PySem.W.CmpBack (EP X pins σ Q)) X.xe s := by
    refine wpAny_mono (own_run (vs := [.ref a, x]) F ⟨hr, rfl⟩ hgd hb I (.cons rfl (.cons rx .nil)) hq) (fun z s' hz => ?_) fun _ _ e => e
    obtain ⟨b', H', I', rb, r, rfl, hQ⟩ := hz
    cases rb
    exact ⟨.bl r, H', I', rfl, hQ⟩
  have isn : ∀ (T' : String), T' ∈ (["NoneType", "int", "str", "list", "tuple", "dict"] : List String) → ∀ (A : Around) (E : Value → Shared → Prop) (Q : Bool → Shared → Prop), Q false s → wpAny (model X.prog X.w) A (isInstance (.ref a) (.type T')) Q E s := fun T' hT' A E Q q => by
    unfold isInstance
    exact wpAny_bind (J'.type.here ((PySem.W.looks_subIn I.kIn (O.fro T' hT')).here q))
  show wpAny (model X.prog X.w) X.A (richCompare .Eq v (.ref a)) (EP X pins σ Q) X.xe s
  have go : ∀ {id : String}, Slot T "__eq__" id → (∀ Q' : Value → Shared → Prop, Q' .notImplemented s → wpAny (model X.prog X.w) X.A (call (.builtin id) [v, .ref a]) Q' X.xe s) → wpAny (model X.prog X.w) X.A (richCompare .Eq v (.ref a)) (EP X pins σ Q) X.xe s :=
    fun sl hc => rc_back hr.units0 hF I.ok.mod.kin hT J' (O.fro T o.mem) sl hc hs hf own
  cases o with
  | non =>
    cases (show v = Value.none from rx)
    exact go PySem.F.slot_NoneType_eq fun Q' q => call_gives PySem.F.slot_NoneType_eq rfl PySem.F.entry_NoneType_eq (PySem.F.args_NoneType_eq_2 _ _) (NoneType___eq___none_ref_0 a) q
  | int i =>
    obtain ⟨t, rfl⟩ := rx
    exact go PySem.F.slot_int_eq fun Q' q => GQ.call_here PySem.F.slot_int_eq hT PySem.F.entry_int_eq (PySem.F.args_int_eq_2 _ _) (int_eq_declines_inst i t a (.ref C) (some dx) #[] X.prog X.w X.A _ s ⟨J.1, q⟩)
  | str z =>
    obtain ⟨t, rfl⟩ := rx
    exact go PySem.F.slot_str_eq fun Q' q => GQ.call_here PySem.F.slot_str_eq hT PySem.F.entry_str_eq (PySem.F.args_str_eq_2 _ _) (str_eq_declines_inst z t a (.ref C) (some dx) #[] X.prog X.w X.A _ s ⟨J.1, q⟩)
  | @lst b xs h =>
    cases (show v = Value.ref b from rx)
    exact go PySem.F.slot_list_eq fun Q' q => GQ.call_here PySem.F.slot_list_eq hT PySem.F.entry_list_eq (PySem.F.args_list_eq_2 _ _) (list_eq_declines_inst (isn "list" (by decide)) q)
  | @tup b xs h =>
    cases (show v = Value.ref b from rx)
    exact go PySem.F.slot_tuple_eq fun Q' q => GQ.call_here PySem.F.slot_tuple_eq hT PySem.F.entry_tuple_eq (PySem.F.args_tuple_eq_2 _ _) (tuple_eq_declines_inst (isn "tuple" (by decide)) q)
  | @dict b kvs h =>
    cases (show v = Value.ref b from rx)
    exact go PySem.F.slot_dict_eq fun Q' q => GQ.call_here PySem.F.slot_dict_eq hT PySem.F.entry_dict_eq (PySem.F.args_dict_eq_2 _ _) (dict_eq_declines_inst hT (isn "dict" (by decide)) q)
end
end SR

set_option maxRecDepth 100000
set_option maxHeartbeats 4000000
set_option pp.maxSteps 1500
namespace SS
open PySem PySem.Spec PyProof.Rows L2 SR TL
/-! ### == of readers' parts: moves, rows, tuples of rows, both answers -/
theorem tell_flat (o : Option (List Nat)) : flatV (tellV o) = true := by cases o <;> rfl
theorem eqV_tell (a b : Option (List Nat)) : eqV (tellV a) (tellV b) = decide (a = b) := by
  cases a with
  | none => cases b <;> rfl
  | some x =>
    cases b with
    | none => rfl
    | some y =>
      show (txt x == txt y) = _
      rw [Bool.eq_iff_iff, beq_iff_eq, decide_eq_true_iff]
      exact ⟨fun h => by rw [txt_inj h], fun h => by rw [Option.some.inj h]⟩
theorem tell_inj {a b : Option (List Nat)} (h : tellV a = tellV b) : a = b := by
  cases a with
  | none => cases b with
    | none => rfl
    | some y => cases h
  | some x => cases b with
    | none => cases h
    | some y => rw [txt_inj (V.str.inj h)]
theorem mv_fun {H : Hp} {p : Addr} {m1 m2 : Mv} (h1 : MvAt H p m1) (h2 : MvAt H p m2) : m1 = m2 := by
  unfold MvAt at h1 h2
  rw [h1] at h2
  have h := HO.tup.inj (Option.some.inj h2)
  have ha : V.int m1.1 = V.int m2.1 := (List.cons.inj h).1
  have hb : tellV m1.2 = tellV m2.2 := (List.cons.inj (List.cons.inj h).2).1
  exact Prod.ext (V.int.inj ha) (tell_inj hb)
theorem ents_fun {H : Hp} : ∀ {kvs : List (Key × V)} {r1 r2 : Rw}, Paired (EntAt H) kvs r1 → Paired (EntAt H) kvs r2 → r1 = r2
  | _, _, _, .nil, .nil => rfl
  | _, _, _, .cons (b := e) h t, .cons (b := e') h' t' => by
    obtain ⟨k1, p1, v1, m1⟩ := h
    obtain ⟨k2, p2, v2, m2⟩ := h'
    rw [k1] at k2
    rw [v1] at v2
    have ep : p1 = p2 := V.ref.inj v2
    subst ep
    have ea : e.1 = e'.1 := lt_inj (Sum.inr.inj k2)
    rw [ents_fun t t', show e = e' from Prod.ext ea (mv_fun m1 m2)]
theorem rw_fun {H : Hp} {q : Addr} {r1 r2 : Rw} (h1 : RwAt H q r1) (h2 : RwAt H q r2) : r1 = r2 := by
  obtain ⟨k1, a1, b1⟩ := rw_iff.mp h1
  obtain ⟨k2, a2, b2⟩ := rw_iff.mp h2
  rw [a1] at a2
  have e : k1 = k2 := HO.dK.inj (Option.some.inj a2)
  subst e
  exact ents_fun b1 b2
theorem rws_fun {H : Hp} : ∀ {qs : List Addr} {r1 r2 : List Rw}, Paired (RwAt H) qs r1 → Paired (RwAt H) qs r2 → r1 = r2
  | _, _, _, .nil, .nil => rfl
  | _, _, _, .cons h t, .cons h' t' => by rw [rw_fun h h', rws_fun t t']
theorem mvOf_memS {row : Rw} (nd : (row.map (·.1)).Nodup) {c : Nat} {m : Mv} : mvOf row c = some m ↔ (c, m) ∈ row := by
  unfold mvOf
  induction row with
  | nil => simp
  | cons e row ih =>
    rw [List.map_cons, List.nodup_cons] at nd
    obtain ⟨n1, n2⟩ := nd
    by_cases h : e.1 = c
    · rw [List.find?_cons_of_pos (p := fun e : Nat × Mv => decide (e.1 = c)) (decide_eq_true h), List.mem_cons]
      constructor
      · intro z
        have : e.2 = m := Option.some.inj z
        exact .inl (Prod.ext h.symm this.symm)
      · rintro (z | z)
        · rw [← z]; rfl
        · exact absurd (List.mem_map.mpr ⟨_, z, rfl⟩) (h ▸ n1)
    · rw [List.find?_cons_of_neg (p := fun e : Nat × Mv => decide (e.1 = c)) (by simp [h]), ih n2, List.mem_cons]
      constructor
      · exact .inr
      · rintro (z | z)
        · exact absurd (by rw [← z]) h
        · exact z
/-- the keys rise -/
def Ris (r : Rw) : Prop := r.Pairwise fun a b => a.1 < b.1
theorem Ris.nd {r : Rw} (h : Ris r) : (r.map (·.1)).Nodup := List.pairwise_map.mpr (h.imp fun h => Nat.ne_of_lt h)
theorem Ris.nd' {r : Rw} (h : Ris r) : r.Nodup := h.imp fun h e => by rw [e] at h; exact Nat.lt_irrefl _ h
theorem ris_sort {r : Rw} (nd : (r.map (·.1)).Nodup) : Ris (sortR r) := by
  have h1 := sortR_ord r
  have h2 : ((sortR r).map (·.1)).Nodup := ((sortR_perm r).map (·.1)).nodup_iff.mpr nd
  exact List.Pairwise.imp₂ (fun a b h n => Nat.lt_of_le_of_ne h n) h1 (List.pairwise_map.mp h2)
theorem ris_eq {r1 r2 : Rw} (s1 : Ris r1) (s2 : Ris r2) (hl : r1.length = r2.length) (h : ∀ e ∈ r1, e ∈ r2) : r1 = r2 := by
  have pm : r1.Perm r2 := (List.perm_ext_iff_of_nodup s1.nd' s2.nd').mpr fun x => ⟨h x, fun hx => by
    by_cases z : x ∈ r1
    · exact z
    · have := len_subG (x :: r1) r2 (List.nodup_cons.mpr ⟨z, s1.nd'⟩) fun y hy => by
        rcases List.mem_cons.mp hy with e | e
        · rw [e]; exact hx
        · exact h y e
      rw [List.length_cons] at this
      omega⟩
  exact List.Perm.eq_of_pairwise (le := fun a b : Nat × Mv => a.1 < b.1) (fun a b _ _ h1 h2 => absurd h1 (Nat.lt_asymm h2)) s1 s2 pm
theorem kv_ents {H : Hp} : ∀ {kvs : List (Key × V)} {row : Rw} {va : List (Key × Value)}, Paired (EntAt H) kvs row → KV kvs va → ∀ k v, (k, v) ∈ va → ∃ e ∈ row, k = Sum.inr (lt e.1) ∧ ∃ p, v = .ref p ∧ MvAt H p e.2
  | _, _, _, .nil, r, k, v, hm => by
    unfold KV at r
    cases r
    cases hm
  | _, _, _, .cons (a := kv) (b := e) h t, r, k, v, hm => by
    unfold KV at r
    cases r with
    | cons h' t' =>
      rcases List.mem_cons.mp hm with z | z
      · refine ⟨e, List.mem_cons_self, ?_, ?_⟩
        · have := h'.1
          rw [← z] at this
          rw [← h.1]
          exact this.symm
        · obtain ⟨p, hp, m⟩ := h.2
          have := h'.2
          rw [← z, hp] at this
          exact ⟨p, this, m⟩
      · obtain ⟨e', he, q⟩ := kv_ents t (show KV _ _ from t') k v z
        exact ⟨e', List.mem_cons_of_mem _ he, q⟩
theorem kv_has {H : Hp} : ∀ {kvs : List (Key × V)} {row : Rw} {va : List (Key × Value)}, Paired (EntAt H) kvs row → KV kvs va → ∀ e ∈ row, ∃ v, ((Sum.inr (lt e.1) : Key), v) ∈ va
  | _, _, _, .nil, r, e, he => by cases he
  | _, _, _, .cons (a := kv) (b := e') h t, r, e, he => by
    unfold KV at r
    cases r with
    | @cons _ b _ _ h' t' =>
      rcases List.mem_cons.mp he with z | z
      · refine ⟨b.2, List.mem_cons.mpr (.inl ?_)⟩
        rw [z, ← h.1]
        exact Prod.ext h'.1 rfl
      · obtain ⟨v, hv⟩ := kv_has t (show KV _ _ from t') e z
        exact ⟨v, List.mem_cons_of_mem _ hv⟩
theorem valueAt_mem {vb : List (Key × Value)} {k : Key} {y : Value} (h : valueAt vb k = some y) : (k, y) ∈ vb := by
  unfold valueAt at h
  obtain ⟨kv, hkv, e⟩ := Option.map_eq_some_iff.mp h
  have h1 := List.find?_some hkv
  have h2 := List.mem_of_find?_eq_some hkv
  have h3 : kv.1 = k := by simpa using h1
  rw [← h3, ← e]
  exact h2
theorem valueAt_some {vb : List (Key × Value)} {k : Key} (h : ∃ v, (k, v) ∈ vb) : (valueAt vb k).isSome = true := by
  obtain ⟨v, h⟩ := h
  unfold valueAt
  rw [Option.isSome_map, List.find?_isSome]
  exact ⟨_, h, by simp⟩
theorem range2 {n : Nat} {f : Nat → Bool} (h : n = 2) : (List.range n).all f = (f 0 && f 1) := by
  subst h
  show (f 0 && (f 1 && true)) = _
  rw [Bool.and_true]
section
variable {X : Cx} {pins : List (Addr × Obj)} {σ : L2.St} {H : Hp} {s : Shared}
theorem eq_mvIn (I : Inv X pins σ H s) {A : Around} (hu : A.units < cLine) {p q : Addr} {m1 m2 : Mv} (h1 : MvAt H p m1) (h2 : MvAt H q m2) : SeqAt.EqIn X.prog X.w A s (.ref p) (.ref q) (decide (m1 = m2)) := by
  by_cases e : p = q
  · subst e
    rw [decide_eq_true (mv_fun h1 h2)]
    exact (SeqAt.EqAt.same _).inModel X.prog X.w
  · refine SeqAt.EqIn.of_refs e fun E Q hq => ?_
    obtain ⟨_, us, v1, t1⟩ := (show ObjOk X.prog X.w H s.heap p (.tup [.int m1.1, tellV m1.2]) from I.hok p _ h1)
    obtain ⟨_, ws, v2, t2⟩ := (show ObjOk X.prog X.w H s.heap q (.tup [.int m2.1, tellV m2.2]) from I.hok q _ h2)
    rcases v1 with _ | ⟨a1, v1⟩
    rcases v1 with _ | ⟨a2, v1⟩
    rcases v1 with _ | _
    rcases v2 with _ | ⟨b1, v2⟩
    rcases v2 with _ | ⟨b2, v2⟩
    rcases v2 with _ | _
    rename_i u1 u2 w1 w2
    obtain ⟨f, hf⟩ : ∃ f : Nat → Bool, f = fun j => if j = 0 then decide (m1.1 = m2.1) else decide (m1.2 = m2.2) := ⟨_, rfl⟩
    have f0 : f 0 = decide (m1.1 = m2.1) := by rw [hf]; exact if_pos rfl
    have f1 : f 1 = decide (m1.2 = m2.2) := by rw [hf]; exact if_neg (by decide)
    refine SeqAt.rcIn_tuples (items := #[u1, u2]) (items2 := #[w1, w2]) (e := f) t1 t2 hu (fun j j1 j2 => ?_) ?_
    · have j2' : j < 2 := j1
      rcases (by omega : j = 0 ∨ j = 1) with rfl | rfl
      · have := (eqAt_V (A := A.in1) (s := s) a1 b1 rfl rfl).inModel X.prog X.w
        rw [show eqV (V.int m1.1) (V.int m2.1) = f 0 from f0.symm] at this
        exact this
      · have := (eqAt_V (A := A.in1) (s := s) a2 b2 (tell_flat _) (tell_flat _)).inModel X.prog X.w
        rw [eqV_tell, ← f1] at this
        exact this
    · rw [range2 (show min #[u1, u2].size #[w1, w2].size = 2 from rfl), show (#[u1, u2].size == #[w1, w2].size) = true from rfl, Bool.and_true, f0, f1]
      rw [show (decide (m1.1 = m2.1) && decide (m1.2 = m2.2)) = decide (m1 = m2) by
        rw [Bool.eq_iff_iff, Bool.and_eq_true, decide_eq_true_iff, decide_eq_true_iff, decide_eq_true_iff]
        exact ⟨fun h => Prod.ext h.1 h.2, fun h => by rw [h]; exact ⟨rfl, rfl⟩⟩]
      exact hq
theorem eq_rwIn (I : Inv X pins σ H s) {A : Around} (hu : A.units + 1 < cLine) {p q : Addr} {r1 r2 : Rw} (s1 : Ris r1) (s2 : Ris r2) (h1 : RwAt H p r1) (h2 : RwAt H q r2) : SeqAt.EqIn X.prog X.w A s (.ref p) (.ref q) (decide (r1 = r2)) := by
  by_cases e : p = q
  · subst e
    rw [decide_eq_true (rw_fun h1 h2)]
    exact (SeqAt.EqAt.same _).inModel X.prog X.w
  · refine SeqAt.EqIn.of_refs e fun E Q hq => ?_
    obtain ⟨k1, a1, b1⟩ := rw_iff.mp h1
    obtain ⟨k2, a2, b2⟩ := rw_iff.mp h2
    obtain ⟨_, ya, va, ra, da⟩ := (show ObjOk X.prog X.w H s.heap p (.dK k1) from I.hok p _ a1)
    obtain ⟨_, yb, vb, rb, db⟩ := (show ObjOk X.prog X.w H s.heap q (.dK k2) from I.hok q _ a2)
    obtain ⟨ek, hek⟩ : ∃ ek : Key → Bool, ek = fun k => match k with
      | .inr z => decide (mvOf r1 (z.cps.toList.headD 0) = mvOf r2 (z.cps.toList.headD 0))
      | .inl _ => false := ⟨_, rfl⟩
    have ekl : ∀ c, ek (Sum.inr (lt c)) = decide (mvOf r1 c = mvOf r2 c) := fun c => by rw [hek]; rfl
    have la : va.length = r1.length := by rw [← ra.length, Paired.length b1]
    have lb : vb.length = r2.length := by rw [← rb.length, Paired.length b2]
    have fin : (va.length == vb.length && va.all fun p => (valueAt vb p.1).isSome && ek p.1) = decide (r1 = r2) := by
      rw [la, lb, Bool.eq_iff_iff, Bool.and_eq_true, beq_iff_eq, List.all_eq_true, decide_eq_true_iff]
      constructor
      · rintro ⟨hl, h⟩
        refine ris_eq s1 s2 hl fun e he => ?_
        obtain ⟨v, hv⟩ := kv_has b1 ra e he
        have := h _ hv
        rw [Bool.and_eq_true, ekl, decide_eq_true_iff] at this
        have hm : mvOf r1 e.1 = some e.2 := (mvOf_memS s1.nd).mpr he
        rw [hm] at this
        exact (mvOf_memS s2.nd).mp this.2.symm
      · rintro rfl
        refine ⟨rfl, fun p hp => ?_⟩
        obtain ⟨e, he, ek', _⟩ := kv_ents b1 ra p.1 p.2 hp
        rw [Bool.and_eq_true, ek', ekl]
        exact ⟨valueAt_some (kv_has b2 rb e he), decide_eq_true rfl⟩
    refine PySem.W.keq_eqIn (knd := mixKind X.prog X.w) ya yb da db (by omega) (fun _ => PySem.W.KeqHitsIn.of (e := ek) _ fun k v y hm hv => ?_) (by rw [fin]; exact hq)
    obtain ⟨e1, he1, ek1, p1, rfl, m1⟩ := kv_ents b1 ra k v hm
    obtain ⟨e2, he2, ek2, p2, rfl, m2⟩ := kv_ents b2 rb k y (valueAt_mem hv)
    have ec : e1.1 = e2.1 := by rw [ek1] at ek2; exact lt_inj (Sum.inr.inj ek2)
    have : ek k = decide (e1.2 = e2.2) := by
      rw [ek1, ekl, (mvOf_memS s1.nd).mpr he1, ec, (mvOf_memS s2.nd).mpr he2]
      exact decide_eq_decide.mpr ⟨fun h => Option.some.inj h, fun h => by rw [h]⟩
    rw [this]
    exact eq_mvIn I (by show A.units + 1 < cLine; omega) m1 m2
end
end SS

set_option maxRecDepth 100000
set_option maxHeartbeats 4000000
set_option pp.maxSteps 1500
namespace SR
open PySem PySem.Spec PyProof.Rows L2 PySem.SeqAt
/-! ### a tuple that is known to the object: its methods may be called -/
def TupF (H : Hp) (a : Addr) (xs : List V) : Prop := ∃ o : Obj, o.cls = .type "tuple" ∧ o.dict = none ∧ H a = some (.frz o (.tup xs))
theorem TupF.seq {K : PySem.W.Frag} {H : Hp} {a : Addr} {xs : List V} (h : TupF H a xs) : SqT K H a xs := by
  obtain ⟨o, _, _, h⟩ := h
  exact .inl (.inr ⟨o, h⟩)
theorem TupF.mono {H H' : Hp} {a : Addr} {xs : List V} (e : Same H H') (h : TupF H a xs) : TupF H' a xs := by
  obtain ⟨o, h1, h2, h⟩ := h
  exact ⟨o, h1, h2, e _ _ h⟩
theorem TupF.new {H : Hp} {a : Addr} {xs : List V} {o : Obj} (h1 : o.cls = .type "tuple") (h2 : o.dict = none) : TupF (upd H a (.frz o (.tup xs))) a xs := ⟨o, h1, h2, upd_same⟩
section
variable {X : Cx}
def rTupF (K : PySem.W.Frag) : List V → Hp → VK → Prop := fun xs H Q => ∃ p ys, xs = [V.ref p] ∧ SqL K H p ys ∧ ∀ (l : Addr) (o : Obj), o.cls = .type "tuple" → o.dict = none → H l = none → Q (.ref l) (upd H l (.frz o (.tup ys)))
theorem call_tuple_F : CallR X (.type "tuple") (rTupF X.K) := by
  intro pins s σ H xs us Q I r h
  obtain ⟨p, ys, rfl, hq, q⟩ := h
  obtain ⟨u, rfl, rx⟩ := vals1 r
  cases rx
  obtain ⟨its, r', pl, hz⟩ := I.list hq
  have hlen := r'.length
  refine call_tuple_list pl.isList (fun h' kp => ?_) (by simp only [List.size_toArray] <;> omega)
  have I1 : Inv X pins σ H { s with heap := h' } := I.kept (t' := s.toks) kp
  have I2 : Inv X pins σ (upd H h'.objs.size (.frz { cls := .type "tuple", data := .seq its.toArray } (.tup ys))) { s with heap := h'.push { cls := .type "tuple", data := .seq its.toArray } } :=
    I1.laid (t' := s.toks) (fun b o e => Heap.get?_push_of_some _ e) (Nat.le_refl _) (show ObjOk X.prog X.w _ _ _ (.frz { cls := .type "tuple", data := .seq its.toArray } (.tup ys)) from ⟨Heap.get?_push_size _ rfl, hz, its, r', IsTup.new _ _⟩)
  exact ⟨.ref h'.objs.size, _, I2, rfl, q _ _ rfl rfl (I1.hok.fresh (Nat.le_refl _))⟩
/-- t.index(k), t such a tuple of ints, k in it -/
def tTix (K : PySem.W.Frag) (to : TE) (t : TA) : TE := fun σ H Q => to σ H fun x H1 => (∃ p xs, x = .ref p ∧ TupF H1 p xs) ∧ t σ H1 fun vs H2 => ∃ (p : Addr) (ns : List Int) (k : Int), x = .ref p ∧ vs = [.int k] ∧ SqT K H2 p (ns.map .int) ∧ k ∈ ns ∧ Q (.int (ns.idxOf k : Nat)) H2
theorem pe_tix {o e : Expr} {to : TE} {t : TA} {apos cpos : Pos} (ho : PE X o to) (ha : PA X [e] t)
    (hbase : attributeBase o "index" X.env (eval o X.env) = eval o X.env := by rfl)
    (hfew : ((backTo cpos (starEach [e] X.env)).all (fun x => !x.1) && (backToKw cpos (keywordEach [] X.env)).all (fun x => x.1.isSome)
      && decide ([e].length + ([] : List Keyword).length + (if ([] : List Keyword).isEmpty then 0 else 1) < 30)) = true := by rfl)
    (hline : (apos.endLine == cpos.line) = true := by rfl) (hs : starEach [e] X.env = [(false, eval e X.env)] := by rfl) :
    PE X (.Call (.Attribute o "index" apos) [e] [] cpos) (tTix X.K to t) := by
  refine ⟨fun pins s σ H Q I h => ?_⟩
  refine wpAny_Call_method_late hbase hfew hline rfl (thn (ho.run pins s σ H _ I h) fun v s1 ⟨x, H1, I1, r1, ty, q1⟩ => ?_)
  obtain ⟨p, xs, ex, ob, hc, hd, hH⟩ := ty
  subst ex
  obtain rfl : v = Value.ref p := r1
  have ok := I1.hok _ _ hH
  have h1 : s1.TypeIs (.ref p) "tuple" := ⟨ob, ok.1, hc⟩
  refine ⟨"tuple", "tuple.index", PySem.F.plainAttrs_tuple, PySem.F.slot_tuple_index, PySem.F.type_tuple_index, h1, fun a ea => by cases ea; exact ⟨ob, ok.1, hd⟩, ?_⟩
  have hA := ha.run cpos pins s1 σ H1 _ I1 q1
  rw [hs] at hA ⊢
  refine Calls.callWith_builtin (by rfl) (Calls.evalArgs_plain ?_)
  refine thn hA fun us s2 ⟨vs, H2, I2, r2, q2⟩ => ?_
  obtain ⟨p', ns, k, e1, e2, sq, hk, q⟩ := q2
  cases e1
  subst e2
  obtain ⟨u, eu, rx⟩ := vals1 r2
  subst eu
  obtain ⟨tk, rfl⟩ := rx
  obtain ⟨its, rv, pt, hz⟩ := I2.tuple sq
  exact tuple_index_ints (vs := its) (show s2.heap.IsTuple p its.toArray from pt) rv.ints hk ⟨.int _, H2, I2.tok _, ⟨_, rfl⟩, q⟩
end
end SR

set_option maxRecDepth 100000
set_option maxHeartbeats 1000000
set_option pp.maxSteps 1500
namespace SS
open PySem PySem.Spec PyProof.Rows L2 SR TL
theorem range3 {n : Nat} {f : Nat → Bool} (h : n = 3) : (List.range n).all f = (f 0 && (f 1 && f 2)) := by
  subst h
  show (f 0 && (f 1 && (f 2 && true))) = _
  rw [Bool.and_true]
theorem range_eq {α : Type} [DecidableEq α] {xs ys : List α} {f : Nat → Bool} (hf : ∀ j, f j = decide (xs[j]? = ys[j]?)) : ((List.range (min xs.length ys.length)).all f && xs.length == ys.length) = decide (xs = ys) := by
  rw [Bool.eq_iff_iff, Bool.and_eq_true, List.all_eq_true, beq_iff_eq, decide_eq_true_iff]
  constructor
  · rintro ⟨h, hl⟩
    refine List.ext_getElem? fun j => ?_
    by_cases hj : j < xs.length
    · have := h j (List.mem_range.mpr (by omega))
      rw [hf, decide_eq_true_iff] at this
      exact this
    · rw [List.getElem?_eq_none (by omega), List.getElem?_eq_none (by omega)]
  · rintro rfl
    exact ⟨fun j _ => by rw [hf]; exact decide_eq_true rfl, rfl⟩
section
variable {X : Cx} {pins : List (Addr × Obj)} {σ : L2.St} {H : Hp} {s : Shared}
theorem rc_tupIn {α : Type} [DecidableEq α] {A : Around} {p q : Addr} {us ws : List Value} {xs ys : List α} (hu : A.units < cLine) (t1 : s.heap.IsTuple p us.toArray) (t2 : s.heap.IsTuple q ws.toArray) (l1 : us.length = xs.length) (l2 : ws.length = ys.length)
    (he : ∀ (j : Nat) (u w : Value) (x y : α), us[j]? = some u → ws[j]? = some w → xs[j]? = some x → ys[j]? = some y → SeqAt.EqIn X.prog X.w A.in1 s u w (decide (x = y))) (E Q : Value → Shared → Prop) (hq : Q (.bool (decide (xs = ys))) s) :
    wpAny (model X.prog X.w) A (richCompare .Eq (.ref p) (.ref q)) Q E s := by
  obtain ⟨f, hf⟩ : ∃ f : Nat → Bool, f = fun j => decide (xs[j]? = ys[j]?) := ⟨_, rfl⟩
  have hf' : ∀ j, f j = decide (xs[j]? = ys[j]?) := fun j => by rw [hf]
  refine SeqAt.rcIn_tuples (e := f) t1 t2 hu (fun j j1 j2 => ?_) ?_
  · have k1 : j < us.length := by simpa using j1
    have k2 : j < ws.length := by simpa using j2
    have k1' : j < xs.length := by omega
    have k2' : j < ys.length := by omega
    have := he j us[j] ws[j] xs[j] ys[j] (List.getElem?_eq_getElem k1) (List.getElem?_eq_getElem k2) (List.getElem?_eq_getElem k1') (List.getElem?_eq_getElem k2')
    have e3 : f j = decide (xs[j] = ys[j]) := by
      rw [hf', List.getElem?_eq_getElem k1', List.getElem?_eq_getElem k2']
      exact decide_eq_decide.mpr ⟨fun h => Option.some.inj h, fun h => by rw [h]⟩
    rw [e3, show us.toArray[j] = us[j] from rfl, show ws.toArray[j] = ws[j] from rfl]
    exact this
  · rw [List.size_toArray, List.size_toArray, l1, l2, range_eq hf']
    exact hq
theorem eq_intsIn (I : Inv X pins σ H s) {A : Around} (hu : A.units < cLine) {p q : Addr} {E1 E2 : List Int} (h1 : H p = some (.tup (E1.map .int))) (h2 : H q = some (.tup (E2.map .int))) : SeqAt.EqIn X.prog X.w A s (.ref p) (.ref q) (decide (E1 = E2)) := by
  by_cases e : p = q
  · subst e
    rw [h1] at h2
    have h := HO.tup.inj (Option.some.inj h2)
    have : E1 = E2 := by
      have := congrArg (List.map fun v : V => match v with | .int i => i | _ => 0) h
      rw [List.map_map, List.map_map] at this
      simpa [Function.comp_def] using this
    rw [decide_eq_true this]
    exact (SeqAt.EqAt.same _).inModel X.prog X.w
  · refine SeqAt.EqIn.of_refs e fun E Q hq => ?_
    obtain ⟨us, v1, t1, _⟩ := I.tuple (SqT.of h1)
    obtain ⟨ws, v2, t2, _⟩ := I.tuple (SqT.of h2)
    refine rc_tupIn hu t1 t2 (by rw [← v1.length, List.length_map]) (by rw [← v2.length, List.length_map]) (fun j u w x y hu' hw hx hy => ?_) E Q hq
    obtain ⟨u', hu2, ru⟩ := v1.get (i := j) (x := .int x) (by rw [List.getElem?_map, hx]; rfl)
    obtain ⟨w', hw2, rw'⟩ := v2.get (i := j) (x := .int y) (by rw [List.getElem?_map, hy]; rfl)
    rw [hu'] at hu2
    rw [hw] at hw2
    cases hu2
    cases hw2
    have := (eqAt_V (A := A.in1) (s := s) ru rw' rfl rfl).inModel X.prog X.w
    rw [show eqV (V.int x) (V.int y) = decide (x = y) from rfl] at this
    exact this
theorem eq_rowsIn (I : Inv X pins σ H s) {A : Around} (hu : A.units + 2 < cLine) {p q : Addr} {qs ps : List Addr} {R1 R2 : List Rw} (h1 : H p = some (.tup (qs.map .ref))) (h2 : H q = some (.tup (ps.map .ref))) (p1 : Paired (RwAt H) qs R1) (p2 : Paired (RwAt H) ps R2) (g1 : ∀ r ∈ R1, Ris r) (g2 : ∀ r ∈ R2, Ris r) :
    SeqAt.EqIn X.prog X.w A s (.ref p) (.ref q) (decide (R1 = R2)) := by
  by_cases e : p = q
  · subst e
    rw [h1] at h2
    have h := HO.tup.inj (Option.some.inj h2)
    have hq : qs = ps := by
      have := congrArg (List.map fun v : V => match v with | .ref i => i | _ => 0) h
      rw [List.map_map, List.map_map] at this
      simpa [Function.comp_def] using this
    subst hq
    rw [decide_eq_true (rws_fun p1 p2)]
    exact (SeqAt.EqAt.same _).inModel X.prog X.w
  · refine SeqAt.EqIn.of_refs e fun E Q hq => ?_
    obtain ⟨us, v1, t1, _⟩ := I.tuple (SqT.of h1)
    obtain ⟨ws, v2, t2, _⟩ := I.tuple (SqT.of h2)
    refine rc_tupIn (by omega) t1 t2 (by rw [← v1.length, List.length_map, Paired.length p1]) (by rw [← v2.length, List.length_map, Paired.length p2]) (fun j u w x y hu' hw hx hy => ?_) E Q hq
    obtain ⟨a, ha, ra⟩ := paired_get j p1 hx
    obtain ⟨b, hb, rb⟩ := paired_get j p2 hy
    obtain ⟨u', hu2, ru⟩ := v1.get (i := j) (x := .ref a) (by rw [List.getElem?_map, ha]; rfl)
    obtain ⟨w', hw2, rw'⟩ := v2.get (i := j) (x := .ref b) (by rw [List.getElem?_map, hb]; rfl)
    rw [hu'] at hu2
    rw [hw] at hw2
    cases hu2
    cases hw2
    obtain rfl : u = Value.ref a := ru
    obtain rfl : w = Value.ref b := rw'
    exact eq_rwIn I (by show A.units + 1 + 1 < cLine; omega) (g1 _ (List.mem_of_getElem? hx)) (g2 _ (List.mem_of_getElem? hy)) ra rb
/-- (rows, ends, start) == (rows, ends, start) -/
def rEqRd : R2 := fun x y H Q => ∃ (p q pr qr pe qe : Addr) (n m : Int) (qs ps : List Addr) (R1 R2 : List Rw) (E1 E2 : List Int), x = .ref p ∧ y = .ref q ∧ H p = some (.tup [.ref pr, .ref pe, .int n]) ∧ H q = some (.tup [.ref qr, .ref qe, .int m]) ∧
  H pr = some (.tup (qs.map .ref)) ∧ H qr = some (.tup (ps.map .ref)) ∧ Paired (RwAt H) qs R1 ∧ Paired (RwAt H) ps R2 ∧ (∀ r ∈ R1, Ris r) ∧ (∀ r ∈ R2, Ris r) ∧ H pe = some (.tup (E1.map .int)) ∧ H qe = some (.tup (E2.map .int)) ∧ p ≠ q ∧ Q (.bl (decide (R1 = R2 ∧ E1 = E2 ∧ n = m))) H
theorem op_eqRd (hu : X.A.units + 64 < cLine) : OpR X (compareOp .Eq) rEqRd := by
  intro pins s σ H x y v u Q I rx ry h
  obtain ⟨p, q, pr, qr, pe, qe, n, m, qs, ps, R1, R2, E1, E2, rfl, rfl, h1, h2, h3, h4, p1, p2, g1, g2, h5, h6, npq, k⟩ := h
  cases rx
  cases ry
  obtain ⟨us, v1, t1, _⟩ := I.tuple (SqT.of h1)
  obtain ⟨ws, v2, t2, _⟩ := I.tuple (SqT.of h2)
  rcases v1 with _ | ⟨a1, v1⟩
  rcases v1 with _ | ⟨a2, v1⟩
  rcases v1 with _ | ⟨a3, v1⟩
  rcases v1 with _ | _
  rcases v2 with _ | ⟨b1, v2⟩
  rcases v2 with _ | ⟨b2, v2⟩
  rcases v2 with _ | ⟨b3, v2⟩
  rcases v2 with _ | _
  rename_i u1 u2 u3 w1 w2 w3
  obtain rfl : u1 = Value.ref pr := a1
  obtain rfl : u2 = Value.ref pe := a2
  obtain rfl : w1 = Value.ref qr := b1
  obtain rfl : w2 = Value.ref qe := b2
  obtain ⟨f, hf⟩ : ∃ f : Nat → Bool, f = fun j => if j = 0 then decide (R1 = R2) else if j = 1 then decide (E1 = E2) else decide (n = m) := ⟨_, rfl⟩
  have f0 : f 0 = decide (R1 = R2) := by rw [hf]; exact if_pos rfl
  have f1 : f 1 = decide (E1 = E2) := by rw [hf]; exact (if_neg (by decide)).trans (if_pos rfl)
  have f2 : f 2 = decide (n = m) := by rw [hf]; exact (if_neg (by decide)).trans (if_neg (by decide))
  refine SeqAt.rcIn_tuples (items := #[.ref pr, .ref pe, u3]) (items2 := #[.ref qr, .ref qe, w3]) (e := f) t1 t2 (by omega) (fun j j1 j2 => ?_) ?_
  · have j2' : j < 3 := j1
    rcases (by omega : j = 0 ∨ j = 1 ∨ j = 2) with rfl | rfl | rfl
    · rw [f0]
      exact eq_rowsIn I (by show X.A.units + 1 + 2 < cLine; omega) h3 h4 p1 p2 g1 g2
    · rw [f1]
      exact eq_intsIn I (by show X.A.units + 1 < cLine; omega) h5 h6
    · rw [f2]
      have := (eqAt_V (A := X.A.in1) (s := s) a3 b3 rfl rfl).inModel X.prog X.w
      rw [show eqV (V.int n) (V.int m) = decide (n = m) from rfl] at this
      exact this
  · rw [range3 (show min #[Value.ref pr, .ref pe, u3].size #[Value.ref qr, .ref qe, w3].size = 3 from rfl), show (#[Value.ref pr, .ref pe, u3].size == #[Value.ref qr, .ref qe, w3].size) = true from rfl, Bool.and_true, f0, f1, f2]
    rw [show (decide (R1 = R2) && (decide (E1 = E2) && decide (n = m))) = decide (R1 = R2 ∧ E1 = E2 ∧ n = m) by
      rw [Bool.eq_iff_iff, Bool.and_eq_true, Bool.and_eq_true, decide_eq_true_iff, decide_eq_true_iff, decide_eq_true_iff, decide_eq_true_iff]]
    exact ⟨.bl _, H, I, rfl, k⟩
end
end SS

set_option maxRecDepth 100000
set_option maxHeartbeats 4000000
set_option pp.maxSteps 1500
namespace SS
open PySem L2 SR TL
/-- the class's type -/
structure RTy (K : PySem.W.Frag) (C : Addr) : Prop where
  cls : PySem.W.findIn K (.ref C) "__class__" = some (some (.builtin "object.__class__"))
  getc : PySem.W.specialIn K (.builtin "object.__class__") "__get__" = some (some (.builtin "getset_descriptor.__get__"))
  tak : PySem.W.takesIn K (.builtin "object.__class__") = some true
  mro : PySem.W.mroIn K C (.type "object") = some true
theorem RTy.kit (K : PySem.W.Frag) (C : Addr) : PySem.W.kitOne K (.ref C) (.ref C) = some true := if_pos (beq_self_eq_true _)
section
variable {P : Program} {w : World} {K : PySem.W.Frag} {mg : Str → Option Value} {base : Heap}
/-! ### Reader.__eq__, of a reader and of anything else -/
abbrev sEql : Stmt := inClass (top 26) 12
abbrev psEql : List Str := ["self", "other"]
theorem scEql : FnScope psEql psEql (defScope sEql) := ⟨rfl, rfl, rfl, by decide +kernel, rfl, by decide +kernel, by decide +kernel⟩
def spEql (C : Addr) : Sp := fun vs H Q _ => (∃ (x y : Addr) (R1 R2 : List Rw) (E1 E2 : List Int) (n m : Int), vs = [.ref x, .ref y] ∧ RdAt C H x R1 E1 n ∧ RdAt C H y R2 E2 m ∧ (∀ r ∈ R1, Ris r) ∧ (∀ r ∈ R2, Ris r) ∧ ∀ H', Same H H' → Q (.bl (decide (R1 = R2 ∧ E1 = E2 ∧ n = m))) H') ∨
  ∃ (x : Addr) (y : V) (T : String) (R : List Rw) (E : List Int) (n : Int), vs = [.ref x, y] ∧ RdAt C H x R E n ∧ Odd H y T ∧ Q (.bl false) H
theorem ok_eql {f C : Addr} {fd : FuncData} (F : Fun K "__eq__" "Reader.__eq__" sEql f fd) (B : Bl mg) (T : RTx K mg C) (Y : RTy K C) (O : OddC K C) : FnG P w K mg base 2 f fd psEql (spEql C) := by
  refine okG F scEql (fun vs H Q E h => ?_) (fun cdv A outer s H vs Q E hr hgd h => ?_)
  · rcases h with ⟨x, y, R1, R2, E1, E2, n, m, rfl, _⟩ | ⟨x, y, T', R, E', n, rfl, _⟩ <;> rfl
  · refine ⟨_, pss_cons (ps_if (pt_not (pt_val (pe_callB call_isi (by rfl) B.isinstance (by decide +kernel) (pa_cons (pv 1) (pa_cons (pe_glob (v := .ref C) rfl T.mgC rfl) pa_nil))))) (pss_one (ps_ret pe_bl)) pss_nil)
      (pss_one (ps_ret (pe_cmpR (op_eqRd hr.units) (pe_tup (pa_cons (pe_fld (pv 0) rfl) (pa_cons (pe_fld (pv 0) rfl) (pa_cons (pe_fld (pv 0) rfl) pa_nil)))) (pe_tup (pa_cons (pe_fld (pv 1) rfl) (pa_cons (pe_fld (pv 1) rfl) (pa_cons (pe_fld (pv 1) rfl) pa_nil)))) (nomark _)))), ?_⟩
    rcases h with ⟨x, y, R1, R2, E1, E2, n, m, rfl, D1, D2, g1, g2, k⟩ | ⟨x, y, T', R, E', n, rfl, D1, o, k⟩
    · obtain ⟨dx, pr, pe, fs, qs, a1, a2, a3, a4, a5, a6, a7, a8⟩ := D1.ex
      obtain ⟨dy, qr, qe, gs, ps, b1, b2, b3, b4, b5, b6, b7, b8⟩ := D2.ex
      refine ⟨_, rfl, _, _, _, _, true, rfl, .own C, .base (.ins b1 T.cl Y.cls Y.getc Y.tak Y.mro), RTy.kit K C, _, rfl, iteF ?_⟩
      refine ⟨_, rfl, x, C, dx, _, _, rfl, a1, T.cl, T.nR, a2, _, rfl, x, C, dx, _, _, rfl, a1, T.cl, T.nE, a3, _, rfl, x, C, dx, _, _, rfl, a1, T.cl, T.nS, a4, (by show 3 ≤ sizeLine; decide), fun p np => ?_⟩
      have e1 := same_new (o := .tup [.ref pr, .ref pe, .int n]) np
      refine ⟨_, rfl, y, C, dy, _, _, rfl, e1 _ _ b1, T.cl, T.nR, b2, _, rfl, y, C, dy, _, _, rfl, e1 _ _ b1, T.cl, T.nE, b3, _, rfl, y, C, dy, _, _, rfl, e1 _ _ b1, T.cl, T.nS, b4, (by show 3 ≤ sizeLine; decide), fun q nq => ?_⟩
      have e2 := same_new (o := .tup [.ref qr, .ref qe, .int m]) nq
      have e12 := e1.trans e2
      have hp : (upd (upd H p (.tup [.ref pr, .ref pe, .int n])) q (.tup [.ref qr, .ref qe, .int m])) p = some (.tup [.ref pr, .ref pe, .int n]) := e2 _ _ upd_same
      refine ⟨p, q, pr, qr, pe, qe, n, m, qs, ps, R1, R2, E1, E2, rfl, rfl, hp, upd_same, e12 _ _ a6, e12 _ _ b6, Paired.mono a7 fun a b g => g.mono e12, Paired.mono b7 fun a b g => g.mono e12, g1, g2, e12 _ _ a8, e12 _ _ b8, ne_of_none upd_same nq, ?_⟩
      exact k _ e12
    · exact ⟨_, rfl, _, _, _, _, false, rfl, .own C, o.tyx, O.kit o.mem, _, rfl, iteT k⟩
end
end SS

set_option maxRecDepth 100000
set_option maxHeartbeats 4000000
set_option pp.maxSteps 1500
namespace SR
open PySem PySem.Spec PyProof.Rows L2 ClX
/-- a def called with positional arguments and keywords, wherever the positional ones go -/
def FnK (P : Program) (w : World) (K : PySem.W.Frag) (mg : Str → Option Value) (base : Heap) (CX : CXT) (k : Nat) (f : Addr) (ks : List Str) (sp : List V → Sp) : Prop :=
  ∀ (A : Around) (outer : List Env) (s : Shared) (H : Hp) (us ws : List Value) (vs zs : List V) (Q : VK) (E : XK), Room k A → Env0 P w K mg base A outer s H → Vals vs us → Vals zs ws → zs.length = ks.length → sp zs vs H Q E →
    codeAny (model P w) A (.call (.ref f) ⟨us, ks.zip ws⟩) (CR CX outer P w H s Q E) s
section
variable {X : Cx} {CX : CXT} {k : Nat} {C p g : Addr} {mc : Value} {ks : List Str} {sp : List V → Sp} {E : XK} {o e : Expr} {es : List Expr} {m : Str} {pos apos : Pos} {ta : TE} {t tk : TA} {pl : Sem Bool} {kws : List Keyword}
def tCMethK (C : Addr) (n : Nat) (sp : List V → Sp) (E : XK) (ta : TE) (t tk : TA) : TE := fun σ H Q => ta σ H fun x H1 => x = .ref C ∧ t σ H1 fun vs H2 => tk σ H2 fun zs H3 => zs.length = n ∧ sp zs (.ref C :: vs) H3 Q E
/-- C.m(e, .., k = v, ..) of a classmethod -/
theorem pe_cmethK (he : PE X o ta) (r : CRead X.K C mc) (c : CMet X.K C mc m p g) (F : FnK X.prog X.w X.K X.mg X.base CX k g ks sp) (hr : Room k X.A) (hx : Passes CX X E) (ha : PA X (e :: es) t) (hkw : PK X kws tk)
    (hall : (backToKw pos (keywordEach kws X.env)).all (·.1.isSome) = true := by rfl) (hks : (backToKw pos (keywordEach kws X.env)).filterMap (·.1) = ks := by rfl)
    (hst : starEach (e :: es) X.env = (false, eval e X.env) :: starEach es X.env := by rfl)
    (hpl : ((backTo pos (starEach (e :: es) X.env)).any (·.1) || (backToKw pos (keywordEach kws X.env)).any (·.1.isNone)) = false := by rfl)
    (ht : eval (.Call (.Attribute o m apos) (e :: es) kws pos) X.env = (do
      let ov ← eval o X.env
      standAt apos.atName
      let (f, first) ← holding [ov] (getMethod ov m pl)
      callWith pos f first (backTo pos (starEach (e :: es) X.env)) (backToKw pos (keywordEach kws X.env))) := by rfl) :
    PE X (.Call (.Attribute o m apos) (e :: es) kws pos) (tCMethK C ks.length sp E ta t tk) := by
  refine ⟨fun pins s σ H Q I h => ?_⟩
  refine PySem.W.methodCall_KW (pl := pl) (thn (he.run pins s σ H _ I h) fun u s1 ⟨x, H1, I1, rx, ex, q⟩ => ?_) ht
  subst ex
  obtain rfl : u = Value.ref C := rx
  refine getmethcm_ok I1 r c fun s2 I2 => ?_
  refine PySem.W.callWith_of hpl (PySem.W.keeps_M (K := X.K) (self := .ref C) c.fi) (evalArgs_kw2 hall (thn (ha.run pos _ s2 σ H1 _ I2 q) fun us s3 ⟨vs, H2, I3, rv, q2⟩ => thn (hkw.run pos _ s3 σ H2 _ I3 q2) fun ws s4 ⟨zs, H3, I4, rz, l2, q3⟩ => ⟨⟨pin_at I4, I4.kIn⟩, ?_⟩) hst)
  rw [hks]
  refine wpAny_call (PySem.W.method_call (pin_at I4) (codeAny_mono (F X.A X.stack s4 H3 (.ref C :: us) ws (.ref C :: vs) zs Q E hr I4.env0 (.cons rfl rv) rz l2 q3) fun r s' hq => ?_))
  cases r with
  | error e => exact hx pins σ _ _ e s' (unpin I4) hq
  | ok fl =>
    cases fl with
    | ret u => exact unpinE (I4.after hq)
    | next => exact False.elim hq
    | brk => exact False.elim hq
    | cont => exact False.elim hq
end
end SR

set_option maxRecDepth 100000
set_option maxHeartbeats 4000000
set_option pp.maxSteps 1500
namespace SR
open PySem PySem.Spec PyProof.Rows L2 StX
/-- t looks the names up in the dict at D, one behind another, and goes on as t' -/
def KwTo {α : Type} (D : Addr) : List (Str × Value) → Sem α → Sem α → Prop
  | [], t, t' => t = t'
  | q :: l, t, t' => ∃ (β γ : Type) (k1 : Option Value → Sem β) (k2 : β → Sem γ) (k3 : γ → Sem α) (a : β), t = ((nsGet D q.1 >>= k1) >>= k2) >>= k3 ∧ k1 (some q.2) = pure a ∧ KwTo D l (k2 a >>= k3) t'
theorem KwTo.wp {α : Type} {K : PySem.W.Frag} {M : Model} {D : Addr} {A : Around} {Q : α → Shared → Prop} {E : Value → Shared → Prop} {s : Shared} (X : K.In s.heap) : ∀ {l : List (Str × Value)} {t t' : Sem α}, (∀ q ∈ l, PySem.W.nsIn K D q.1 = some (some q.2)) → KwTo D l t t' → wpAny M A t' Q E s → wpAny M A t Q E s
  | [], t, t', _, e, h => by rw [show t = t' from e]; exact h
  | q :: l, t, t', hl, e, h => by
    obtain ⟨β, γ, k1, k2, k3, a, e1, e2, e3⟩ := e
    have l1 : PySem.W.Looks M s.heap (nsGet D q.1 >>= k1) a := (PySem.W.looks_nsIn X (hl q (List.mem_cons_self ..))).andThen (PySem.W.Looks.of_pure e2)
    rw [e1, bind_assoc]
    exact wpAny_bind (l1 A _ _ s (fun _ _ e => e) (KwTo.wp X (fun p hp => hl p (List.mem_cons_of_mem _ hp)) e3 h))
section
variable {CX : CXT} {P : Program} {w : World} {K : PySem.W.Frag} {mg : Str → Option Value} {base : Heap} {k : Nat} {f : Addr} {name qual : Str} {params : Arguments} {body : List Stmt} {scope : Scope} {dV kV doc pm cdv ct oc : Value} {an od : Option Addr}
  {osl : Array (Option Value)} {N ps kn ks : List Str} {ms : List (Str × V)} {sp : Sp}
/-- def f(a, .., *v, k = .., ..), called with positional arguments and some of the keywords (ks); ms: those that lack. The tuple is bound last -/
theorem fn_starK {pv : Str} {D : Addr} (gk : {α : Type} → List α → List α → List α) (lk : K.lookup f = some ⟨oc, od, .func (PySem.W.fnOf name qual params body scope dV kV doc pm an cdv ct), osl⟩) (hcd : PySem.W.codeIn K cdv qual = true) (S : FnScope N (ps ++ (kn ++ [pv])) scope) (hCX : CXUp CX)
    (kwd : ∀ q ∈ ms, ∃ u, PySem.W.nsIn K D q.1 = some (some u) ∧ RelV q.2 u) (hg : ∀ {zs mz : List V} {ws mv : List Value}, Vals zs ws → Vals mz mv → Vals (gk zs mz) (gk ws mv)) (hgl : ∀ zs mz : List V, zs.length = ks.length → mz.length = ms.length → (gk zs mz).length = kn.length)
    (hb : ∀ us rest ws mv : List Value, us.length = ps.length → ws.length = ks.length → mv.length = ms.length → KwTo D ((ms.map (·.1)).zip mv) (bindArgs (PySem.W.fnOf name qual params body scope dV kV doc pm an cdv ct) ⟨us ++ rest, ks.zip ws⟩) (newTuple rest >>= fun t => pure (ps.zip us ++ (kn.zip (gk ws mv) ++ [(pv, t)]))))
    (hbody : ∀ (A : Around) (outer : List Env) (s : Shared) (H : Hp) (vs : List V) (Q : VK) (E : XK), Room k (A.deeper (envOfC qual scope s.heap.objs.size f cdv)) → sp vs H Q E →
      ∃ t, PSs (cxOf CX P w K mg base N qual scope f cdv A outer s H E) body t ∧ t { nx := fun _ H' => Q .non H', rt := Q } (start N vs) H) :
    FnK P w K mg base CX (k + 1) f ks (fun zs vs H Q E => ∃ ws rest, vs = ws ++ rest ∧ ws.length = ps.length ∧ rest.length ≤ sizeLine ∧ ∀ p, H p = Option.none → sp (ws ++ (gk zs (ms.map (·.2)) ++ [V.ref p])) (upd H p (.tup rest)) Q E) := by
  intro A outer s H us kw vs zs Q E hr e0 r rz lz hsp
  obtain ⟨ws, rest, ev, hl, hz, hq⟩ := hsp
  subst ev
  obtain ⟨u1, u2, eu, r1, r2⟩ := vals_split r
  subst eu
  have KX : K.In s.heap := e0.mod.kin.keeps fun b o e => (e0.bs b o e).1
  obtain ⟨mv, hml, rk, hks⟩ := kwd_vals kwd
  have hn : H s.heap.objs.size = Option.none := e0.hok.fresh (Nat.le_refl _)
  have hl1 : u1.length = ps.length := by rw [← r1.length]; exact hl
  have hl2 : u2.length ≤ sizeLine := by rw [← r2.length]; exact hz
  have hl3 : kw.length = ks.length := by rw [← rz.length]; exact lz
  have rg := hg rz rk
  have hgV := hgl zs (ms.map (·.2)) lz (List.length_map _)
  have hl4 : kn.length = (gk kw mv).length := by rw [← rg.length, hgV]
  refine run_bnd lk hcd S hr e0 (G := fun xs H2 => ∃ p, H p = Option.none ∧ xs = ws ++ (gk zs (ms.map (·.2)) ++ [V.ref p]) ∧ H2 = upd H p (.tup rest)) (fun A' Ex Q' h => ?_) fun s2 H2 xs ⟨p, hp, ex, eH⟩ hr' => ?_
  · refine KwTo.wp KX hks (hb u1 u2 kw mv hl1 hl3 hml) ?_
    refine wpAny_bind (wpAny_newTuple (wpAny_pure ?_) hl2)
    have new : ObjOk P w (upd H s.heap.objs.size (.tup rest)) (s.heap.push ({ cls := .type "tuple", data := .seq u2.toArray } : Obj)) s.heap.objs.size (.tup rest) := ⟨hz, u2, r2, ⟨_, Heap.get?_push_size _ rfl, rfl, _, rfl⟩⟩
    have un := un_laid (fs := frs outer) (s := s) (o := ({ cls := .type "tuple", data := .seq u2.toArray } : Obj)) (u := .tup rest) hn
    have z := h _ _ (ws ++ (gk zs (ms.map (·.2)) ++ [V.ref s.heap.objs.size])) (u1 ++ (gk kw mv ++ [Value.ref s.heap.objs.size])) (env0_laid e0 new) un rfl (fun e s' => hCX outer s H _ _ E e s' un (fun b o q => Heap.get?_push_of_some _ q) rfl) (r1.append (rg.append (.cons rfl .nil)))
      (by rw [List.length_append, List.length_append, List.length_append, List.length_append, hl, hgV]; rfl) ⟨_, hn, rfl, rfl⟩
    rw [List.zip_append hl1.symm, List.zip_append hl4] at z
    exact z
  · subst ex eH
    exact hbody A outer s2 _ _ Q E hr' (hq p hp)
theorem FnK.fnR {g : Addr} {sp : List V → Sp} (F : FnK P w K mg base CX k g [] sp) : FnR P w K mg base CX k g (sp []) := fun A outer s H us vs Q E hr e0 r h => F A outer s H us [] vs [] Q E hr e0 r .nil rfl h
end
/-- a list of zs, its two last ones -/
def gK0 {α : Type} : List α → List α → List α := fun zs mz => zs ++ mz
end SR

set_option maxRecDepth 100000
set_option maxHeartbeats 4000000
set_option pp.maxSteps 1500
namespace SR
open PySem PySem.Spec PyProof.Rows L2
/-- the i-th slot holds the class at C: x(.., k = v) makes one -/
def tMakeLN (i : Nat) (C : Addr) (n m : Nat) (sp : Sp) (gV : List V → List V → List V) (E : XK) (t tk : TA) : TE := fun σ H Q => σ[i]? = some (some (.ref C)) ∧ tMakeN C n m sp gV E t tk σ H Q
theorem pe_makeLN {X : Cx} {CX : CXT} {k i n : Nat} {C f : Addr} {fd : FuncData} {ps ks : List Str} {sp : Sp} {g : List Value → List Value → List Value} {gV : List V → List V → List V} {E : XK} {x : Str} {p pos : Pos} {e : Expr} {es : List Expr} {kws : List Keyword} {t tk : TA} (M : Mk X.K C f) (F : FnOk X.prog X.w X.K X.mg X.base CX k f fd ps sp) (hr : Room (k + 1) X.A) (hN : X.N[i]? = some x) (hv : Vis X.env.scope x) (hb : KBn X.K fd ps (n + 1) ks g gV) (hx : Passes CX X E)
    (ha : PA X (e :: es) t) (hkw : PK X kws tk) (hall : (backToKw pos (keywordEach kws X.env)).all (·.1.isSome) = true := by rfl) (hks : (backToKw pos (keywordEach kws X.env)).filterMap (·.1) = ks := by rfl)
    (hdb : (x == ("__debug__" : Str)) = false := by decide) (hcd : (x == ("__classdict__" : Str)) = false := by decide) (he : starEach (e :: es) X.env = (false, eval e X.env) :: starEach es X.env := by rfl)
    (hpl : ((backTo pos (starEach (e :: es) X.env)).any (·.1) || (backToKw pos (keywordEach kws X.env)).any (·.1.isNone)) = false := by rfl) : PE X (.Call (.Name x p) (e :: es) kws pos) (tMakeLN i C n ks.length sp gV E t tk) := by
  refine ⟨fun pins s σ H Q I h => ?_⟩
  obtain ⟨hs, ht⟩ := h
  refine wpAny_Call_Name_kw (thn ((pe_var (pos := p) hN hv hdb hcd).run pins s σ H (fun v H1 => v = .ref C ∧ H1 = H) I ⟨.ref C, hs, rfl, rfl⟩) fun u s1 ⟨v, H1, I1, r1, q1⟩ => ?_)
  obtain ⟨rfl, rfl⟩ := q1
  cases r1
  refine PySem.W.callWith_KW (h₀ := X.base) I.ok.mod.kin M.kp hall (thn (ha.run pos pins s1 σ _ _ I1 ht) fun us s2 ⟨vs, H2, I2, r, q⟩ => ?_) hpl he
  refine thn (hkw.run pos pins s2 σ H2 _ I2 q) fun ws s3 ⟨zs, H3, I3, rz, l1, l2, q3⟩ => ⟨I3.kIn, ?_⟩
  rw [hks]
  exact run_makeN M F hr hb hx I3 r rz l1 l2 q3
end SR

set_option maxRecDepth 100000
set_option maxHeartbeats 4000000
set_option pp.maxSteps 1500
namespace SR
open PySem PySem.Spec PyProof.Rows L2
/-- C(k = v, ..): keywords alone -/
def tMakeN0 (C : Addr) (m : Nat) (sp : Sp) (gV : List V → List V → List V) (E : XK) (tk : TA) : TE := fun σ H Q => tk σ H fun zs H2 => zs.length = m ∧
  ∀ x dx, H2 x = none → H2 dx = none → dx ≠ x → sp (gV [.ref x] zs) (upd (upd H2 dx (.own x)) x (.ins C dx [])) (fun v H3 => v = .non ∧ Q (.ref x) H3) E
theorem pe_makeN0 {X : Cx} {CX : CXT} {k : Nat} {C f : Addr} {fd : FuncData} {ps ks : List Str} {sp : Sp} {g : List Value → List Value → List Value} {gV : List V → List V → List V} {E : XK} {x : Str} {p pos : Pos} {kws : List Keyword} {tk : TA} (M : Mk X.K C f) (F : FnOk X.prog X.w X.K X.mg X.base CX k f fd ps sp) (hr : Room (k + 1) X.A) (hg : Gl X x) (hm : X.mg x = some (.ref C)) (hb : KBn X.K fd ps 1 ks g gV) (hx : Passes CX X E)
    (hkw : PK X kws tk) (hall : (backToKw pos (keywordEach kws X.env)).all (·.1.isSome) = true := by rfl) (hks : (backToKw pos (keywordEach kws X.env)).filterMap (·.1) = ks := by rfl)
    (hdb : (x == ("__debug__" : Str)) = false := by decide)
    (hpl : ((backTo pos (starEach [] X.env)).any (·.1) || (backToKw pos (keywordEach kws X.env)).any (·.1.isNone)) = false := by rfl) : PE X (.Call (.Name x p) [] kws pos) (tMakeN0 C ks.length sp gV E tk) := by
  refine ⟨fun pins s σ H Q I h => ?_⟩
  refine wpAny_Call_Name_kw (ld_glob I hg hm ?_ hdb)
  refine PySem.W.callWith_KW0 (h₀ := X.base) I.ok.mod.kin M.kp hall ?_ hpl
  refine thn (hkw.run pos pins s σ H _ I h) fun ws s3 ⟨zs, H3, I3, rz, l2, q3⟩ => ⟨I3.kIn, ?_⟩
  rw [hks]
  exact run_makeN (n := 0) (us := []) (vs := []) M F hr hb hx I3 .nil rz rfl l2 q3
end SR
namespace SS
open PySem L2 SR TL
def gA {α : Type} : List α → List α → List α := fun vs zs => vs ++ zs
/-- the orders of the keywords -/
def gI3 {α : Type} : List α → List α → List α
  | [x], [a, b, c] => [x, b, c, a]
  | _, _ => []
theorem gI3_rel {vs zs : List V} {us ws : List Value} (r1 : Vals vs us) (r2 : Vals zs ws) : Vals (gI3 vs zs) (gI3 us ws) := by
  rcases r1 with _ | ⟨x, r1⟩
  · exact .nil
  · rcases r1 with _ | ⟨y, r1⟩
    · rcases r2 with _ | ⟨a, r2⟩
      · exact .nil
      · rcases r2 with _ | ⟨b, r2⟩
        · exact .nil
        · rcases r2 with _ | ⟨c, r2⟩
          · exact .nil
          · rcases r2 with _ | ⟨d, r2⟩
            · exact .cons x (.cons b (.cons c (.cons a .nil)))
            · exact .nil
    · exact .nil
section
variable {P : Program} {w : World} {K : PySem.W.Frag} {mg : Str → Option Value} {base : Heap}
/-- Reader(..) in all the ways in which the law makes one; e: the default of ends -/
structure RdK (P : Program) (w : World) (K : PySem.W.Frag) (mg : Str → Option Value) (base : Heap) (C f : Addr) (fd : FuncData) (e : Addr) : Prop where
  mak : Mk K C f
  mgC : mg "Reader" = some (.ref C)
  ok : FnOk P w K mg base CX0 7 f fd psIni (spIni K C)
  emp : KTup K e []
  k3 : ∃ g, KBn K fd psIni 3 ["start"] g gA
  k2 : ∃ g, KBn K fd psIni 2 ["ends", "start"] g gA
  k1 : ∃ g, KBn K fd psIni 1 ["start", "states", "ends"] g gI3
  b3 : ∃ ds, Vals [V.int 0] ds ∧ Binds K fd psIni ds
  b2 : ∃ ds, Vals [V.ref e, V.int 0] ds ∧ Binds K fd psIni ds
  ks : ∃ g, KBn K fd psIni 1 ["states"] g (fun vs zs => vs ++ (zs ++ [V.ref e, V.int 0]))
theorem rdK_of {f C e : Addr} {fd : FuncData} (F : FunD K "__init__" "Reader.__init__" (defArgs sIni) (defBody sIni) (defScope sIni) [V.ref e] [("start", V.int 0)] f fd) (M : Mk K C f) (mC : mg "Reader" = some (.ref C)) (ok : FnOk P w K mg base CX0 7 f fd psIni (spIni K C)) (em : KTup K e []) : RdK P w K mg base C f fd e where
  mak := M
  mgC := mC
  ok := ok
  emp := em
  k3 := by
    obtain ⟨its, kb⟩ := F.kbindsD (ps := psIni) 3 ["start"] (fun us _ ws => us ++ ws) (by simp) (fun r1 _ r3 => r1.append r3) fun T kV doc pm an cdv ct us its ws l1 l2 l3 => by
      match us, l1, its, l2, ws, l3 with
      | [a, b, c], _, [d], _, [e], _ => exact ⟨_, rfl, rfl⟩
    exact ⟨_, kb⟩
  k2 := by
    obtain ⟨its, kb⟩ := F.kbindsD (ps := psIni) 2 ["ends", "start"] (fun us _ ws => us ++ ws) (by simp) (fun r1 _ r3 => r1.append r3) fun T kV doc pm an cdv ct us its ws l1 l2 l3 => by
      match us, l1, its, l2, ws, l3 with
      | [a, b], _, [d], _, [c, e], _ => exact ⟨_, rfl, rfl⟩
    exact ⟨_, kb⟩
  k1 := by
    obtain ⟨its, kb⟩ := F.kbindsD (ps := psIni) 1 ["start", "states", "ends"] (fun us _ ws => gI3 us ws) (by simp) (fun r1 _ r3 => gI3_rel r1 r3) fun T kV doc pm an cdv ct us its ws l1 l2 l3 => by
      match us, l1, its, l2, ws, l3 with
      | [a], _, [d], _, [b, c, e], _ => exact ⟨_, rfl, rfl⟩
    exact ⟨_, kb⟩
  b3 := F.binds (ps := psIni) 3 1 (by simp) rfl (fun T D doc pm an cdv ct us its ks l1 l2 l3 => by
    match us, l1, its, l2, ks, l3 with
    | [a, b, c], _, [d], _, [e], _ => exact ⟨_, rfl, _, _, _, _, _, _, rfl, rfl, rfl⟩) (by simp)
  b2 := F.binds (ps := psIni) 2 0 (by simp) rfl (fun T D doc pm an cdv ct us its ks l1 l2 l3 => by
    match us, l1, its, l2, ks, l3 with
    | [a, b], _, [d], _, [e], _ => exact ⟨_, rfl, _, _, _, _, _, _, rfl, rfl, rfl⟩) (by simp)
  ks := by
    obtain ⟨its, mv, kb⟩ := F.kbinds (ps := psIni) 1 ["states"] [("start", V.int 0)] (fun us its mv ws => us ++ (ws ++ (its ++ mv))) (by simp) (by simp) (fun q h => h) (fun r1 r2 r3 r4 => r1.append (r4.append (r2.append r3))) fun T D doc pm an cdv ct us its mv ws l1 l2 l3 l4 => by
      match us, l1, its, l2, mv, l3, ws, l4 with
      | [a], _, [d], _, [e], _, [b], _ => exact ⟨_, rfl, _, _, _, _, _, _, rfl, rfl, rfl⟩
    exact ⟨_, kb⟩
end
end SS

set_option maxRecDepth 100000
set_option maxHeartbeats 4000000
namespace SG
open PySem L2 SR TL SS
/-! ### machines -/
def rowK (cs : List Nat) (row : List Int) : List (Key × V) := (cs.zip row).map fun p => (Sum.inr (lt p.1), V.int p.2)
theorem rowK_keys {cs : List Nat} {row : List Int} (h : row.length = cs.length) : (rowK cs row).map (·.1) = cs.map fun c => (Sum.inr (lt c) : Key) := by
  unfold rowK
  rw [List.map_map]
  have : (cs.zip row).map ((fun x : Key × V => x.1) ∘ fun p : Nat × Int => ((Sum.inr (lt p.1) : Key), V.int p.2)) = ((cs.zip row).map Prod.fst).map fun c => (Sum.inr (lt c) : Key) := by
    rw [List.map_map]; rfl
  rw [this, List.map_fst_zip (by omega)]
theorem rowK_nodup {cs : List Nat} {row : List Int} (h : row.length = cs.length) (nd : cs.Nodup) : ((rowK cs row).map (·.1)).Nodup := by
  rw [rowK_keys h]
  exact List.Pairwise.map _ (fun a b hab e => hab (lt_inj (Sum.inr.inj e))) nd
def RowAt (H : Hp) (cs : List Nat) (q : Addr) (row : List Int) : Prop := H q = some (.dK (rowK cs row))
structure WfM (cs : List Nat) (rows : List (List Int)) (ends : List Int) : Prop where
  one : 1 ≤ rows.length
  five : rows.length ≤ 40
  row : ∀ row ∈ rows, row.length = cs.length ∧ ∀ g ∈ row, 0 ≤ g ∧ g < (rows.length : Int)
  nd : ends.Nodup
  fin : ∀ e ∈ ends, 0 ≤ e ∧ e < (rows.length : Int)
structure Mach (H : Hp) (cs : List Nat) (t : Addr) (rows : List (List Int)) (ends : List Int) : Prop where
  ex : ∃ (pr pe : Addr) (qs : List Addr), H t = some (.tup [.str (txt cs), .ref pr, .ref pe]) ∧ H pr = some (.lst (qs.map .ref)) ∧ Paired (RowAt H cs) qs rows ∧ H pe = some (.lst (ends.map .int))
theorem Mach.mono {H H' : Hp} {cs : List Nat} {t : Addr} {rows : List (List Int)} {ends : List Int} (e : Same H H') (m : Mach H cs t rows ends) : Mach H' cs t rows ends := by
  obtain ⟨pr, pe, qs, h1, h2, h3, h4⟩ := m.ex
  exact ⟨pr, pe, qs, e _ _ h1, e _ _ h2, Paired.mono h3 fun a b h => e _ _ h, e _ _ h4⟩
section
variable {P : Program} {w : World} {K : PySem.W.Frag} {mg : Str → Option Value} {base : Heap}
/-! ### _law_mixed -/
end
end SG

set_option maxRecDepth 100000
set_option maxHeartbeats 4000000
namespace SG
open PySem L2 SR TL SS
section
variable {P : Program} {w : World} {K : PySem.W.Frag} {mg : Str → Option Value} {base : Heap}
def PrAt (H : Hp) (t : Addr) (p : Nat × Int) : Prop := H t = some (.tup [ltV p.1, .int p.2])
/-- [(letter, e) for letter in abc]: new pairs -/
theorem row_lc {te : TE} {vs : List Nat} {σ : St} {H1 : Hp} {j : Nat} {cs : List Nat} {D : Addr} {Qd : Hp → Prop} {m : Int} (hD : H1 D = none) (hw : ∀ v, wipe ((wipe σ vs).set j v) vs = wipe σ vs) (hl : cs.length ≤ 1000)
    (hte : ∀ (i c : Nat) (H : Hp) (Qt : V → Hp → Prop), cs[i]? = some c → Same H1 H → (∀ g H4 T, 0 ≤ g → g < m → Same H H4 → H4 T = some (.tup [ltV c, .int g]) → Qt (.ref T) H4) → te ((wipe σ vs).set j (some (ltV c))) H Qt)
    (hfin : ∀ H ts gs, Same H1 H → H D = some (.lst (ts.map .ref)) → gs.length = cs.length → (∀ g ∈ gs, 0 ≤ g ∧ g < m) → Paired (PrAt H) ts (cs.zip gs) → Qd H) :
    ∃ W : Nat → Nat → Hp → Prop, (∃ m, W 0 m (upd H1 D (.lst []))) ∧ ∀ i m H, W i m H →
      ((Its (txt cs)).stop i H ∧ Qd H) ∨ ((Its (txt cs)).go i H ∧ ∃ Nx : Hp → Prop, (∀ H', Nx H' → ∃ m', m' < m ∧ W (i + 1) m' H') ∧ ∀ x H', (Its (txt cs)).yld i H x H' → (gName j) x (wipe σ vs) H' fun σ2 H2 => wipe σ2 vs = wipe σ vs ∧ tYes σ2 H2 fun b H3 =>
        if b = true then te σ2 H3 fun y H4 => ∃ acc, H4 D = some (.lst acc) ∧ acc.length < sizeLine ∧ Nx (upd H4 D (.lst (acc ++ [y]))) else Nx H3) := by
  have hz : (txt cs).cps.size = cs.length := by simp [txt]
  refine lc_S walk_str hD (by omega) (fun i acc H => ∃ ts gs, acc = ts.map .ref ∧ gs.length = i ∧ (∀ g ∈ gs, 0 ≤ g ∧ g < m) ∧ Paired (PrAt H) ts ((cs.take i).zip gs)) ?_ ?_ (fun _ _ => trivial) ?_ ?_
  · rintro i acc acc' H H' hd e ⟨ts, gs, h1, h2, h3, h4⟩
    exact ⟨ts, gs, h1, h2, h3, Paired.mono h4 fun a b h => e _ _ (ne_lst hd h fun _ => nofun) h⟩
  · exact ⟨[], [], rfl, rfl, (fun _ h => nomatch h), .nil⟩
  · rintro i x H H' acc Qt Qf hi e hd ⟨ts, gs, rfl, h2, h3, h4⟩ ⟨rfl, c, hc, rfl⟩ kt kf
    have hc' : cs[i]? = some c := by simpa [txt] using hc
    refine ⟨hw _, ?_⟩
    show te ((wipe σ vs).set j (some (ltV c))) H' Qt
    refine hte i c H' Qt hc' e fun g H4 T g0 g1 e4 hT => kt _ _ e4 ⟨ts ++ [T], gs ++ [g], by simp, by simp [h2], ?_, ?_⟩
    · intro g' hg'
      rcases List.mem_append.mp hg' with z | z
      · exact h3 g' z
      · rw [List.mem_singleton.mp z]; exact ⟨g0, g1⟩
    · have et : cs.take (i + 1) = cs.take i ++ [c] := by rw [List.take_add_one, hc']; rfl
      have hl' : (cs.take i).length = gs.length := by
        have : i < cs.length := (List.getElem?_eq_some_iff.mp hc').1
        rw [List.length_take, h2]; omega
      rw [et, List.zip_append hl']
      exact paired_snoc (Paired.mono h4 fun a b h => e4 _ _ h) hT
  · rintro H acc e hd ⟨ts, gs, rfl, h2, h3, h4⟩
    rw [hz] at h2 h4
    rw [List.take_length] at h4
    exact hfin H ts gs e hd h2 h3 h4
end
end SG

set_option maxRecDepth 100000
set_option maxHeartbeats 4000000
namespace SG
open PySem L2 SR TL SS
theorem pairs_of_row {K : PySem.W.Frag} {H : Hp} {ts : List Addr} {cs : List Nat} {gs : List Int} (hp : Paired (PrAt H) ts (cs.zip gs)) : Paired (fun p kv => SqT K H p [kV kv.1, kv.2]) ts (rowK cs gs) := by
  have key : ∀ {ts : List Addr} {ps : List (Nat × Int)}, Paired (PrAt H) ts ps → Paired (fun p kv => SqT K H p [kV kv.1, kv.2]) ts (ps.map fun p => ((Sum.inr (lt p.1) : Key), V.int p.2)) := by
    intro ts ps h
    induction h with
    | nil => exact .nil
    | cons r _ ih => exact .cons (SqT.of r) ih
  exact key hp
section
variable {P : Program} {w : World} {K : PySem.W.Frag} {mg : Str → Option Value} {base : Heap}
abbrev sClass : Stmt := top 67
abbrev nClass : List Str := ["_law_rng_here", "_law_cap", "_law_abc", "_law_many", "_law_rows", "_law_letter", "_law_spot"]
theorem scClass : FnScope nClass ["_law_rng_here", "_law_cap", "_law_abc"] (defScope sClass) := ⟨rfl, rfl, rfl, by decide +kernel, rfl, by decide +kernel, by decide +kernel⟩
def spClass : Sp := fun vs H Q _ => ∃ (r : Addr) (cap : Int) (cs : List Nat), vs = [.ref r, .int cap, .str (txt cs)] ∧ Abc cs ∧ 1 ≤ cap ∧ cap ≤ 5 ∧ H r = some (rngO r) ∧
  ∀ (t : Addr) (rows : List (List Int)) (ends : List Int) (H' : Hp), WfM cs rows ends → (rows.length : Int) ≤ cap → H t = none → Same H H' → Mach H' cs t rows ends → Q (.ref t) H'
theorem ok_class {f : Addr} {fd : FuncData} (F : Fun K "_law_class" "_law_class" sClass f fd) (B : Bl mg) (D : Cal P w K mg base "_law_draw" 1 ["_law_rng_here", "_law_many"] spDraw) : FnOk P w K mg base CX0 2 f fd ["_law_rng_here", "_law_cap", "_law_abc"] spClass := by
  refine F.ok scClass (fun vs H Q E h => ?_) (fun cdv A outer s H vs Q E hr h => ?_)
  · obtain ⟨r, cap, cs, rfl, _⟩ := h
    rfl
  · obtain ⟨r, cap, cs, rfl, ha, c1, c5, hR, k⟩ := h
    refine ⟨_, pss_cons (ps_if (pt_cmpR op_eq (pe_cal D hr (pa_cons (pv 0) (pa_cons pe_int pa_nil))) pe_int (nomark _))
        (pss_one (ps_ret (pe_tup (pa_cons (pv 2) (pa_cons (pe_lst (pa_cons (pe_callTy (call_dictP rfl) (by rfl) B.dict (by decide +kernel) (pa_cons (pe_lc (own := [("_law_letter", 5)]) (g := gName 5) (tt := tYes) (te := tTup (tCons (tVar 5) (tCons (tC (.int 0)) tNil))) rfl scClass.nd (pi_str (pv 2)) (blkOk_by (by kernel_rfl))
          (fun _ _ _ _ _ => pg_name (i := 5) scClass.nd rfl (.inl rfl)) (fun _ _ _ _ _ => pts_nil) (fun _ _ _ _ _ => pe_tup (pa_cons (pv 5) (pa_cons pe_int pa_nil)))) pa_nil)) pa_nil)) (pa_cons (pe_lst (pa_cons pe_int pa_nil)) pa_nil)))))) pss_nil)
      (pss_cons (ps_set (i := 3) scClass.nd rfl (.inr rfl) (pe_op op_add pe_int (pe_cal D hr (pa_cons (pv 0) (pa_cons (pv 1) pa_nil)))))
      (pss_cons (ps_setLc (i := 4) (own := [("_law_spot", 6)]) (g := gName 6) (tt := tYes) (te := tCB (rDictP K) (tCons (tLc (iStr (tVar 2)) (gName 5) tYes (tTup (tCons (tVar 5) (tCons (tCall spDraw [] E0 (tCons (tVar 0) (tCons (tVar 3) tNil))) tNil))) [5]) tNil)) rfl scClass.nd rfl rfl (sw_true rfl rfl rfl (by decide +kernel)) (pi_range1 (by rfl) B.range (pa_cons (pv 3) pa_nil)) (blkOk_by (by kernel_rfl))
          (fun _ _ _ _ _ => pg_name (i := 6) scClass.nd rfl (.inl rfl)) (fun _ _ _ _ _ => pts_nil)
          (fun _ _ _ _ _ => pe_callTy (call_dictP rfl) (by rfl) B.dict (by decide +kernel) (pa_cons (pe_lc (own := [("_law_letter", 5)]) (g := gName 5) (tt := tYes) (te := tTup (tCons (tVar 5) (tCons (tCall spDraw [] E0 (tCons (tVar 0) (tCons (tVar 3) tNil))) tNil))) rfl scClass.nd (pi_str (pv 2)) (blkOk_by (by kernel_rfl))
            (fun _ _ _ _ _ => pg_name (i := 5) scClass.nd rfl (.inl rfl)) (fun _ _ _ _ _ => pts_nil) (fun _ _ _ _ _ => pe_tup (pa_cons (pv 5) (pa_cons (pe_cal D hr (pa_cons (pv 0) (pa_cons (pv 3) pa_nil))) pa_nil)))) pa_nil)))
      (pss_one (ps_ret (pe_tup (pa_cons (pv 2) (pa_cons (pv 4) (pa_cons (pe_lc (own := [("_law_spot", 6)]) (g := gName 6) (tt := tTest (tOp rEq (tCall spDraw [] E0 (tCons (tVar 0) (tCons (tC (.int 2)) tNil))) (tC (.int 0)))) (te := tVar 6) rfl scClass.nd (pi_range1 (by rfl) B.range (pa_cons (pv 3) pa_nil)) (blkOk_by (by kernel_rfl))
          (fun _ _ _ _ _ => pg_name (i := 6) scClass.nd rfl (.inl rfl)) (fun _ _ _ _ _ => pts_one (pt_cmpR op_eq (pe_cal D hr (pa_cons (pv 0) (pa_cons pe_int pa_nil))) pe_int (nomark _))) (fun _ _ _ _ _ => pv 6)) pa_nil)))))))), ?_⟩
    have nd : cs.Nodup := ris_nodup ha.ris
    have hlc : cs.length ≤ 1000 := by have := ha.four; omega
    refine ⟨_, rfl, r, _, rfl, by decide, by decide, hR, fun d H1 d0 d1 e1 => ⟨rfl, _, rfl, ite2 (fun _ => ?_) (fun _ => ?_)⟩⟩
    · -- one state
      refine ⟨_, rfl, _, rfl, _, rfl, fun D1 hD1 => row_lc (m := 1) hD1 (fun _ => rfl) hlc (fun i c H2 Qt hc e2 kt => ?_) (fun H2 ts gs e2 hD hl hg hp => ?_)⟩
      · exact ⟨_, rfl, (by show 2 ≤ sizeLine; decide), fun T hT => kt 0 _ T (by decide) (by decide) (same_new hT) upd_same⟩
      · refine ⟨_, ts, rowK cs gs, rfl, SqL.of hD, pairs_of_row hp, fun q hq => ?_⟩
        rw [mergeK_nil (rowK_nodup hl nd)]
        refine ⟨by show 1 ≤ sizeLine; decide, fun pr hpr => ⟨by show 1 ≤ sizeLine; decide, fun pe hpe => ⟨by show 3 ≤ sizeLine; decide, fun t ht => ?_⟩⟩⟩
        have n1 : q ≠ pr := ne_of_none upd_same hpr
        have n2 : pr ≠ pe := ne_of_none upd_same hpe
        have n3 : q ≠ pe := ne_of_none (by rw [upd_ne n1]; exact upd_same) hpe
        have n4 : pe ≠ t := ne_of_none upd_same ht
        have n5 : pr ≠ t := ne_of_none (by rw [upd_ne n2]; exact upd_same) ht
        have n6 : q ≠ t := ne_of_none (by rw [upd_ne n3, upd_ne n1]; exact upd_same) ht
        have s4 := (((e1.trans e2).trans (same_new (o := .dK (rowK cs gs)) hq)).trans (same_new (o := .lst [.ref q]) hpr)).trans (same_new (o := .lst [.int 0]) hpe)
        refine k t [gs] [0] _ ⟨by simp, by simp, fun row hrow => ?_, by decide, fun e he => ?_⟩ (by show (1 : Int) ≤ cap; omega) (s4.free ht) (s4.trans (same_new ht)) ⟨pr, pe, [q], upd_same, ?_, .cons ?_ .nil, ?_⟩
        · rw [List.mem_singleton.mp hrow]
          exact ⟨hl, fun g h => by have := hg g h; simp; omega⟩
        · rw [List.mem_singleton.mp he]; simp
        · rw [upd_ne n5, upd_ne n2, upd_same]; rfl
        · show _ = _
          rw [upd_ne n6, upd_ne n3, upd_ne n1, upd_same]
        · rw [upd_ne n4, upd_same]; rfl
    · refine ⟨_, rfl, _, rfl, r, _, rfl, by omega, by omega, e1 _ _ hR, fun d2 H2 d20 d21 e2 => ⟨_, _, rfl, rfl, ?_⟩⟩
      have hm : ∃ m : Nat, 1 + d2 = (m : Int) ∧ 1 ≤ m ∧ m ≤ 5 ∧ (m : Int) ≤ cap := ⟨(1 + d2).toNat, by omega, by omega, by omega, by omega⟩
      obtain ⟨m, em, m1, m5, mc⟩ := hm
      simp only [em]
      have e12 := e1.trans e2
      refine ⟨_, rfl, _, rfl, by omega, by omega, fun Dr hDr => lc_S (walk_range (lo := 0) (n := (m : Int).toNat)) hDr (by omega) (fun i acc H3 => ∃ (qs : List Addr) (rows : List (List Int)), acc = qs.map .ref ∧ rows.length = i ∧ (∀ row ∈ rows, row.length = cs.length ∧ ∀ g ∈ row, 0 ≤ g ∧ g < (m : Int)) ∧ Paired (RowAt H3 cs) qs rows) ?_ ?_ (fun _ _ => trivial) ?_ ?_⟩
      · rintro i acc acc' H3 H4 hd e ⟨qs, rows, h1, h2, h3, h4⟩
        exact ⟨qs, rows, h1, h2, h3, Paired.mono h4 fun a b h => e _ _ (ne_lst hd h fun _ => nofun) h⟩
      · exact ⟨[], [], rfl, rfl, (fun _ h => nomatch h), .nil⟩
      · rintro i x H3 H3' acc Qt Qf hi e3 hd ⟨qs, rows, rfl, h2, h3, h4⟩ ⟨rfl, rfl⟩ kt kf
        refine ⟨rfl, _, rfl, _, rfl, fun D1 hD1 => row_lc (m := m) hD1 (fun _ => rfl) hlc (fun i c H5 Qt5 hc e5 kt5 => ?_) (fun H5 ts gs e5 hD hl hg hp => ?_)⟩
        · refine ⟨_, rfl, _, rfl, _, rfl, r, _, rfl, by omega, by omega, e5 _ _ (e3 _ _ (e12 _ _ hR)), fun g H6 g0 g1 e6 => ⟨by show 2 ≤ sizeLine; decide, fun T hT => ?_⟩⟩
          exact kt5 g _ T g0 g1 (e6.trans (same_new hT)) upd_same
        · refine ⟨_, ts, rowK cs gs, rfl, SqL.of hD, pairs_of_row hp, fun q hq => ?_⟩
          rw [mergeK_nil (rowK_nodup hl nd)]
          refine kt _ _ (e5.trans (same_new hq)) ⟨qs ++ [q], rows ++ [gs], by simp, by simp [h2], ?_, ?_⟩
          · intro row hrow
            rcases List.mem_append.mp hrow with z | z
            · exact h3 row z
            · rw [List.mem_singleton.mp z]; exact ⟨hl, hg⟩
          · exact paired_snoc (Paired.mono h4 fun a b h => (e5.trans (same_new hq)) _ _ h) upd_same
      · rintro H3 acc e3 hd ⟨qs, rows, rfl, h2, h3, h4⟩
        rw [Int.toNat_natCast] at h2
        refine ⟨_, rfl, _, rfl, _, rfl, _, rfl, by omega, by omega, fun De hDe => lc_S (walk_range (lo := 0) (n := (m : Int).toNat)) hDe (by omega) (fun i acc H5 => ∃ es : List Int, acc = es.map .int ∧ es.Nodup ∧ (∀ e ∈ es, 0 ≤ e ∧ e < (i : Int))) ?_ ?_ (fun _ _ => trivial) ?_ ?_⟩
        · rintro i acc acc' H5 H6 _ _ h
          exact h
        · exact ⟨[], rfl, List.nodup_nil, (fun _ h => nomatch h)⟩
        · rintro i x H5 H5' acc Qt Qf hi e5 hd5 ⟨es, rfl, h5, h6⟩ ⟨rfl, rfl⟩ kt kf
          refine ⟨rfl, _, rfl, r, _, rfl, by decide, by decide, e5 _ _ (e3 _ _ (e12 _ _ hR)), fun g H6 g0 g1 e6 => ⟨rfl, _, rfl, ite2 (fun _ => ?_) (fun _ => ?_)⟩⟩
          · refine ⟨_, rfl, kt _ _ e6 ⟨es ++ [(0 + (i : Int))], by simp, ?_, ?_⟩⟩
            · rw [List.nodup_append]
              refine ⟨h5, List.nodup_cons.mpr ⟨by simp, List.nodup_nil⟩, fun a h b hb => ?_⟩
              rw [List.mem_singleton] at hb
              have := h6 a h
              omega
            · intro e he
              rcases List.mem_append.mp he with z | z
              · have := h6 e z; omega
              · rw [List.mem_singleton] at z; omega
          · exact kf _ e6 ⟨es, rfl, h5, fun e he => by have := h6 e he; omega⟩
        · rintro H5 acc e5 hd5 ⟨es, rfl, h5, h6⟩
          rw [Int.toNat_natCast] at h6
          refine ⟨by show 3 ≤ sizeLine; decide, fun t ht => ?_⟩
          have n1 : De ≠ t := ne_of_none hd5 ht
          have n2 : Dr ≠ t := ne_of_none (e5 _ _ hd) ht
          have s5 := (e12.trans e3).trans e5
          refine k t rows es _ ⟨by omega, by omega, fun row hrow => ?_, h5, fun e he => ?_⟩ (by omega) (s5.free ht) (s5.trans (same_new ht)) ⟨Dr, De, qs, upd_same, ?_, ?_, ?_⟩
          · rw [h2]; exact h3 row hrow
          · rw [h2]; exact h6 e he
          · rw [upd_ne n2]; exact e5 _ _ hd
          · exact Paired.mono h4 fun a b h => by
              show _ = _
              rw [upd_ne (ne_of_none (e5 _ _ h) ht)]
              exact e5 _ _ h
          · rw [upd_ne n1]; exact hd5
end
end SG

set_option maxRecDepth 100000
set_option maxHeartbeats 4000000
namespace SG
open PySem L2 SR TL SS
/-! ### the machine's steps -/
def nxt (cs : List Nat) (rows : List (List Int)) (q : Int) (c : Nat) : Int := (rows.getD q.toNat []).getD (cs.idxOf c) 0
def run (cs : List Nat) (rows : List (List Int)) (q : Int) (x : List Nat) : Int := x.foldl (nxt cs rows) q
theorem val_row : ∀ {cs : List Nat} {row : List Int} {c : Nat}, row.length = cs.length → c ∈ cs → valV (rowK cs row) (Sum.inr (lt c)) = some (.int (row.getD (cs.idxOf c) 0))
  | [], row, c, _, h => nomatch h
  | d :: cs, [], c, h, _ => by simp at h
  | d :: cs, g :: row, c, hl, hc => by
    have hl' : row.length = cs.length := by simpa using hl
    by_cases e : d = c
    · subst e
      simp [valV, rowK, List.idxOf_cons]
    · have hc' : c ∈ cs := by
        rcases List.mem_cons.mp hc with z | z
        · exact absurd z.symm e
        · exact z
      have ih := val_row hl' hc'
      have ne : ¬ ((Sum.inr (lt d) : Key) = Sum.inr (lt c)) := fun z => e (lt_inj (Sum.inr.inj z))
      have e1 : valV (rowK (d :: cs) (g :: row)) (Sum.inr (lt c)) = valV (rowK cs row) (Sum.inr (lt c)) := by
        show ((((Sum.inr (lt d) : Key), V.int g) :: rowK cs row).find? fun kv => decide (kv.1 = Sum.inr (lt c))).map (·.2) = _
        rw [List.find?_cons_of_neg (by simpa using ne)]
        rfl
      rw [e1, ih]
      have : (d :: cs).idxOf c = cs.idxOf c + 1 := by
        rw [List.idxOf_cons]
        have : (d == c) = false := beq_eq_false_iff_ne.mpr e
        simp [this]
      rw [this]
      rfl
theorem WfM.nxt_ok {cs : List Nat} {rows : List (List Int)} {ends : List Int} (W : WfM cs rows ends) {q : Int} {c : Nat} (q0 : 0 ≤ q) (q1 : q < (rows.length : Int)) (hc : c ∈ cs) :
    ∃ row, rows[q.toNat]? = some row ∧ row.length = cs.length ∧ nxt cs rows q c = row.getD (cs.idxOf c) 0 ∧ 0 ≤ nxt cs rows q c ∧ nxt cs rows q c < (rows.length : Int) := by
  have hl : q.toNat < rows.length := by omega
  have hm := W.row rows[q.toNat] (List.getElem_mem hl)
  have e : nxt cs rows q c = rows[q.toNat].getD (cs.idxOf c) 0 := by simp [nxt, hl]
  refine ⟨rows[q.toNat], by simp [hl], hm.1, e, ?_⟩
  have hi : cs.idxOf c < rows[q.toNat].length := by rw [hm.1]; exact List.idxOf_lt_length_of_mem hc
  have hg : rows[q.toNat].getD (cs.idxOf c) 0 ∈ rows[q.toNat] := by
    rw [List.getD_eq_getElem?_getD, List.getElem?_eq_getElem hi]
    exact List.getElem_mem hi
  rw [e]
  exact hm.2 _ hg
theorem WfM.run_ok {cs : List Nat} {rows : List (List Int)} {ends : List Int} (W : WfM cs rows ends) : ∀ (x : List Nat) (q : Int), 0 ≤ q → q < (rows.length : Int) → (∀ c ∈ x, c ∈ cs) → 0 ≤ run cs rows q x ∧ run cs rows q x < (rows.length : Int)
  | [], q, q0, q1, _ => ⟨q0, q1⟩
  | c :: x, q, q0, q1, h => by
    obtain ⟨_, _, _, _, n0, n1⟩ := W.nxt_ok q0 q1 (h c List.mem_cons_self)
    exact W.run_ok x _ n0 n1 fun d hd => h d (List.mem_cons_of_mem _ hd)
section
variable {P : Program} {w : World} {K : PySem.W.Frag} {mg : Str → Option Value} {base : Heap}
end
end SG

set_option maxRecDepth 100000
set_option maxHeartbeats 4000000
namespace SG
open PySem L2 SR TL SS
/-- texts over cs, of at most n signs -/
def Over (cs : List Nat) (n : Nat) (xs : List (List Nat)) : Prop := ∀ x ∈ xs, (∀ c ∈ x, c ∈ cs) ∧ x.length ≤ n
theorem Over.app {cs : List Nat} {n : Nat} {xs ys : List (List Nat)} (a : Over cs n xs) (b : Over cs n ys) : Over cs n (xs ++ ys) := fun x hx => (List.mem_append.mp hx).elim (a x) (b x)
theorem Over.mono {cs : List Nat} {n m : Nat} {xs : List (List Nat)} (a : Over cs n xs) (h : n ≤ m) : Over cs m xs := fun x hx => ⟨(a x hx).1, Nat.le_trans (a x hx).2 h⟩
section
variable {P : Program} {w : World} {K : PySem.W.Frag} {mg : Str → Option Value} {base : Heap}
end
end SG

set_option maxRecDepth 100000
set_option maxHeartbeats 4000000
namespace SG
open PySem L2 SR TL SS
/-! ### the gathering of live states -/
def Hit (fd row : List Int) : Prop := ∃ g ∈ row, g ∈ fd
def Closed (rows : List (List Int)) (fd : List Int) : Prop := ∀ (j : Nat) row, rows[j]? = some row → Hit fd row → (j : Int) ∈ fd
structure Sound (n : Nat) (G : Int → Prop) (ends fd : List Int) : Prop where
  nd : fd.Nodup
  bd : ∀ q ∈ fd, 0 ≤ q ∧ q < (n : Int)
  good : ∀ q ∈ fd, G q
  all : ∀ e ∈ ends, e ∈ fd
structure Outer (rows : List (List Int)) (G : Int → Prop) (ends : List Int) (i : Nat) (fd : List Int) : Prop where
  snd : Sound rows.length G ends fd
  more : Closed rows fd ∨ i ≤ fd.length
structure Inner (rows : List (List Int)) (G : Int → Prop) (ends fd0 : List Int) (j : Nat) (fd : List Int) : Prop where
  snd : Sound rows.length G ends fd
  still : Closed rows fd0 → fd = fd0
  more : (fd = fd0 ∧ ∀ (a : Nat) row, a < j → rows[a]? = some row → Hit fd row → (a : Int) ∈ fd) ∨ fd0.length < fd.length
theorem Inner.start {rows : List (List Int)} {G : Int → Prop} {ends fd : List Int} (s : Sound rows.length G ends fd) : Inner rows G ends fd 0 fd := ⟨s, fun _ => rfl, .inl ⟨rfl, fun _ _ h => absurd h (Nat.not_lt_zero _)⟩⟩
theorem Inner.skip {rows : List (List Int)} {G : Int → Prop} {ends fd0 fd row : List Int} {j : Nat} (s : Inner rows G ends fd0 j fd) (hr : rows[j]? = some row) (h : (j : Int) ∈ fd ∨ ¬ Hit fd row) : Inner rows G ends fd0 (j + 1) fd := by
  refine ⟨s.snd, s.still, s.more.imp (fun ⟨e, m⟩ => ⟨e, fun a r ha hr' hh => ?_⟩) id⟩
  by_cases ea : a = j
  · subst ea
    rw [hr] at hr'
    cases hr'
    rcases h with h | h
    · exact h
    · exact absurd hh h
  · exact m a r (by omega) hr' hh
theorem Inner.add {rows : List (List Int)} {G : Int → Prop} {ends fd0 fd row : List Int} {j : Nat} (hG : ∀ (a : Nat) row g, rows[a]? = some row → g ∈ row → G g → G (a : Int)) (s : Inner rows G ends fd0 j fd) (hr : rows[j]? = some row) (hn : (j : Int) ∉ fd) (h : Hit fd row) :
    Inner rows G ends fd0 (j + 1) (fd ++ [(j : Int)]) := by
  have hj : j < rows.length := (List.getElem?_eq_some_iff.mp hr).1
  refine ⟨⟨?_, ?_, ?_, fun e he => List.mem_append_left _ (s.snd.all e he)⟩, fun c => ?_, .inr ?_⟩
  · rw [List.nodup_append]
    refine ⟨s.snd.nd, List.nodup_cons.mpr ⟨by simp, List.nodup_nil⟩, fun a ha b hb e => hn ?_⟩
    rw [List.mem_singleton] at hb
    rw [← hb, ← e]; exact ha
  · intro q hq
    rcases List.mem_append.mp hq with z | z
    · exact s.snd.bd q z
    · rw [List.mem_singleton.mp z]; omega
  · intro q hq
    rcases List.mem_append.mp hq with z | z
    · exact s.snd.good q z
    · obtain ⟨g, hg, hf⟩ := h
      rw [List.mem_singleton.mp z]
      exact hG j row g hr hg (s.snd.good g hf)
  · exact absurd ((s.still c) ▸ c j row hr (by rw [s.still c] at h; exact h)) hn
  · rcases s.more with ⟨e, _⟩ | h
    · rw [List.length_append, e]; simp
    · rw [List.length_append]; simp; omega
theorem Inner.done {rows : List (List Int)} {G : Int → Prop} {ends fd0 fd : List Int} {i : Nat} (o : Outer rows G ends i fd0) (s : Inner rows G ends fd0 rows.length fd) : Outer rows G ends (i + 1) fd := by
  refine ⟨s.snd, ?_⟩
  rcases s.more with ⟨e, m⟩ | h
  · exact .inl fun a r hr hh => m a r (List.getElem?_eq_some_iff.mp hr).1 hr hh
  · rcases o.more with c | c
    · have := s.still c
      rw [this] at h
      omega
    · exact .inr (by omega)
theorem all_of_long : ∀ (n : Nat) (l : List Int), l.Nodup → (∀ q ∈ l, 0 ≤ q ∧ q < (n : Int)) → n ≤ l.length → ∀ j : Nat, j < n → (j : Int) ∈ l
  | 0, _, _, _, _, j, hj => absurd hj (Nat.not_lt_zero _)
  | n + 1, l, nd, bd, hl, j, hj => by
    by_cases hn : ((n : Nat) : Int) ∈ l
    · by_cases e : j = n
      · rw [e]; exact hn
      · have nd' := nd.erase ((n : Nat) : Int)
        have ih := all_of_long n (l.erase (n : Int)) nd' (fun q hq => by
          have h1 := bd q (List.mem_of_mem_erase hq)
          have h2 : q ≠ (n : Int) := (List.Nodup.mem_erase_iff nd).mp hq |>.1
          omega) (by rw [List.length_erase_of_mem hn]; omega) j (by omega)
        exact List.mem_of_mem_erase ih
    · have := all_of_long n l nd (fun q hq => by
        have h1 := bd q hq
        have h2 : q ≠ (n : Int) := fun z => hn (z ▸ hq)
        omega) (by omega)
      -- n different numbers below n: one more than fits
      exfalso
      have := nodup_len n l nd (fun q hq => by
        have h1 := bd q hq
        have h2 : q ≠ (n : Int) := fun z => hn (z ▸ hq)
        omega)
      omega
theorem Sound.len {n : Nat} {G : Int → Prop} {ends fd : List Int} (s : Sound n G ends fd) : fd.length ≤ n := nodup_len n fd s.nd s.bd
theorem Outer.closed {rows : List (List Int)} {G : Int → Prop} {ends fd : List Int} (o : Outer rows G ends rows.length fd) : Closed rows fd := by
  rcases o.more with c | c
  · exact c
  · exact fun j row hr _ => all_of_long rows.length fd o.snd.nd o.snd.bd c j (List.getElem?_eq_some_iff.mp hr).1
/-- some text over cs leads from q into ends -/
def Leads (cs : List Nat) (rows : List (List Int)) (ends : List Int) (q : Int) : Prop := ∃ x : List Nat, (∀ c ∈ x, c ∈ cs) ∧ run cs rows q x ∈ ends
theorem getD_mem_row {cs : List Nat} {row : List Int} {c : Nat} (hl : row.length = cs.length) (hc : c ∈ cs) : row.getD (cs.idxOf c) 0 ∈ row := by
  have hi : cs.idxOf c < row.length := by rw [hl]; exact List.idxOf_lt_length_of_mem hc
  rw [List.getD_eq_getElem?_getD, List.getElem?_eq_getElem hi]
  exact List.getElem_mem hi
theorem leads_back {cs : List Nat} {rows : List (List Int)} {ends : List Int} (W : WfM cs rows ends) (nd : cs.Nodup) (a : Nat) (row : List Int) (g : Int) (hr : rows[a]? = some row) (hg : g ∈ row) (h : Leads cs rows ends g) : Leads cs rows ends (a : Int) := by
  obtain ⟨x, hx, he⟩ := h
  have hl := (W.row row (List.mem_of_getElem? hr)).1
  obtain ⟨j, hj, e⟩ := List.getElem_of_mem hg
  have hjc : j < cs.length := by omega
  refine ⟨cs[j] :: x, fun c hc => ?_, ?_⟩
  · rcases List.mem_cons.mp hc with z | z
    · rw [z]; exact List.getElem_mem hjc
    · exact hx c z
  · show run cs rows (nxt cs rows (a : Int) cs[j]) x ∈ ends
    have e1 : nxt cs rows (a : Int) cs[j] = g := by
      unfold nxt
      have er : rows.getD (a : Int).toNat [] = row := by rw [Int.toNat_natCast, List.getD_eq_getElem?_getD, hr]; rfl
      rw [er, List.Nodup.idxOf_getElem nd j hjc, List.getD_eq_getElem?_getD, List.getElem?_eq_getElem hj]
      exact e
    rw [e1]
    exact he
theorem closed_leads {cs : List Nat} {rows : List (List Int)} {ends fd : List Int} (W : WfM cs rows ends) (c : Closed rows fd) (ha : ∀ e ∈ ends, e ∈ fd) : ∀ (x : List Nat) (q : Int), 0 ≤ q → q < (rows.length : Int) → (∀ c ∈ x, c ∈ cs) → run cs rows q x ∈ ends → q ∈ fd
  | [], q, _, _, _, h => ha q h
  | d :: x, q, q0, q1, hx, h => by
    obtain ⟨row, hr, hl, e, n0, n1⟩ := W.nxt_ok q0 q1 (hx d List.mem_cons_self)
    have ih := closed_leads W c ha x _ n0 n1 (fun c hc => hx c (List.mem_cons_of_mem _ hc)) h
    have hm : nxt cs rows q d ∈ row := by rw [e]; exact getD_mem_row hl (hx d List.mem_cons_self)
    have := c q.toNat row hr ⟨_, hm, ih⟩
    rwa [Int.toNat_of_nonneg q0] at this
theorem Outer.leads {cs : List Nat} {rows : List (List Int)} {ends fd : List Int} (W : WfM cs rows ends) (o : Outer rows (Leads cs rows ends) ends rows.length fd) {q : Int} (q0 : 0 ≤ q) (q1 : q < (rows.length : Int)) : q ∈ fd ↔ Leads cs rows ends q :=
  ⟨o.snd.good q, fun ⟨x, hx, h⟩ => closed_leads W o.closed o.snd.all x q q0 q1 hx h⟩
end SG

set_option maxRecDepth 100000
set_option maxHeartbeats 4000000
namespace SG
open PySem L2 SR TL SS
/-- behind a lock -/
theorem lock_same {H H' : Hp} {d : Addr} {f u : HO} (hd : H d = some u) (e : Same (upd H d f) H') : Same H (upd H' d u) := fun a o h => by
  by_cases ha : a = d
  · subst ha; rw [upd_same, ← hd, h]
  · rw [upd_ne ha]; exact e a o (by rw [upd_ne ha]; exact h)
theorem any_dec (fd row : List Int) : (row.map fun g => decide (g ∈ fd)).any id = true ↔ Hit fd row := by
  rw [List.any_eq_true]
  constructor
  · rintro ⟨b, hb, e⟩
    obtain ⟨g, hg, rfl⟩ := List.mem_map.mp hb
    exact ⟨g, hg, of_decide_eq_true e⟩
  · rintro ⟨g, hg, h⟩
    exact ⟨_, List.mem_map.mpr ⟨g, hg, rfl⟩, decide_eq_true h⟩
theorem rowK_vals {cs : List Nat} {row : List Int} (h : row.length = cs.length) : (rowK cs row).map (·.2) = row.map .int := by
  unfold rowK
  rw [List.map_map]
  have : (cs.zip row).map ((fun x : Key × V => x.2) ∘ fun p : Nat × Int => ((Sum.inr (lt p.1) : Key), V.int p.2)) = ((cs.zip row).map Prod.snd).map .int := by
    rw [List.map_map]; rfl
  rw [this, List.map_snd_zip (by omega)]
section
variable {P : Program} {w : World} {K : PySem.W.Frag} {mg : Str → Option Value} {base : Heap}
/-- [goal in found for goal in line.values()], any of it -/
theorem vals_in {K : PySem.W.Frag} {H : Hp} {σ : St} {d pf : Addr} {cs : List Nat} {row fd : List Int} {sf sg sd : Nat} {Q : V → Hp → Prop} (hd : H d = some (.dK (rowK cs row))) (hl : row.length = cs.length) (hc : cs.length ≤ 1000) (hf : H pf = some (.lst (fd.map .int)))
    (h1 : ∀ v, wipe ((wipe σ [sg]).set sg v) [sg] = wipe σ [sg]) (h2 : ∀ v, ((wipe σ [sg]).set sg (some v))[sg]? = some (some v)) (h3 : ∀ v, ((wipe σ [sg]).set sg (some v))[sf]? = some (some (.ref pf))) (h4 : σ[sd]? = some (some (.ref d)))
    (hQ : ∀ D H', Same H H' → H' D = some (.lst ((row.map fun g => decide (g ∈ fd)).map V.bl)) → Q (.ref D) H') :
    tLockE (tLc (iVals (tVar sd)) (gName sg) tYes (tOp (rIn K false) (tVar sg) (tVar sf)) [sg]) σ H Q := by
  refine ⟨d, _, hd, trivial, fun od => ⟨_, h4, d, od, _, rfl, upd_same, fun D hD => ?_⟩⟩
  have nfd : pf ≠ d := ne_of hf hd (by intro z; cases z)
  refine lc_S walk_values hD (by unfold rowK; simp; omega) (fun i acc _ => acc = ((row.take i).map fun g => decide (g ∈ fd)).map V.bl) (fun _ _ _ _ _ _ _ h => h) rfl (fun H' e => e _ _ upd_same) ?_ ?_
  · rintro i x H3 H3' acc Qt Qf hi e3 hd3 rfl ⟨rfl, k, hk⟩ kt kf
    have hv : ((rowK cs row).map (·.2))[i]? = some x := by rw [List.getElem?_map, hk]; rfl
    rw [rowK_vals hl, List.getElem?_map] at hv
    obtain ⟨g, hg, rfl⟩ := Option.map_eq_some_iff.mp hv
    refine ⟨h1 _, _, h2 _, _, h3 _, pf, _, rfl, .inl (SqL.of (e3 _ _ (by rw [upd_ne nfd]; exact hf))), rfl, flat_ints _, kt _ _ (Same.refl _) ?_⟩
    have et : row.take (i + 1) = row.take i ++ [g] := by rw [List.take_add_one, hg]; rfl
    rw [et, List.map_append, List.map_append]
    show _ ++ [V.bl (inV (.int g) (fd.map .int))] = _
    rw [inV_ints]
    rfl
  · rintro H3 acc e3 hd3 rfl
    have hn : (rowK cs row).length = row.length := by unfold rowK; simp; omega
    rw [hn, List.take_length] at hd3
    have h3d := e3 _ _ (upd_same (H := H) (a := d) (o := HO.frz od (.dK (rowK cs row))))
    refine ⟨h3d, hQ D _ (lock_same hd e3) ?_⟩
    rw [upd_ne (ne_of hd3 h3d (by intro z; cases z))]
    exact hd3
end
end SG

set_option maxRecDepth 100000
set_option maxHeartbeats 8000000
namespace SG
open PySem L2 SR TL SS
def Odd (H : Hp) (cs : List Nat) (v : V) : Prop := NonStr H v ∨ ∃ x c, v = .str (txt x) ∧ c ∈ x ∧ c ∉ cs ∧ x.length ≤ 10
theorem Odd.mono {H H' : Hp} {cs : List Nat} {v : V} (e : Same H H') (h : Odd H cs v) : Odd H' cs v := h.imp (NonStr.mono e) id
theorem upper_lt {c : Nat} (h : 97 ≤ c ∧ c < 123) : Txt.upper (lt c) = txt [c - 32] := by
  have key : ∀ k : Fin 26, Txt.upper (lt (k.val + 97)) = txt [k.val + 97 - 32] := by decide +kernel
  have := key ⟨c - 97, by omega⟩
  rwa [show c - 97 + 97 = c by omega] at this
theorem spare_ex {cs : List Nat} (h : cs.length ≤ 4) : ∃ d ds, abc26.filter (fun c => decide (c ∉ cs)) = d :: ds ∧ d ∉ cs ∧ 97 ≤ d ∧ d < 123 := by
  cases e : abc26.filter (fun c => decide (c ∉ cs)) with
  | nil =>
    exfalso
    have : ∀ x ∈ abc26, x ∈ cs := fun x hx => by
      have := List.filter_eq_nil_iff.mp e x hx
      simpa using this
    have := len_sub abc26 cs (by decide +kernel) this
    simp at this
    omega
  | cons d ds =>
    have hm : d ∈ abc26.filter (fun c => decide (c ∉ cs)) := by rw [e]; exact List.mem_cons_self
    obtain ⟨h1, h2⟩ := List.mem_filter.mp hm
    obtain ⟨j, hj, ej⟩ := List.mem_map.mp h1
    have := List.mem_range.mp hj
    exact ⟨d, ds, rfl, by simpa using h2, by omega, by omega⟩
section
variable {P : Program} {w : World} {K : PySem.W.Frag} {mg : Str → Option Value} {base : Heap}
end
end SG

set_option maxRecDepth 100000
set_option maxHeartbeats 4000000
namespace SG
open PySem L2 SR TL SS
/-- the constants of the program -/
structure Cn (mg : Str → Option Value) : Prop where
  letters : ∃ t, mg "LETTERS" = some (.str (Str.ofString "abcdefghijklmnopqrstuvwxyz") t)
  signs : ∃ t, mg "MOST_SIGNS" = some (.int 4 t)
  given : ∃ t, mg "MOST_GIVEN_STATES" = some (.int 40 t)
  most : ∃ t, mg "MOST_STATES" = some (.int 6 t)
/-! ### flat data -/
theorem dp_map {α : Type} {K : PySem.W.Frag} {H : Hp} {f : α → V} {g : α → PyData} (h : ∀ a, Dp K H (f a) (g a)) : ∀ xs : List α, DpAll K H (xs.map f) (xs.map g)
  | [] => .nil
  | a :: xs => .cons (h a) (dp_map h xs)
section
variable {P : Program} {w : World} {K : PySem.W.Frag} {mg : Str → Option Value} {base : Heap}
theorem scWord : FnScope nWord ["value"] (defScope sWord) := ⟨rfl, rfl, rfl, by decide +kernel, rfl, by decide +kernel, by decide +kernel⟩
/-! ### are_signs -/
abbrev sSigns : Stmt := top 41
theorem scSigns : FnScope ["value"] ["value"] (defScope sSigns) := ⟨rfl, rfl, rfl, by decide +kernel, rfl, by decide +kernel, by decide +kernel⟩
def spSigns : Sp := fun vs H Q _ => ∃ cs, vs = [.str (txt cs)] ∧ Abc cs ∧ ∀ H', Same H H' → Q (.bl true) H'
theorem ok_signs {f : Addr} {fd : FuncData} (F : Fun K "are_signs" "are_signs" sSigns f fd) (B : Bl mg) (C : Cn mg) (Wd : Cal P w K mg base "is_word" 1 ["value"] spWord) : FnOk P w K mg base CX0 2 f fd ["value"] spSigns := by
  obtain ⟨tl, hl⟩ := C.signs
  refine F.ok scSigns (fun vs H Q E h => ?_) (fun cdv A outer s H vs Q E hr h => ?_)
  · obtain ⟨v, rfl, _⟩ := h
    rfl
  · obtain ⟨cs, rfl, ha, k⟩ := h
    refine ⟨_, pss_one (ps_ret (pe_and (pe_cal Wd hr (pa_cons (pv 0) pa_nil))
      (pe_and (pe_chain op_le op_le pe_int (pe_callB call_len_str (by rfl) B.len boot_len (pa_cons (pv 0) pa_nil)) (pe_glob (v := .int 4) rfl hl ⟨tl, rfl⟩))
        (pe_one (pe_cmpR (op_eqD hr.units) (pe_callTy (call_list_txt rfl) (by rfl) B.list (by decide +kernel) (pa_cons (pv 0) pa_nil)) (pe_callB (cr_sortedKS rfl) (by rfl) B.sorted (by decide +kernel) (pa_cons (pe_callTy (cr_setK rfl) (by rfl) B.set (by decide +kernel) (pa_cons (pv 0) pa_nil)) pa_nil)) (nomark _)))))), ?_⟩
    have hz : (txt cs).length ≤ sizeLine := by rw [txt_len, sizeLine_eq]; have := ha.four; omega
    refine ⟨_, rfl, _, rfl, .inr ⟨cs, rfl, by have := ha.four; omega, fun b H1 hb e1 => ?_⟩⟩
    have hb' : b = true := hb.mpr ha.abc
    subst hb'
    refine ⟨true, rfl, ?_⟩
    refine ⟨_, rfl, _, rfl, hz, _, _, rfl, rfl, _, rfl, ?_⟩
    have h1 : decide ((1 : Int) ≤ ((txt cs).length : Nat)) = true := decide_eq_true (by rw [txt_len]; have := ha.one; omega)
    have h4 : decide (((txt cs).length : Nat) ≤ (4 : Int)) = true := decide_eq_true (by rw [txt_len]; have := ha.four; omega)
    rw [h1]
    refine ⟨_, _, rfl, rfl, _, rfl, ?_⟩
    rw [h4]
    refine ⟨_, rfl, _, rfl, hz, fun l hl => ?_⟩
    refine ⟨_, rfl, cs.map (fun c => (Sum.inr (lt c) : Key)), .inr ⟨_, rfl, by rw [txt_codes]⟩, by rw [List.length_map]; have := ha.four; omega, fun p kl hp nd hm _ => ?_⟩
    have ndc : (cs.map (fun c => (Sum.inr (lt c) : Key))).Nodup := List.Pairwise.map _ (fun a b hab e => hab (lt_inj (Sum.inr.inj e))) (ris_nodup ha.ris)
    have pm : kl.Perm ((cs.map lt).map Sum.inr) := by
      rw [List.map_map]
      exact (List.perm_ext_iff_of_nodup nd ndc).mpr hm
    obtain ⟨ts, rfl, pt⟩ := perm_inr (l := []) pm
    have tl4 : ts.length < 64 := by have := pt.length_eq; rw [List.length_map] at this; have := ha.four; omega
    refine ⟨p, ts, rfl, upd_same, tl4, fun ys q py so hq => ?_⟩
    obtain ⟨ds, rfl, pd⟩ := perm_lt (py.trans pt)
    have ed : ds = cs := List.Perm.eq_of_pairwise (le := (· ≤ ·)) (fun a b _ _ h1 h2 => Nat.le_antisymm h1 h2) (sorted_lt ds so) (ha.ris.imp fun h => Nat.le_of_lt h) pd
    subst ed
    have n1 : l ≠ p := ne_of_none upd_same hp
    have n2 : l ≠ q := ne_of_none (by rw [upd_ne n1]; exact upd_same) hq
    have lf : ∀ d ∈ ds.map (fun c => PyData.str (lt c)), Leaf d := fun d hd => by
      obtain ⟨c, hc, rfl⟩ := List.mem_map.mp hd
      exact leaf_lt (ha.abc c hc).2
    refine ⟨.list (ds.map fun c => .str (lt c)), .list (ds.map fun c => .str (lt c)), .lst (SqL.of (xs := ds.map ltV) (by rw [upd_ne n2, upd_ne n1, upd_same, txt_codes])) (dp_map (fun c => .str _) ds), .lst (SqL.of (xs := ds.map ltV) (by rw [upd_same, List.map_map]; rfl)) (dp_map (fun c => .str _) ds), leaf_list lf, leaf_list lf, ?_⟩
    rw [SeqAt.eqv_refl _ (SeqAt.canLay_of_shaped (leaf_list lf))]
    exact k _ (((e1.trans (same_new hl)).trans (same_new hp)).trans (same_new hq))
/-! ### is_number_below -/
abbrev sNum : Stmt := top 42
theorem scNum : FnScope ["value", "limit"] ["value", "limit"] (defScope sNum) := ⟨rfl, rfl, rfl, by decide +kernel, rfl, by decide +kernel, by decide +kernel⟩
theorem ok_num {f : Addr} {fd : FuncData} (F : Fun K "is_number_below" "is_number_below" sNum f fd) (B : Bl mg) : FnOk P w K mg base CX0 1 f fd ["value", "limit"] spNum := by
  refine F.ok scNum (fun vs H Q E h => ?_) (fun cdv A outer s H vs Q E hr h => ?_)
  · obtain ⟨i, m, rfl, _⟩ := h
    rfl
  · obtain ⟨i, m, rfl, i0, i1, k⟩ := h
    refine ⟨_, pss_one (ps_ret (pe_and (pe_callB call_isi (by rfl) B.isinstance (by decide +kernel) (pa_cons (pv 0) (pa_cons (pe_bltn (v := .ty "int") (by rfl) B.int (by decide +kernel) rfl) pa_nil)))
      (pe_and (pe_not (pe_callB call_isi (by rfl) B.isinstance (by decide +kernel) (pa_cons (pv 0) (pa_cons (pe_bltn (v := .ty "bool") (by rfl) B.bool (by decide +kernel) rfl) pa_nil))))
        (pe_one (pe_chain op_le op_lt pe_int (pv 0) (pv 1)))))), ?_⟩
    refine ⟨_, rfl, _, _, _, _, true, rfl, .ty "int", .base (.int i), kit_ty (by decide +kernel), true, rfl, ?_⟩
    refine ⟨_, rfl, _, _, _, _, false, rfl, .ty "bool", .base (.int i), kit_ty (by decide +kernel), false, rfl, true, rfl, ?_⟩
    refine ⟨_, rfl, _, _, rfl, rfl, _, rfl, ?_⟩
    rw [decide_eq_true i0]
    refine ⟨_, rfl, _, _, rfl, rfl, ?_⟩
    show Q (.bl (decide (i < m))) H
    rw [decide_eq_true i1]
    exact k
end
end SG

set_option maxRecDepth 100000
set_option maxHeartbeats 4000000
namespace SG
open PySem L2 SR TL SS
section
variable {P : Program} {w : World} {K : PySem.W.Frag} {mg : Str → Option Value} {base : Heap}
/-! ### is_state_row -/
abbrev sSrow : Stmt := top 43
abbrev nSrow : List Str := ["value", "signs", "many", "sign"]
theorem scSrow : FnScope nSrow ["value", "signs", "many"] (defScope sSrow) := ⟨rfl, rfl, rfl, by decide +kernel, rfl, by decide +kernel, by decide +kernel⟩
def spSrow : Sp := fun vs H Q _ => ∃ (q : Addr) (cs : List Nat) (row : List Int) (m : Int), vs = [.ref q, .str (txt cs), .int m] ∧ cs.length ≤ 100 ∧ row.length = cs.length ∧ (∀ g ∈ row, 0 ≤ g ∧ g < m) ∧ RowAt H cs q row ∧ ∀ H', Same H H' → Q (.bl true) H'
theorem ok_srow {f : Addr} {fd : FuncData} (F : Fun K "is_state_row" "is_state_row" sSrow f fd) (B : Bl mg) (N : Cal P w K mg base "is_number_below" 1 ["value", "limit"] spNum) : FnOk P w K mg base CX0 2 f fd ["value", "signs", "many"] spSrow := by
  refine F.ok scSrow (fun vs H Q E h => ?_) (fun cdv A outer s H vs Q E hr h => ?_)
  · obtain ⟨q, cs, row, m, rfl, _⟩ := h
    rfl
  · obtain ⟨q, cs, row, m, rfl, hc, hl, hg, hq, k⟩ := h
    have hu := hu_of hr
    refine ⟨_, pss_cons (ps_if (PW.pt (pw_or (pt_not (pt_val (pe_callB call_isi (by rfl) B.isinstance (by decide +kernel) (pa_cons (pv 0) (pa_cons (pe_bltn (v := .ty "dict") (by rfl) B.dict (by decide +kernel) rfl) pa_nil)))))
          (pw_or1 (pt_cmpR op_ne (pe_callB call_lenD (by rfl) B.len boot_len (pa_cons (pv 0) pa_nil)) (pe_callB call_len_str (by rfl) B.len boot_len (pa_cons (pv 1) pa_nil)) (nomark _)))))
        (pss_one (ps_ret pe_bl)) pss_nil)
      (pss_one (ps_ret (pe_callB (cr_all rfl) (by rfl) B.all (by decide +kernel) (pa_cons (pe_lc (own := [("sign", 3)]) (g := gName 3) (tt := tYes) (te := tAndV (tDIn (tVar 3) (tVar 0)) (tCall spNum [] E0 (tCons (tDGet (tVar 0) (tVar 3)) (tCons (tVar 2) tNil)))) rfl scSrow.nd (pi_str (pv 1)) (blkOk_by (by kernel_rfl))
        (fun _ _ _ _ _ => pg_name (i := 3) scSrow.nd rfl (.inl rfl)) (fun _ _ _ _ _ => pts_nil) (fun _ _ _ _ _ => pe_and (pe_cmp (pc_din hu (pv 3) (pv 0)) rfl) (pe_one (pe_cal N hr (pa_cons (pe_dget hu (pv 0) (pv 3) (fun _ _ => rfl)) (pa_cons (pv 2) pa_nil)))))) pa_nil)))), ?_⟩
    have hz : (txt cs).length ≤ sizeLine := by rw [txt_len, sizeLine_eq]; omega
    have hz' : (txt cs).cps.size = cs.length := by simp [txt]
    refine ⟨_, rfl, _, _, _, _, true, rfl, .ty "dict", .base (.dK hq), kit_ty (by decide +kernel), _, rfl, ?_⟩
    refine ⟨_, rfl, _, _, rfl, hq, _, rfl, _, rfl, hz, rfl, _, rfl, ?_⟩
    have hlen : ((rowK cs row).length : Int) = ((txt cs).length : Nat) := by
      rw [txt_len]
      have : (rowK cs row).length = cs.length := by unfold rowK; simp; omega
      rw [this]
    refine ite2 (fun h => absurd h ?_) (fun _ => ?_)
    · simp [hlen]
    refine ⟨_, rfl, _, rfl, fun D hD => lc_S walk_str hD (by rw [hz']; omega) (fun i acc _ => acc = (List.replicate i true).map V.bl) (fun _ _ _ _ _ _ _ h => h) rfl (fun _ _ => trivial) ?_ ?_⟩
    · rintro i v H3 H3' acc Qt Qf hi e3 hd rfl ⟨rfl, c, hc, rfl⟩ kt kf
      have hc' : cs[i]? = some c := by simpa [txt] using hc
      have hm := List.mem_of_getElem? hc'
      have hv := val_row hl hm
      have hgg : row.getD (cs.idxOf c) 0 ∈ row := by
        have hi : cs.idxOf c < row.length := by rw [hl]; exact List.idxOf_lt_length_of_mem hm
        rw [List.getD_eq_getElem?_getD, List.getElem?_eq_getElem hi]
        exact List.getElem_mem hi
      have gd : DGet H3' q (ltV c) (some (.int (row.getD (cs.idxOf c) 0))) := by
        rw [← hv]
        exact DGet.k (k := Sum.inr (lt c)) (e3 _ _ hq)
      refine ⟨rfl, _, rfl, _, rfl, q, _, rfl, gd, true, rfl, _, rfl, _, rfl, q, _, rfl, gd, _, rfl, _, _, rfl, (hg _ hgg).1, (hg _ hgg).2, kt _ _ (Same.refl _) ?_⟩
      rw [List.replicate_succ', List.map_append]
      rfl
    · rintro H1 acc e1 hd rfl
      refine ⟨D, _, rfl, SqL.of hd, ?_⟩
      rw [all_true]
      exact k _ e1
/-! ### are_states -/
abbrev sSta : Stmt := top 44
abbrev nSta : List Str := ["value", "many", "state"]
theorem scSta : FnScope nSta ["value", "many"] (defScope sSta) := ⟨rfl, rfl, rfl, by decide +kernel, rfl, by decide +kernel, by decide +kernel⟩
def spSta : Sp := fun vs H Q _ => ∃ (a : Addr) (m : Int) (es : List Int), vs = [.ref a, .int m] ∧ es.length ≤ 100 ∧ es.Nodup ∧ (∀ g ∈ es, 0 ≤ g ∧ g < m) ∧ LoT H a (es.map .int) ∧ ∀ H', Same H H' → Q (.bl true) H'
theorem ok_sta {f : Addr} {fd : FuncData} (F : Fun K "are_states" "are_states" sSta f fd) (B : Bl mg) (N : Cal P w K mg base "is_number_below" 1 ["value", "limit"] spNum) : FnOk P w K mg base CX0 2 f fd ["value", "many"] spSta := by
  refine F.ok scSta (fun vs H Q E h => ?_) (fun cdv A outer s H vs Q E hr h => ?_)
  · obtain ⟨a, m, es, rfl, _⟩ := h
    rfl
  · obtain ⟨a, m, es, rfl, hl, nd, hg, ha, k⟩ := h
    refine ⟨_, pss_cons (ps_if (PW.pt (pw_or (pt_not (pt_val (pe_callB call_isiT (by rfl) B.isinstance (by decide +kernel) (pa_cons (pv 0) (pa_cons (pe_tup (pa_cons (pe_bltn (v := .ty "list") (by rfl) B.list (by decide +kernel) rfl) (pa_cons (pe_bltn (v := .ty "tuple") (by rfl) B.tuple (by decide +kernel) rfl) pa_nil))) pa_nil)))))
          (pw_or1 (pt_not (pt_val (pe_callB (cr_all rfl) (by rfl) B.all (by decide +kernel) (pa_cons (pe_lc (own := [("state", 2)]) (g := gName 2) (tt := tYes) (te := tCall spNum [] E0 (tCons (tVar 2) (tCons (tVar 1) tNil))) rfl scSta.nd (pi_lot (pv 0)) (blkOk_by (by kernel_rfl))
            (fun _ _ _ _ _ => pg_name (i := 2) scSta.nd rfl (.inl rfl)) (fun _ _ _ _ _ => pts_nil) (fun _ _ _ _ _ => pe_cal N hr (pa_cons (pv 2) (pa_cons (pv 1) pa_nil)))) pa_nil)))))))
        (pss_one (ps_ret pe_bl)) pss_nil)
      (pss_one (ps_ret (pe_cmpR op_eq (pe_callB cr_lenK (by rfl) B.len boot_len (pa_cons (pe_callTy (cr_setK rfl) (by rfl) B.set (by decide +kernel) (pa_cons (pv 0) pa_nil)) pa_nil)) (pe_callB call_len_seq (by rfl) B.len boot_len (pa_cons (pv 0) pa_nil)) (nomark _)))), ?_⟩
    refine ⟨_, rfl, (by show 2 ≤ sizeLine; decide), fun T hT => ?_⟩
    have e0 : Same H (upd H T (.tup [.ty "list", .ty "tuple"])) := same_new hT
    obtain ⟨t, ty, kt⟩ := isi_LT (K := K) (ha.mono e0)
    refine ⟨_, T, _, t, _, true, rfl, upd_same, .cons (.ty _) (.cons (.ty _) .nil), ty, kt, true, rfl, ?_⟩
    refine ⟨_, rfl, a, _, rfl, ha.mono e0, fun J G wk hG D hD => lc_S wk hD (by rw [List.length_map]; omega) (fun i acc _ => acc = (List.replicate i true).map V.bl) (fun _ _ _ _ _ _ _ h => h) rfl hG ?_ ?_⟩
    · rintro i v H3 H3' acc Qt Qf hi e3 hd rfl ⟨rfl, hv⟩ kt kf
      rw [List.getElem?_map] at hv
      obtain ⟨g, hg', rfl⟩ := Option.map_eq_some_iff.mp hv
      have hgm := hg g (List.mem_of_getElem? hg')
      refine ⟨rfl, _, rfl, _, rfl, _, _, rfl, hgm.1, hgm.2, kt _ _ (Same.refl _) ?_⟩
      rw [List.replicate_succ', List.map_append]
      rfl
    · rintro H1 acc e1 hd rfl
      refine ⟨D, _, rfl, SqL.of hd, _, rfl, ?_⟩
      rw [all_true]
      have e01 := e0.trans e1
      refine ⟨_, rfl, es.map Sum.inl, .inl ⟨a, rfl, ?_⟩, by rw [List.length_map]; omega, fun p l hp ndl hm hll => ?_⟩
      · have := (ha.mono e01).seq (K := K)
        rw [show (es.map Sum.inl).map kV = es.map V.int by rw [List.map_map]; rfl]
        exact this
      · have pm : l.Perm (es.map Sum.inl) := (List.perm_ext_iff_of_nodup ndl (List.Pairwise.map _ (fun a b hab e => hab (Sum.inl.inj e)) nd)).mpr hm
        have e2 := e01.trans (same_new (o := SetMO w p l) hp)
        refine ⟨p, l, rfl, upd_same, _, rfl, a, _, rfl, (ha.mono e2).seq, rfl, ?_⟩
        have hh : decide (V.int (l.length : Nat) = V.int ((es.map V.int).length : Nat)) = true := decide_eq_true (by rw [pm.length_eq, List.length_map, List.length_map])
        show Q (.bl (decide (V.int (l.length : Nat) = V.int ((es.map V.int).length : Nat)))) _
        rw [hh]
        exact k _ e2
end
end SG

set_option maxRecDepth 100000
set_option maxHeartbeats 4000000
namespace SG
open PySem L2 SR TL SS
/-- a machine's rows and its member states, as they are handed over -/
structure Given (H : Hp) (cs : List Nat) (a e : Addr) (rows : List (List Int)) (ends : List Int) : Prop where
  ex : ∃ qs : List Addr, LoT H a (qs.map .ref) ∧ Paired (RowAt H cs) qs rows
  mem : LoT H e (ends.map .int)
theorem Given.mono {H H' : Hp} {cs : List Nat} {a b : Addr} {rows : List (List Int)} {ends : List Int} (e : Same H H') (g : Given H cs a b rows ends) : Given H' cs a b rows ends := by
  obtain ⟨qs, h1, h2⟩ := g.ex
  exact ⟨⟨qs, h1.mono e, Paired.mono h2 fun _ _ h => e _ _ h⟩, g.mem.mono e⟩
section
variable {P : Program} {w : World} {K : PySem.W.Frag} {mg : Str → Option Value} {base : Heap}
abbrev sChk : Stmt := top 45
abbrev nChk : List Str := ["signs", "states", "member_states", "index", "row"]
theorem scChk : FnScope nChk ["signs", "states", "member_states"] (defScope sChk) := ⟨rfl, rfl, rfl, by decide +kernel, rfl, by decide +kernel, by decide +kernel⟩
def spChk : Sp := fun vs H Q _ => ∃ (cs : List Nat) (a e : Addr) (rows : List (List Int)) (ends : List Int), vs = [.str (txt cs), .ref a, .ref e] ∧ Abc cs ∧ WfM cs rows ends ∧ Given H cs a e rows ends ∧ ∀ H', Same H H' → Q .non H'
theorem ok_chk {f : Addr} {fd : FuncData} (F : Fun K "check_machine" "check_machine" sChk f fd) (B : Bl mg) (C : Cn mg) (Sg : Cal P w K mg base "are_signs" 2 ["value"] spSigns) (Sr : Cal P w K mg base "is_state_row" 2 ["value", "signs", "many"] spSrow) (St : Cal P w K mg base "are_states" 2 ["value", "many"] spSta) :
    FnOk P w K mg base CX0 3 f fd ["signs", "states", "member_states"] spChk := by
  obtain ⟨tg, hgv⟩ := C.given
  refine F.ok scChk (fun vs H Q E h => ?_) (fun cdv A outer s H vs Q E hr h => ?_)
  · obtain ⟨cs, a, e, rows, ends, rfl, _⟩ := h
    rfl
  · obtain ⟨cs, a, e, rows, ends, rfl, ha, W, ⟨⟨qs, h1, h2⟩, h3⟩, k⟩ := h
    refine ⟨_, pss_cons (ps_if (pt_not (pt_val (pe_cal Sg hr (pa_cons (pv 0) pa_nil)))) (pss_one ps_never) pss_nil)
      (pss_cons (ps_if (PW.pt (pw_or (pt_not (pt_val (pe_callB call_isiT (by rfl) B.isinstance (by decide +kernel) (pa_cons (pv 1) (pa_cons (pe_tup (pa_cons (pe_bltn (v := .ty "list") (by rfl) B.list (by decide +kernel) rfl) (pa_cons (pe_bltn (v := .ty "tuple") (by rfl) B.tuple (by decide +kernel) rfl) pa_nil))) pa_nil)))))
          (pw_or1 (pt_not (pt_chain op_le op_le pe_int (pe_callB call_len_seq (by rfl) B.len boot_len (pa_cons (pv 1) pa_nil)) (pe_glob (v := .int 40) rfl hgv ⟨tg, rfl⟩)))))) (pss_one ps_never) pss_nil)
      (pss_cons (ps_for PassesOwn.never rfl (pi_enumL (by rfl) B.enumerate (pa_cons (pv 1) pa_nil)) (pg_tup rfl (pgs_cons (pg_name (i := 3) scChk.nd rfl (.inl rfl)) (pgs_cons (pg_name (i := 4) scChk.nd rfl (.inl rfl)) pgs_nil)))
          (pss_one (ps_if (pt_not (pt_val (pe_cal Sr hr (pa_cons (pv 4) (pa_cons (pv 0) (pa_cons (pe_callB call_len_seq (by rfl) B.len boot_len (pa_cons (pv 1) pa_nil)) pa_nil)))))) (pss_one ps_never) pss_nil)))
      (pss_one (ps_if (pt_not (pt_val (pe_cal St hr (pa_cons (pv 2) (pa_cons (pe_callB call_len_seq (by rfl) B.len boot_len (pa_cons (pv 1) pa_nil)) pa_nil))))) (pss_one ps_never) pss_nil)))), ?_⟩
    have hql : qs.length = rows.length := Paired.length h2
    refine ⟨_, rfl, cs, rfl, ha, fun H1 e1 => ⟨_, rfl, iteF ?_⟩⟩
    refine ⟨_, rfl, (by show 2 ≤ sizeLine; decide), fun T hT => ?_⟩
    have e2 : Same H (upd H1 T (.tup [.ty "list", .ty "tuple"])) := e1.trans (same_new hT)
    obtain ⟨t, ty, kt⟩ := isi_LT (K := K) (h1.mono e2)
    refine ⟨_, T, _, t, _, true, rfl, upd_same, .cons (.ty _) (.cons (.ty _) .nil), ty, kt, true, rfl, ?_⟩
    refine ⟨_, rfl, a, _, rfl, (h1.mono e2).seq, _, _, rfl, rfl, _, rfl, ?_⟩
    rw [List.length_map]
    rw [decide_eq_true (show (1 : Int) ≤ (qs.length : Nat) by have := W.one; omega)]
    refine ⟨_, _, rfl, rfl, _, rfl, ?_⟩
    rw [decide_eq_true (show ((qs.length : Nat) : Int) ≤ 40 by have := W.five; omega)]
    refine ⟨_, rfl, a, _, rfl, h1.mono e2, fun J G wk hG => ?_⟩
    refine for_it wk (fun i σ H' => Same (upd H1 T (.tup [.ty "list", .ty "tuple"])) H' ∧ ∃ a3 a4, σ = [some (.str (txt cs)), some (.ref a), some (.ref e), a3, a4]) ⟨Same.refl _, _, _, rfl⟩ (fun _ _ H' _ p => hG H' p.1) ?_ ?_
    · rintro j v σ H2 H2' hj ⟨e3, b3, b4, rfl⟩ ⟨T2, x, y, rfl, hT2, rfl, ex, ey⟩
      rw [List.length_map] at hj
      cases ex
      dsimp only at ey
      rw [List.getElem?_map] at ey
      obtain ⟨q, hq, rfl⟩ := Option.map_eq_some_iff.mp ey
      have hjr : j < rows.length := by omega
      obtain ⟨q', hq', hrow⟩ := paired_get j h2 (List.getElem?_eq_getElem hjr)
      rw [hq] at hq'
      cases hq'
      have hW := W.row _ (List.getElem_mem hjr)
      have e4 : Same H2 (upd H2 T2 (.tup [.int (j : Nat), .ref q])) := same_new hT2
      have e5 := e2.trans (e3.trans e4)
      refine ⟨T2, _, rfl, SqT.of upd_same, rfl, _, _, rfl, _, _, rfl, rfl, ?_⟩
      refine ⟨_, rfl, _, rfl, _, rfl, a, _, rfl, (h1.mono e5).seq, q, cs, _, _, rfl, (by have := ha.four; omega), hW.1, ?_, e5 _ _ hrow, fun H6 e6 => ⟨_, rfl, iteF ⟨(e3.trans e4).trans e6, _, _, rfl⟩⟩⟩
      intro g hg
      rw [List.length_map, hql]
      exact hW.2 g hg
    · rintro σ H2 ⟨e3, b3, b4, rfl⟩
      have e5 := e2.trans e3
      refine ⟨_, rfl, _, rfl, a, _, rfl, (h1.mono e5).seq, e, _, ends, rfl, ?_, W.nd, ?_, h3.mono e5, fun H6 e6 => ⟨_, rfl, iteF (k _ (e5.trans e6))⟩⟩
      · exact Nat.le_trans (nodup_len _ _ W.nd W.fin) (by have := W.five; omega)
      · intro g hg
        rw [List.length_map, hql]
        exact W.fin g hg
end
end SG

set_option maxRecDepth 100000
set_option maxHeartbeats 4000000
namespace SG
open PySem L2 SR TL SS
/-! ### numbering: classes as they are first reached -/
/-- the unseen ones of a row, laid behind -/
def addNew (L : List Int) : List Int → List Int
  | [] => L
  | g :: gs => addNew (if g ∈ L then L else L ++ [g]) gs
theorem addNew_prefix (gs : List Int) : ∀ L : List Int, ∃ t, addNew L gs = L ++ t := by
  induction gs with
  | nil => intro L; exact ⟨[], (List.append_nil L).symm⟩
  | cons g gs ih =>
    intro L
    obtain ⟨t, h⟩ := ih (if g ∈ L then L else L ++ [g])
    by_cases hm : g ∈ L
    · rw [if_pos hm] at h
      exact ⟨t, by show addNew (if g ∈ L then L else L ++ [g]) gs = _; rw [if_pos hm]; exact h⟩
    · rw [if_neg hm] at h
      exact ⟨[g] ++ t, by show addNew (if g ∈ L then L else L ++ [g]) gs = _; rw [if_neg hm, h, List.append_assoc]⟩
theorem addNew_none {gs : List Int} : ∀ {L : List Int}, (∀ g ∈ gs, g ∈ L) → addNew L gs = L := by
  induction gs with
  | nil => intro L _; rfl
  | cons g gs ih =>
    intro L h
    show addNew (if g ∈ L then L else L ++ [g]) gs = L
    rw [if_pos (h g List.mem_cons_self)]
    exact ih fun u hu => h u (List.mem_cons_of_mem _ hu)
theorem addNew_mem {gs : List Int} : ∀ {L : List Int}, ∀ g ∈ gs, g ∈ addNew L gs := by
  induction gs with
  | nil => intro L g h; cases h
  | cons g gs ih =>
    intro L u hu
    rcases List.mem_cons.mp hu with z | z
    · subst z
      show u ∈ addNew (if u ∈ L then L else L ++ [u]) gs
      obtain ⟨t, e⟩ := addNew_prefix gs (if u ∈ L then L else L ++ [u])
      rw [e]
      refine List.mem_append_left _ ?_
      by_cases hm : u ∈ L
      · rw [if_pos hm]; exact hm
      · rw [if_neg hm]; simp
    · exact ih u z
/-- n classes of L have been looked at -/
inductive BE (δ : Int → List Int) (q0 : Int) : Nat → List Int → Prop
  | start : BE δ q0 0 [q0]
  | turn {n : Nat} {L : List Int} {k : Int} : BE δ q0 n L → L[n]? = some k → BE δ q0 (n + 1) (addNew L (δ k))
theorem BE.fn {δ : Int → List Int} {q0 : Int} : ∀ {n : Nat} {L L' : List Int}, BE δ q0 n L → BE δ q0 n L' → L = L'
  | 0, _, _, .start, .start => rfl
  | n + 1, _, _, .turn b h, .turn b' h' => by
    have e := BE.fn b b'
    subst e
    rw [h] at h'
    cases h'
    rfl
/-- both are through: the same list -/
theorem BE.done {δ : Int → List Int} {q0 : Int} {n m : Nat} {L M : List Int} (b : BE δ q0 n L) (b' : BE δ q0 m M) (h : L.length ≤ n) (h' : M.length ≤ m) : L = M := by
  have key : ∀ {n m : Nat} {L M : List Int}, BE δ q0 n L → BE δ q0 m M → L.length ≤ n → n ≤ m → n = m := by
    intro n m L M b b' h le
    rcases Nat.lt_or_eq_of_le le with lt | e
    · exfalso
      have down : ∀ {m : Nat} {M : List Int}, BE δ q0 m M → n < m → ∃ k M', BE δ q0 n M' ∧ M'[n]? = some k := by
        intro m
        induction m with
        | zero => intro M _ lt; omega
        | succ m ih =>
          intro M b lt
          cases b with
          | turn b0 h0 =>
            by_cases e : n = m
            · subst e
              exact ⟨_, _, b0, h0⟩
            · exact ih b0 (by omega)
      obtain ⟨k, M', b1, h1⟩ := down b' lt
      have e := BE.fn b b1
      subst e
      have := (List.getElem?_eq_some_iff.mp h1).1
      omega
    · exact e
  have e : n = m := by
    rcases Nat.le_total n m with z | z
    · exact key b b' h z
    · exact (key b' b h' z).symm
  subst e
  exact BE.fn b b'
theorem addNew_app (a b : List Int) : ∀ L : List Int, addNew L (a ++ b) = addNew (addNew L a) b := by
  induction a with
  | nil => intro L; rfl
  | cons g a ih => intro L; exact ih _
theorem addNew_keep {L gs : List Int} {k : Int} (h : k ∈ L) : k ∈ addNew L gs := by
  obtain ⟨t, e⟩ := addNew_prefix gs L
  rw [e]
  exact List.mem_append_left _ h
theorem addNew_map (κ : Int → Int) (gs : List Int) : ∀ L : List Int, addNew [] ((addNew L gs).map κ) = addNew (addNew [] (L.map κ)) (gs.map κ) := by
  induction gs with
  | nil => intro L; rfl
  | cons g gs ih =>
    intro L
    show addNew [] ((addNew (if g ∈ L then L else L ++ [g]) gs).map κ) = addNew (if κ g ∈ addNew [] (L.map κ) then addNew [] (L.map κ) else addNew [] (L.map κ) ++ [κ g]) (gs.map κ)
    by_cases hm : g ∈ L
    · rw [if_pos hm, if_pos (addNew_mem (κ g) (List.mem_map.mpr ⟨g, hm, rfl⟩))]
      exact ih L
    · rw [if_neg hm, ih, List.map_append, addNew_app]
      rfl
theorem addNew_nodup {gs : List Int} : ∀ {L : List Int}, L.Nodup → (addNew L gs).Nodup := by
  induction gs with
  | nil => intro L h; exact h
  | cons g gs ih =>
    intro L h
    show (addNew (if g ∈ L then L else L ++ [g]) gs).Nodup
    by_cases hm : g ∈ L
    · rw [if_pos hm]; exact ih h
    · rw [if_neg hm]
      refine ih (List.nodup_append.mpr ⟨h, by simp, fun a ha b hb e => ?_⟩)
      rw [List.mem_singleton] at hb
      rw [e, hb] at ha
      exact hm ha
theorem addNew_only {gs : List Int} : ∀ {L : List Int} {k : Int}, k ∈ addNew L gs → k ∈ L ∨ k ∈ gs := by
  induction gs with
  | nil => intro L k h; exact .inl h
  | cons g gs ih =>
    intro L k h
    rcases ih (L := if g ∈ L then L else L ++ [g]) h with z | z
    · by_cases hm : g ∈ L
      · rw [if_pos hm] at z; exact .inl z
      · rw [if_neg hm] at z
        rcases List.mem_append.mp z with y | y
        · exact .inl y
        · exact .inr (by rw [List.mem_singleton.mp y]; exact List.mem_cons_self)
    · exact .inr (List.mem_cons_of_mem _ z)
theorem BE.closed {δ : Int → List Int} {q0 : Int} : ∀ {n : Nat} {L : List Int}, BE δ q0 n L → ∀ (j : Nat) (k : Int), j < n → L[j]? = some k → ∀ g ∈ δ k, g ∈ L
  | 0, _, .start, j, _, h, _, _, _ => by omega
  | n + 1, _, .turn (L := L) (k := k0) b h0, j, k, hj, hk, g, hg => by
    have hn := (List.getElem?_eq_some_iff.mp h0).1
    have hk' : L[j]? = some k := by
      obtain ⟨t, e⟩ := addNew_prefix (δ k0) L
      rw [e, List.getElem?_append_left (by omega)] at hk
      exact hk
    by_cases e : j = n
    · subst e
      rw [h0] at hk'
      cases hk'
      exact addNew_mem g hg
    · exact addNew_keep (BE.closed b j k (by omega) hk' g hg)
/-- the quotient of an enumeration -/
theorem BE.quot {δ δ' : Int → List Int} {κ : Int → Int} {q0 : Int} : ∀ {n : Nat} {L : List Int}, BE δ q0 n L → (∀ s ∈ L, (δ s).map κ = δ' (κ s)) → ∃ m, BE δ' (κ q0) m (addNew [] (L.map κ)) ∧ (addNew [] (L.map κ)).take m = addNew [] ((L.take n).map κ)
  | 0, _, .start, _ => ⟨0, .start, rfl⟩
  | n + 1, _, .turn (L := L) (k := s) b h, hδ => by
    obtain ⟨t, et⟩ := addNew_prefix (δ s) L
    obtain ⟨m, bm, em⟩ := BE.quot b fun u hu => hδ u (addNew_keep hu)
    have hn := (List.getElem?_eq_some_iff.mp h).1
    have hs : s ∈ L := List.mem_of_getElem? h
    have eM : addNew [] ((addNew L (δ s)).map κ) = addNew (addNew [] (L.map κ)) (δ' (κ s)) := by rw [addNew_map, hδ s (addNew_keep hs)]
    have eT : (addNew L (δ s)).take (n + 1) = L.take n ++ [s] := by
      rw [et, List.take_append_of_le_length (by omega), List.take_add_one, h]
      rfl
    have eP : addNew [] (((addNew L (δ s)).take (n + 1)).map κ) = addNew (addNew [] ((L.take n).map κ)) [κ s] := by
      rw [eT, List.map_append, addNew_app]
      rfl
    rw [eM, eP]
    generalize hP : addNew [] ((L.take n).map κ) = Pn at em
    have hL : L.map κ = (L.take n).map κ ++ (κ s :: (L.drop (n + 1)).map κ) := by
      have : L = L.take n ++ s :: L.drop (n + 1) := by
        have := (List.getElem?_eq_some_iff.mp h).2
        rw [← this, ← List.drop_eq_getElem_cons hn, List.take_append_drop]
      have e2 := congrArg (List.map κ) this
      rw [List.map_append, List.map_cons] at e2
      exact e2
    have eM0 : addNew [] (L.map κ) = addNew (addNew Pn [κ s]) ((L.drop (n + 1)).map κ) := by
      rw [hL, addNew_app, hP]
      rfl
    generalize addNew [] (L.map κ) = M at bm em eM0
    by_cases hm : κ s ∈ Pn
    · have e1 : addNew Pn [κ s] = Pn := addNew_none fun g hg => by rw [List.mem_singleton.mp hg]; exact hm
      rw [e1]
      have hm' : κ s ∈ M.take m := by rw [em]; exact hm
      obtain ⟨j, hj, ej⟩ := List.mem_iff_getElem.mp hm'
      rw [List.length_take] at hj
      rw [List.getElem_take] at ej
      have hMj : M[j]? = some (κ s) := by rw [List.getElem?_eq_getElem (by omega), ej]
      rw [addNew_none (BE.closed bm j (κ s) (by omega) hMj)]
      exact ⟨m, bm, em⟩
    · have e1 : addNew Pn [κ s] = Pn ++ [κ s] := by
        show (if κ s ∈ Pn then Pn else Pn ++ [κ s]) = _
        rw [if_neg hm]
      rw [e1] at eM0 ⊢
      obtain ⟨u, eu⟩ := addNew_prefix ((L.drop (n + 1)).map κ) (Pn ++ [κ s])
      rw [eu] at eM0
      have hlen : m = Pn.length := by
        have h1 := congrArg List.length em
        have h2 := congrArg List.length eM0
        simp at h1 h2
        omega
      have hMm : M[m]? = some (κ s) := by
        rw [eM0, hlen]
        simp
      refine ⟨m + 1, .turn bm hMm, ?_⟩
      obtain ⟨v, ev⟩ := addNew_prefix (δ' (κ s)) M
      have hlt := (List.getElem?_eq_some_iff.mp hMm).1
      rw [ev, List.take_append_of_le_length (by omega), List.take_add_one, hMm, em]
      rfl
/-- all looked at: so is the quotient -/
theorem BE.quotDone {δ δ' : Int → List Int} {κ : Int → Int} {q0 : Int} {n : Nat} {L : List Int} (b : BE δ q0 n L) (hδ : ∀ s ∈ L, (δ s).map κ = δ' (κ s)) (h : L.length ≤ n) : ∃ m, BE δ' (κ q0) m (addNew [] (L.map κ)) ∧ (addNew [] (L.map κ)).length ≤ m := by
  obtain ⟨m, b1, e⟩ := b.quot hδ
  rw [List.take_of_length_le h] at e
  refine ⟨m, b1, ?_⟩
  have := congrArg List.length e
  rw [List.length_take] at this
  omega
end SG

set_option maxRecDepth 100000
set_option maxHeartbeats 4000000
namespace SG
open PySem L2 SR TL SS
/-! ### dicts with int keys -/
def dI (l : List Int) (F : Int → V) : List (Key × V) := l.map fun g => ((Sum.inl g : Key), F g)
theorem val_dI (F : Int → V) (g : Int) : ∀ l : List Int, valV (dI l F) (Sum.inl g) = if g ∈ l then some (F g) else none
  | [] => rfl
  | h :: l => by
    by_cases e : h = g
    · subst e
      rw [show dI (h :: l) F = ((Sum.inl h : Key), F h) :: dI l F from rfl, valV_pos rfl]
      simp
    · rw [show dI (h :: l) F = ((Sum.inl h : Key), F h) :: dI l F from rfl, valV_neg (fun z => e (Sum.inl.inj z)), val_dI F g l]
      have e' : ¬ g = h := fun z => e z.symm
      by_cases hm : g ∈ l
      · rw [if_pos hm, if_pos (List.mem_cons_of_mem _ hm)]
      · rw [if_neg hm, if_neg (by simp [e', hm])]
theorem put_dI {F : Int → V} {g : Int} {l : List Int} (h : g ∉ l) : putK (dI l F) (Sum.inl g) (F g) = dI (l ++ [g]) F := by
  rw [putK_new _ (by rw [val_dI, if_neg h])]
  unfold dI
  rw [List.map_append]
  rfl
theorem len_dI (l : List Int) (F : Int → V) : (dI l F).length = l.length := by simp [dI]
theorem ix_lot {K : PySem.W.Frag} {H : Hp} {a : Addr} {xs : List V} {i : Int} {v : V} {Q : V → Hp → Prop} (h : LoT H a xs) (hi : atI xs i = some v) (q : Q v H) : rIx K (.ref a) (.int i) H Q := by
  rcases h with h | h
  · exact .inl ⟨a, xs, i, v, rfl, rfl, SqL.of h, hi, q⟩
  · exact .inr (.inl ⟨a, xs, i, v, rfl, rfl, SqT.of h, hi, q⟩)
/-! ### the states that are reached -/
structure Rch (cs : List Nat) (rows : List (List Int)) (at' j : Nat) (fd : List Int) : Prop where
  hd : ∃ t, fd = 0 :: t
  nd : fd.Nodup
  rg : ∀ q ∈ fd, 0 ≤ q ∧ q < (rows.length : Int)
  rc : ∀ q ∈ fd, ∃ x : List Nat, (∀ c ∈ x, c ∈ cs) ∧ run cs rows 0 x = q
  cl : ∀ (i : Nat) q, i < at' → fd[i]? = some q → ∀ c ∈ cs, nxt cs rows q c ∈ fd
  cj : ∀ q, fd[at']? = some q → ∀ c ∈ cs.take j, nxt cs rows q c ∈ fd
theorem Rch.start {cs : List Nat} {rows : List (List Int)} (h : 1 ≤ rows.length) : Rch cs rows 0 0 [0] :=
  ⟨⟨[], rfl⟩, by simp, fun q hq => by rw [List.mem_singleton.mp hq]; omega, fun q hq => ⟨[], (fun _ h => nomatch h), (List.mem_singleton.mp hq).symm⟩, fun i q hi => by omega, fun q _ c hc => by simp at hc⟩
theorem Rch.skip {cs : List Nat} {rows : List (List Int)} {at' j c : Nat} {fd : List Int} {q : Int} (R : Rch cs rows at' j fd) (hq : fd[at']? = some q) (hc : cs[j]? = some c) (h : nxt cs rows q c ∈ fd) : Rch cs rows at' (j + 1) fd := by
  refine ⟨R.hd, R.nd, R.rg, R.rc, R.cl, fun q' hq' d hd => ?_⟩
  rw [hq] at hq'
  cases hq'
  rw [List.take_add_one, hc] at hd
  rcases List.mem_append.mp hd with z | z
  · exact R.cj q hq d z
  · have : d = c := by simpa using z
    rw [this]; exact h
theorem Rch.add {cs : List Nat} {rows : List (List Int)} {ends : List Int} {at' j c : Nat} {fd : List Int} {q : Int} (W : WfM cs rows ends) (R : Rch cs rows at' j fd) (hq : fd[at']? = some q) (hc : cs[j]? = some c) (h : nxt cs rows q c ∉ fd) : Rch cs rows at' (j + 1) (fd ++ [nxt cs rows q c]) := by
  have hqm := List.mem_of_getElem? hq
  have hcm := List.mem_of_getElem? hc
  obtain ⟨q0, q1⟩ := R.rg q hqm
  obtain ⟨_, _, _, _, n0, n1⟩ := W.nxt_ok q0 q1 hcm
  have hlt : at' < fd.length := (List.getElem?_eq_some_iff.mp hq).1
  refine ⟨?_, ?_, ?_, ?_, ?_, ?_⟩
  · obtain ⟨t, e⟩ := R.hd
    exact ⟨t ++ [nxt cs rows q c], by rw [e]; rfl⟩
  · rw [List.nodup_append]
    refine ⟨R.nd, by simp, fun a ha b hb e => ?_⟩
    rw [List.mem_singleton] at hb
    rw [e, hb] at ha
    exact h ha
  · intro p hp
    rcases List.mem_append.mp hp with z | z
    · exact R.rg p z
    · rw [List.mem_singleton.mp z]; exact ⟨n0, n1⟩
  · intro p hp
    rcases List.mem_append.mp hp with z | z
    · exact R.rc p z
    · rw [List.mem_singleton.mp z]
      obtain ⟨x, hx, e⟩ := R.rc q hqm
      refine ⟨x ++ [c], fun d hd => ?_, ?_⟩
      · rcases List.mem_append.mp hd with z | z
        · exact hx d z
        · rw [List.mem_singleton.mp z]; exact hcm
      · unfold run at e ⊢
        rw [List.foldl_append, e]
        rfl
  · intro i p hi hp d hd
    rw [List.getElem?_append_left (by omega)] at hp
    exact List.mem_append_left _ (R.cl i p hi hp d hd)
  · intro p hp d hd
    rw [List.getElem?_append_left hlt, hq] at hp
    cases hp
    rw [List.take_add_one, hc] at hd
    rcases List.mem_append.mp hd with z | z
    · exact List.mem_append_left _ (R.cj q hq d z)
    · have : d = c := by simpa using z
      rw [this]; exact List.mem_append_right _ (by simp)
theorem Rch.next {cs : List Nat} {rows : List (List Int)} {at' : Nat} {fd : List Int} (R : Rch cs rows at' cs.length fd) : Rch cs rows (at' + 1) 0 fd := by
  refine ⟨R.hd, R.nd, R.rg, R.rc, fun i q hi hq c hc => ?_, fun q _ c hc => by simp at hc⟩
  by_cases e : i = at'
  · subst e
    exact R.cj q hq c (by rw [List.take_length]; exact hc)
  · exact R.cl i q (by omega) hq c hc
/-- what reached gives -/
structure Order (cs : List Nat) (rows : List (List Int)) (fd : List Int) : Prop where
  hd : ∃ t, fd = 0 :: t
  nd : fd.Nodup
  rg : ∀ q ∈ fd, 0 ≤ q ∧ q < (rows.length : Int)
  rc : ∀ q ∈ fd, ∃ x : List Nat, (∀ c ∈ x, c ∈ cs) ∧ run cs rows 0 x = q
  cl : ∀ q ∈ fd, ∀ c ∈ cs, nxt cs rows q c ∈ fd
theorem Rch.done {cs : List Nat} {rows : List (List Int)} {at' : Nat} {fd : List Int} (R : Rch cs rows at' 0 fd) (h : fd.length ≤ at') : Order cs rows fd := by
  refine ⟨R.hd, R.nd, R.rg, R.rc, fun q hq c hc => ?_⟩
  obtain ⟨i, hi, e⟩ := List.mem_iff_getElem.mp hq
  exact R.cl i q (by omega) (by rw [List.getElem?_eq_getElem hi, e]) c hc
section
variable {P : Program} {w : World} {K : PySem.W.Frag} {mg : Str → Option Value} {base : Heap}
abbrev sRch : Stmt := top 46
abbrev nRch : List Str := ["signs", "rows", "found", "known", "at", "sign", "goal"]
theorem scRch : FnScope nRch ["signs", "rows"] (defScope sRch) := ⟨rfl, rfl, rfl, by decide +kernel, rfl, by decide +kernel, by decide +kernel⟩
/-- rows as they are handed over -/
def RowsAt (H : Hp) (cs : List Nat) (a : Addr) (rows : List (List Int)) : Prop := ∃ qs : List Addr, LoT H a (qs.map .ref) ∧ Paired (RowAt H cs) qs rows
theorem RowsAt.mono {H H' : Hp} {cs : List Nat} {a : Addr} {rows : List (List Int)} (e : Same H H') (h : RowsAt H cs a rows) : RowsAt H' cs a rows := by
  obtain ⟨qs, h1, h2⟩ := h
  exact ⟨qs, h1.mono e, Paired.mono h2 fun _ _ h => e _ _ h⟩
/-- rows[q][sign] -/
theorem RowsAt.get {H : Hp} {cs : List Nat} {a : Addr} {rows : List (List Int)} {ends : List Int} {q : Int} {c : Nat} (h : RowsAt H cs a rows) (W : WfM cs rows ends) (q0 : 0 ≤ q) (q1 : q < (rows.length : Int)) (hc : c ∈ cs) :
    ∃ (xs : List V) (d : Addr), LoT H a xs ∧ atI xs q = some (.ref d) ∧ DGet H d (ltV c) (some (.int (nxt cs rows q c))) := by
  obtain ⟨qs, h1, h2⟩ := h
  obtain ⟨row, e1, e2, e3, _⟩ := W.nxt_ok q0 q1 hc
  obtain ⟨d, hd, hrow⟩ := paired_get _ h2 e1
  refine ⟨_, d, h1, atI_of q0 (by rw [List.getElem?_map, hd]; rfl), ?_⟩
  rw [e3, ← val_row e2 hc]
  exact DGet.k (k := Sum.inr (lt c)) hrow
/-- the next states, by ascending signs -/
def dlt (cs : List Nat) (rows : List (List Int)) (q : Int) : List Int := cs.map (nxt cs rows q)
theorem addNew_snoc {L gs : List Int} {g : Int} : addNew L (gs ++ [g]) = if g ∈ addNew L gs then addNew L gs else addNew L gs ++ [g] := by rw [addNew_app]; rfl
def spRch : Sp := fun vs H Q _ => ∃ (cs : List Nat) (a : Addr) (rows : List (List Int)) (ends : List Int), vs = [.str (txt cs), .ref a] ∧ Abc cs ∧ WfM cs rows ends ∧ RowsAt H cs a rows ∧
  ∀ (fd : List Int) (p : Addr) (H' : Hp), Order cs rows fd → (∃ n, BE (dlt cs rows) 0 n fd ∧ fd.length ≤ n) → H p = none → Same H H' → H' p = some (.lst (fd.map .int)) → Q (.ref p) H'
theorem ok_rch {f : Addr} {fd : FuncData} (F : Fun K "reached" "reached" sRch f fd) (B : Bl mg) : FnOk P w K mg base CX0 1 f fd ["signs", "rows"] spRch := by
  refine F.ok scRch (fun vs H Q E h => ?_) (fun cdv A outer s H vs Q E hr h => ?_)
  · obtain ⟨cs, a, rows, ends, rfl, _⟩ := h
    rfl
  · obtain ⟨cs, a, rows, ends, rfl, ha, W, hR, k⟩ := h
    have hu := hu_of hr
    refine ⟨_, pss_cons (ps_par (by rfl) scRch.nd (i := 2) (j := 3) rfl rfl (by decide) rfl rfl (pa_cons (pe_lst (pa_cons pe_int pa_nil)) (pa_cons (pe_disp (pps_cons pe_int pe_bl pps_nil) (by rfl) (by rfl) (fun z => by cases z) (by decide)) pa_nil)) (by rfl))
      (pss_cons (ps_set (i := 4) scRch.nd rfl (.inl rfl) pe_int)
      (pss_cons (ps_while PassesOwn.never (pt_cmpR op_lt (pv 4) (pe_callB call_len_seq (by rfl) B.len boot_len (pa_cons (pv 2) pa_nil)) (nomark _))
        (pss_cons (ps_for PassesOwn.never rfl (pi_str (pv 0)) (pg_name (i := 5) scRch.nd rfl (.inl rfl))
            (pss_cons (ps_set (i := 6) scRch.nd rfl (.inl rfl) (pe_dget hu (pe_ix ix_seq (pv 1) (pe_ix ix_list (pv 2) (pv 4) (fun _ _ => rfl)) (fun _ _ => rfl)) (pv 5) (fun _ _ => rfl)))
            (pss_one (ps_if (pt_cmp (pc_dnotin hu (pv 6) (pv 3)))
              (pss_cons (ps_dput hu (pv 3) (pv 6) pe_bl rfl) (pss_one (ps_expr (pe_bm PySem.F.plainAttrs_list PySem.F.slot_list_append PySem.F.type_list_append mt_append (pv 2) (pa_cons (pv 6) pa_nil))))) pss_nil))))
        (pss_one (ps_aug (i := 4) scRch.nd rfl (.inl rfl) pe_int ip_add))))
      (pss_one (ps_ret (pv 2))))), ?_⟩
    refine ⟨by show 1 ≤ sizeLine; decide, fun l hl => ?_⟩
    intro d hd
    refine ⟨upd_same, [(Sum.inl 0, .bl true)], rfl, (by show 1 ≤ 15; decide), ?_⟩
    refine ⟨_, _, rfl, ?_⟩
    have nld : l ≠ d := ne_of_none upd_same hd
    have hdH : H d = none := (same_new hl).free hd
    have s0 : Same H (upd (upd (upd H l (.lst [.int 0])) d (.dK [])) d (.dK (mergeK [] [(Sum.inl 0, .bl true)]))) := same_upd (same_upd (same_new hl) hdH) hdH
    refine while_by (fun σ H' => Same H H' ∧ ∃ (fd : List Int) (n : Nat) (a5 a6 : Option V), σ = [some (.str (txt cs)), some (.ref a), some (.ref l), some (.ref d), some (.int (n : Nat)), a5, a6] ∧ H' l = some (.lst (fd.map .int)) ∧ H' d = some (.dK (dI fd fun _ => .bl true)) ∧ Rch cs rows n 0 fd ∧ BE (dlt cs rows) 0 n fd) (muAt rows.length 4) ?_ ?_ ?_
    · refine ⟨s0, [0], 0, none, none, rfl, ?_, ?_, Rch.start W.one, .start⟩
      · rw [upd_ne nld, upd_ne nld, upd_same]; rfl
      · rw [upd_same]; rfl
    · rintro σ H1 ⟨e1, fd, n, a5, a6, rfl, h1, h2, R, be⟩
      refine ⟨_, rfl, _, rfl, l, _, rfl, .inl (SqL.of h1), _, _, rfl, rfl, _, rfl, ?_⟩
      rw [List.length_map]
      have hlen : fd.length ≤ rows.length := nodup_len _ _ R.nd R.rg
      refine ite2 (fun hlt => ?_) (fun hge => ?_)
      · have hlt : n < fd.length := by have := of_decide_eq_true hlt; omega
        obtain ⟨q, hq⟩ : ∃ q, fd[n]? = some q := ⟨_, List.getElem?_eq_getElem hlt⟩
        have hz : (txt cs).cps.size = cs.length := by simp [txt]
        obtain ⟨F0, hF0', hF0q, hF0⟩ : ∃ F0, BE (dlt cs rows) 0 n F0 ∧ F0[n]? = some q ∧ fd = addNew F0 ((cs.take 0).map (nxt cs rows q)) := ⟨fd, be, hq, rfl⟩
        refine ⟨_, rfl, _, rfl, for_it walk_str (fun j σ H' => Same H H' ∧ ∃ (fd : List Int) (a5 a6 : Option V), σ = [some (.str (txt cs)), some (.ref a), some (.ref l), some (.ref d), some (.int (n : Nat)), a5, a6] ∧ H' l = some (.lst (fd.map .int)) ∧ H' d = some (.dK (dI fd fun _ => .bl true)) ∧ Rch cs rows n j fd ∧ fd[n]? = some q ∧ fd = addNew F0 ((cs.take j).map (nxt cs rows q))) ⟨e1, fd, a5, a6, rfl, h1, h2, R, hq, hF0⟩ (fun _ _ _ _ _ => trivial) ?_ ?_⟩
        · rintro j v σ H2 H2' hj ⟨e2, fd, b5, b6, rfl, h1, h2, R, hq, hfd⟩ ⟨rfl, c, hc, rfl⟩
          have hc' : cs[j]? = some c := by simpa [txt] using hc
          have hcm := List.mem_of_getElem? hc'
          have hqm := List.mem_of_getElem? hq
          obtain ⟨q0, q1⟩ := R.rg q hqm
          obtain ⟨xs, dd, g1, g2, g3⟩ := (hR.mono e2).get W q0 q1 hcm
          refine ⟨_, rfl, _, rfl, _, rfl, l, _, _, .int q, rfl, rfl, SqL.of h1, atI_nat (by rw [List.getElem?_map, hq]; rfl), ?_⟩
          refine ix_lot g1 g2 ⟨_, rfl, dd, _, rfl, g3, ?_⟩
          refine ⟨_, rfl, _, rfl, d, _, rfl, DGet.k (k := Sum.inl (nxt cs rows q c)) h2, _, rfl, ?_⟩
          rw [val_dI]
          by_cases hm : nxt cs rows q c ∈ fd
          · rw [if_pos hm]
            refine iteF ⟨e2, fd, _, _, rfl, h1, h2, R.skip hq hc' hm, hq, ?_⟩
            rw [List.take_add_one, hc', List.map_append]
            show fd = addNew F0 (_ ++ [nxt cs rows q c])
            rw [addNew_snoc, ← hfd, if_pos hm]
          · rw [if_neg hm]
            have hlen : fd.length ≤ rows.length := nodup_len _ _ R.nd R.rg
            have h5 := W.five
            refine iteT ⟨_, rfl, _, rfl, d, _, rfl, DPut.k (k := Sum.inl (nxt cs rows q c)) h2 (by rw [len_dI, sizeLine_eq]; omega), ?_⟩
            rw [put_dI (F := fun _ => .bl true) hm]
            refine ⟨_, rfl, .inl ⟨rfl, _, SqL.of (by rw [upd_ne nld]; exact h1)⟩, _, rfl, l, _, _, rfl, rfl, (by rw [upd_ne nld]; exact h1), (by rw [List.length_map, sizeLine_eq]; omega), ?_⟩
            refine ⟨same_upd (same_upd e2 hdH) hl, fd ++ [nxt cs rows q c], _, _, rfl, ?_, ?_, R.add W hq hc' hm, ?_, ?_⟩
            · rw [upd_same, List.map_append]; rfl
            · rw [upd_ne (Ne.symm nld), upd_same]
            · rw [List.getElem?_append_left (List.getElem?_eq_some_iff.mp hq).1]; exact hq
            · rw [List.take_add_one, hc', List.map_append]
              show fd ++ _ = addNew F0 (_ ++ [nxt cs rows q c])
              rw [addNew_snoc, ← hfd, if_neg hm]
        · rintro σ H2 ⟨e2, fd, b5, b6, rfl, h1, h2, R, hq, hfd⟩
          rw [hz] at R hfd
          rw [List.take_length] at hfd
          have be' : BE (dlt cs rows) 0 (n + 1) fd := by rw [hfd]; exact .turn hF0' hF0q
          have hlt' : n < fd.length := (List.getElem?_eq_some_iff.mp hq).1
          have hlen : fd.length ≤ rows.length := nodup_len _ _ R.nd R.rg
          refine ⟨_, rfl, _, _, rfl, rfl, ⟨e2, fd, n + 1, b5, b6, ?_, h1, h2, R.next, be'⟩, ?_⟩
          · show [some (V.str (txt cs)), some (.ref a), some (.ref l), some (.ref d), some (.int ((n : Nat) + 1)), b5, b6] = _
            rfl
          · show rows.length - ((n : Int) + 1).toNat < rows.length - (n : Int).toNat
            omega
      · have hge' : fd.length ≤ n := by
          have h : ¬ ((n : Int) < (fd.length : Nat)) := fun z => hge (decide_eq_true z)
          omega
        exact ⟨_, rfl, k fd l H1 (R.done hge') ⟨n, be, hge'⟩ hl e1 h1⟩
    · intro σ H Q Q' m h
      obtain ⟨v, h1, w, h2, p, ys, h3, h4, i, j, h5, h6, b, h7, q⟩ := h
      exact ⟨v, h1, w, h2, p, ys, h3, h4, i, j, h5, h6, b, h7, m _ _ q⟩
end
end SG

set_option maxRecDepth 100000
set_option maxHeartbeats 4000000
namespace SG
open PySem L2 SR TL SS
/-! ### kinds of states -/
def sig (cs : List Nat) (rows : List (List Int)) (κ : Int → Int) (q : Int) : PKey := (κ q, cs.map fun c => κ (nxt cs rows q c))
def Refn (cs : List Nat) (rows : List (List Int)) (fd : List Int) (κ κ' : Int → Int) : Prop := ∀ p ∈ fd, ∀ q ∈ fd, κ' p = κ' q ↔ sig cs rows κ p = sig cs rows κ q
def dKi (fd : List Int) (κ : Int → Int) : List (Key × V) := dI fd fun q => .int (κ q)
theorem rowK_ne_dI {cs : List Nat} {row fd : List Int} {F : Int → V} (h : fd ≠ []) : rowK cs row ≠ dI fd F := fun e => by
  cases fd with
  | nil => exact h rfl
  | cons g fd =>
    have hm : ((Sum.inl g : Key), F g) ∈ rowK cs row := by rw [e]; exact List.mem_cons_self
    obtain ⟨p, _, ep⟩ := List.mem_map.mp hm
    cases ep
theorem RowsAt.lock {H : Hp} {cs : List Nat} {a d : Addr} {rows : List (List Int)} {fd : List Int} {F : Int → V} {o : HO} (h : RowsAt H cs a rows) (hd : H d = some (.dK (dI fd F))) (hf : fd ≠ []) : RowsAt (upd H d o) cs a rows := by
  obtain ⟨qs, h1, h2⟩ := h
  have na : a ≠ d := by
    rcases h1 with z | z
    · exact ne_of z hd (by intro z; cases z)
    · exact ne_of z hd (by intro z; cases z)
  refine ⟨qs, ?_, Paired.mono h2 fun q row z => ?_⟩
  · rcases h1 with z | z
    · exact .inl (by rw [upd_ne na]; exact z)
    · exact .inr (by rw [upd_ne na]; exact z)
  · have nq : q ≠ d := fun e => by
      have z' : H q = some (.dK (rowK cs row)) := z
      rw [e, hd] at z'
      exact rowK_ne_dI hf (HO.dK.inj (Option.some.inj z')).symm
    show _ = _
    rw [upd_ne nq]
    exact z
theorem dI_congr {F G : Int → V} : ∀ {l : List Int}, (∀ q ∈ l, F q = G q) → dI l F = dI l G := fun h => List.map_congr_left fun q hq => by rw [h q hq]
theorem lookP_some {xs : List (PKey × Addr × Int)} {k : PKey} {v : Int} (hx : ∀ (j : Nat) x, xs[j]? = some x → x.2.2 = (j : Int)) (h : lookP xs k = some v) : ∃ j : Nat, v = (j : Int) ∧ ∃ b, xs[j]? = some (k, b, v) := by
  unfold lookP at h
  obtain ⟨x, h1, h2⟩ := Option.map_eq_some_iff.mp h
  have hk : x.1 = k := by simpa using List.find?_some h1
  have hm := List.mem_of_find?_eq_some h1
  obtain ⟨j, hj, e⟩ := List.mem_iff_getElem.mp hm
  have hj' : xs[j]? = some x := by rw [List.getElem?_eq_getElem hj, e]
  refine ⟨j, by rw [← h2]; exact hx j x hj', x.2.1, ?_⟩
  rw [hj', ← hk, ← h2]
theorem lookP_app {xs ys : List (PKey × Addr × Int)} {k : PKey} {v : Int} (h : lookP xs k = some v) : lookP (xs ++ ys) k = some v := by
  unfold lookP at h ⊢
  obtain ⟨x, h1, h2⟩ := Option.map_eq_some_iff.mp h
  rw [List.find?_append, h1]
  exact congrArg some h2
theorem lookP_new {xs : List (PKey × Addr × Int)} {k : PKey} {b : Addr} {v : Int} (h : lookP xs k = none) : lookP (xs ++ [(k, b, v)]) k = some v := by
  unfold lookP at h ⊢
  rw [List.find?_append, Option.map_eq_none_iff.mp h]
  simp
theorem keyT_upd {H : Hp} {k : PKey} {b p : Addr} {o o' : HO} (h : KeyT H k b) (hp : H p = some o) (n : ∀ xs, o ≠ .tup xs) : KeyT (L2.upd H p o') k b := by
  obtain ⟨c, h1, h2⟩ := h
  have n1 : b ≠ p := fun e => by rw [e, hp] at h1; exact n _ (Option.some.inj h1)
  have n2 : c ≠ p := fun e => by rw [e, hp] at h2; exact n _ (Option.some.inj h2)
  exact ⟨c, by rw [upd_ne n1]; exact h1, by rw [upd_ne n2]; exact h2⟩
theorem put_upd {fd : List Int} {κ : Int → Int} {i : Nat} {q v : Int} (nd : fd.Nodup) (hq : fd[i]? = some q) : putK (dKi (fd.take i) κ) (Sum.inl q) (.int v) = dKi (fd.take (i + 1)) (fun p => if p = q then v else κ p) ∧ ∀ p ∈ fd.take i, p ≠ q := by
  have hni : q ∉ fd.take i := fun h => by
    obtain ⟨j, hj, e⟩ := List.mem_iff_getElem.mp h
    rw [List.length_take] at hj
    have hi := (List.getElem?_eq_some_iff.mp hq).1
    have e' : fd[j]? = some q := by
      rw [List.getElem_take] at e
      rw [List.getElem?_eq_getElem (by omega), e]
    have := (List.getElem?_inj (by omega) nd).mp (e'.trans hq.symm)
    omega
  have hp : ∀ p ∈ fd.take i, p ≠ q := fun p hp e => hni (e ▸ hp)
  refine ⟨?_, hp⟩
  have e1 : dKi (fd.take i) κ = dKi (fd.take i) (fun p => if p = q then v else κ p) := dI_congr fun p h => by
    show V.int (κ p) = V.int (if p = q then v else κ p)
    rw [if_neg (hp p h)]
  rw [e1]
  have e2 : fd.take (i + 1) = fd.take i ++ [q] := by rw [List.take_add_one, hq]; rfl
  rw [e2]
  have e3 := put_dI (F := fun p => V.int (if p = q then v else κ p)) hni
  simp only [if_true] at e3
  exact e3
section
variable {P : Program} {w : World} {K : PySem.W.Frag} {mg : Str → Option Value} {base : Heap}
abbrev sRef : Stmt := top 47
abbrev nRef : List Str := ["signs", "rows", "kinds", "numbers", "found", "state", "kind", "key", "sign"]
theorem scRef : FnScope nRef ["signs", "rows", "kinds"] (defScope sRef) := ⟨rfl, rfl, rfl, by decide +kernel, rfl, by decide +kernel, by decide +kernel⟩
def spRef : Sp := fun vs H Q _ => ∃ (cs : List Nat) (a d : Addr) (rows : List (List Int)) (ends fd : List Int) (κ : Int → Int), vs = [.str (txt cs), .ref a, .ref d] ∧ Abc cs ∧ WfM cs rows ends ∧ RowsAt H cs a rows ∧ Order cs rows fd ∧ H d = some (.dK (dKi fd κ)) ∧
  ∀ (κ' : Int → Int) (p : Addr) (H' : Hp), Refn cs rows fd κ κ' → H p = none → Same H H' → H' p = some (.dK (dKi fd κ')) → Q (.ref p) H'
theorem ok_ref {f : Addr} {fd : FuncData} (F : Fun K "refined" "refined" sRef f fd) (B : Bl mg) : FnOk P w K mg base CX0 1 f fd ["signs", "rows", "kinds"] spRef := by
  refine F.ok scRef (fun vs H Q E h => ?_) (fun cdv A outer s H vs Q E hr h => ?_)
  · obtain ⟨cs, a, d, rows, ends, fd, κ, rfl, _⟩ := h
    rfl
  · obtain ⟨cs, a, d, rows, ends, fd, κ, rfl, ha, W, hR, O, hd, k⟩ := h
    have hu := hu_of hr
    have hu2 := Nat.lt_of_le_of_lt (Nat.add_le_add_left (by decide : 2 ≤ 64) _) hr.units
    refine ⟨_, pss_cons (ps_par (by rfl) scRef.nd (i := 3) (j := 4) rfl rfl (by decide) rfl rfl (pa_cons pe_dnewP (pa_cons pe_dnewK pa_nil)) (by rfl))
      (pss_cons (ps_lock (ps_for PassesOwn.never rfl (pi_items (pv 2)) (pg_tup rfl (pgs_cons (pg_name (i := 5) scRef.nd rfl (.inr rfl)) (pgs_cons (pg_name (i := 6) scRef.nd rfl (.inl rfl)) pgs_nil)))
        (pss_cons (ps_set (i := 7) scRef.nd rfl (.inl rfl) (pe_tup (pa_cons (pv 6) (pa_cons (pe_callTy call_tuple_of (by rfl) B.tuple (by decide +kernel) (pa_cons (pe_lc (own := [("sign", 8)]) (g := gName 8) (tt := tYes) (te := tDGet (tVar 2) (tDGet (tOp (rIx K) (tVar 1) (tVar 5)) (tVar 8))) rfl scRef.nd (pi_str (pv 0)) (blkOk_by (by kernel_rfl))
            (fun _ _ _ _ _ => pg_name (i := 8) scRef.nd rfl (.inl rfl)) (fun _ _ _ _ _ => pts_nil) (fun _ _ _ _ _ => pe_dget hu (pv 2) (pe_dget hu (pe_ix ix_seq (pv 1) (pv 5) (fun _ _ => rfl)) (pv 8) (fun _ _ => rfl)) (fun _ _ => rfl))) pa_nil)) pa_nil))))
        (pss_one (ps_dput hu (pv 4) (pv 5) (pe_psetd hu2 (pv 3) (pv 7) (pe_callB call_lenP (by rfl) B.len boot_len (pa_cons (pv 3) pa_nil)) ⟨rfl, rfl, rfl, rfl⟩) rfl)))))
      (pss_one (ps_ret (pv 4)))), ?_⟩
    intro pn hpn pf hpf
    refine ⟨_, _, rfl, ?_⟩
    have hpfH : H pf = none := (same_new hpn).free hpf
    have nnf : pn ≠ pf := ne_of_none upd_same hpf
    have s0 : Same H (upd (upd H pn (PkO P w pn [])) pf (.dK [])) := same_upd (same_new hpn) hpfH
    have hne : fd ≠ [] := by obtain ⟨t, e⟩ := O.hd; rw [e]; simp
    have ndn : d ≠ pn := ne_of_none hd hpn
    have ndf : d ≠ pf := ne_of_none hd hpfH
    refine ⟨d, _, s0 _ _ hd, trivial, fun od => ?_⟩
    have hRd : RowsAt (upd H d (.frz od (.dK (dKi fd κ)))) cs a rows := hR.lock hd hne
    have sd : Same (upd H d (.frz od (.dK (dKi fd κ)))) (upd (upd (upd H pn (PkO P w pn [])) pf (.dK [])) d (.frz od (.dK (dKi fd κ)))) := fun b o hb => by
      by_cases e : b = d
      · subst e; rw [upd_same] at hb ⊢; exact hb
      · rw [upd_ne e] at hb ⊢; exact s0 _ _ hb
    have pnd : (upd H d (.frz od (.dK (dKi fd κ)))) pn = none := by rw [upd_ne (Ne.symm ndn)]; exact hpn
    have pfd : (upd H d (.frz od (.dK (dKi fd κ)))) pf = none := by rw [upd_ne (Ne.symm ndf)]; exact hpfH
    refine ⟨_, rfl, d, od, _, rfl, upd_same, ?_⟩
    have hfl : fd.length ≤ rows.length := nodup_len _ _ O.nd O.rg
    have h5 := W.five
    refine for_it walk_items (fun i σ H' => Same (upd H d (.frz od (.dK (dKi fd κ)))) H' ∧ ∃ (κ' : Int → Int) (xs : List (PKey × Addr × Int)) (a5 a6 a7 a8 : Option V), σ = [some (.str (txt cs)), some (.ref a), some (.ref d), some (.ref pn), some (.ref pf), a5, a6, a7, a8] ∧
      H' pn = some (PkO P w pn xs) ∧ H' pf = some (.dK (dKi (fd.take i) κ')) ∧ (∀ x ∈ xs, KeyT H' x.1 x.2.1) ∧ (∀ (j : Nat) x, xs[j]? = some x → x.2.2 = (j : Int)) ∧ xs.length ≤ i ∧ ∀ q ∈ fd.take i, lookP xs (sig cs rows κ q) = some (κ' q)) ?_ (fun i σ H' _ p => p.1 _ _ upd_same) ?_ ?_
    · refine ⟨sd, κ, [], none, none, none, none, rfl, ?_, ?_, (fun _ h => nomatch h), (fun j x h => by simp at h), Nat.le_refl _, (fun _ h => by simp at h)⟩
      · rw [upd_ne (Ne.symm ndn), upd_ne nnf, upd_same]
        rfl
      · rw [upd_ne (Ne.symm ndf), upd_same]; rfl
    · rintro i v σ H1 H1' hi ⟨e1, κ', xs, b5, b6, b7, b8, rfl, h1, h2, h3, h4, h6, h7⟩ ⟨T, x, y, rfl, hT, rfl, ex, ey⟩
      rw [show (dKi fd κ).length = fd.length from len_dI _ _] at hi
      have hq : fd[i]? = some fd[i] := List.getElem?_eq_getElem hi
      generalize fd[i] = q at hq
      have hkv : (dKi fd κ)[i]? = some (Sum.inl q, .int (κ q)) := by
        unfold dKi dI
        rw [List.getElem?_map, hq]; rfl
      dsimp only at ex ey
      rw [hkv] at ex ey
      cases ex
      cases ey
      have hqm := List.mem_of_getElem? hq
      obtain ⟨q0, q1⟩ := O.rg q hqm
      have eT : Same H1 (upd H1 T (.tup [kV (Sum.inl q), .int (κ q)])) := same_new hT
      refine ⟨T, _, rfl, SqT.of upd_same, rfl, _, _, rfl, _, _, rfl, rfl, ?_⟩
      have hz : (txt cs).cps.size = cs.length := by simp [txt]
      have h4' := ha.four
      refine ⟨_, rfl, _, rfl, _, rfl, fun D hD => lc_S walk_str hD (by rw [hz]; omega) (fun j acc _ => acc = ((cs.take j).map fun c => κ (nxt cs rows q c)).map V.int) (fun _ _ _ _ _ _ _ h => h) rfl (fun _ _ => trivial) ?_ ?_⟩
      · rintro j v H3 H3' acc Qt Qf hj e3 hd3 rfl ⟨rfl, c, hc, rfl⟩ kt kf
        have hc' : cs[j]? = some c := by simpa [txt] using hc
        have hcm := List.mem_of_getElem? hc'
        have e4 := e1.trans (eT.trans e3)
        obtain ⟨ys, dd, g1, g2, g3⟩ := (hRd.mono e4).get W q0 q1 hcm
        refine ⟨rfl, _, rfl, _, rfl, _, rfl, ix_lot g1 g2 ⟨_, rfl, dd, _, rfl, g3, d, .int (κ (nxt cs rows q c)), rfl, ?_, kt _ _ (Same.refl _) ?_⟩⟩
        · refine .inl ⟨_, Sum.inl (nxt cs rows q c), .inr ⟨od, e4 _ _ upd_same⟩, rfl, ?_⟩
          show some _ = valV (dI fd fun q => .int (κ q)) _
          rw [val_dI, if_pos (O.cl q hqm c hcm)]
        · rw [List.take_add_one, hc', List.map_append, List.map_append]
          rfl
      · rintro H3 acc e3 hd3 rfl
        rw [hz, List.take_length] at hd3
        refine ⟨D, _, rfl, .inl ⟨SqL.of hd3, fun l hl => ⟨by show 2 ≤ sizeLine; decide, fun b hb => ?_⟩⟩⟩
        have e4 := (e1.trans (eT.trans e3)).trans ((same_new (o := .tup (((cs.map fun c => κ (nxt cs rows q c))).map V.int)) hl).trans (same_new (o := .tup [.int (κ q), .ref l]) hb))
        have e5 : Same H1 _ := (eT.trans e3).trans ((same_new (o := .tup (((cs.map fun c => κ (nxt cs rows q c))).map V.int)) hl).trans (same_new (o := .tup [.int (κ q), .ref l]) hb))
        have hk : KeyT (upd (upd H3 l (.tup (((cs.map fun c => κ (nxt cs rows q c))).map V.int))) b (.tup [.int (κ q), .ref l])) (sig cs rows κ q) b := ⟨l, upd_same, (same_new hb) _ _ upd_same⟩
        generalize (upd (upd H3 l (.tup (((cs.map fun c => κ (nxt cs rows q c))).map V.int))) b (.tup [.int (κ q), .ref l])) = H4 at e4 e5 hk
        have k3 : ∀ x ∈ xs, KeyT H4 x.1 x.2.1 := fun x hx => (h3 x hx).mono e5
        have p1 := e5 _ _ h1
        have p2 := e5 _ _ h2
        have hlen : (dKi (fd.take i) κ').length < sizeLine := by rw [show (dKi (fd.take i) κ').length = (fd.take i).length from len_dI _ _, List.length_take, sizeLine_eq]; omega
        refine ⟨_, rfl, pn, xs, rfl, p1, _, rfl, _, rfl, pn, xs, rfl, p1, k3, xs, sig cs rows κ q, b, _, p1, rfl, hk, rfl, (by rw [sizeLine_eq]; omega), k3, fun v hv => ?_, fun hv => ?_⟩
        · obtain ⟨pu, pv'⟩ := put_upd (κ := κ') (v := v) O.nd hq
          refine ⟨_, rfl, _, rfl, pf, _, rfl, DPut.k (k := Sum.inl q) p2 hlen, ?_⟩
          rw [pu]
          refine ⟨same_upd e4 pfd, _, xs, _, _, _, _, rfl, ?_, upd_same, ?_, h4, by omega, ?_⟩
          · rw [upd_ne nnf]; exact p1
          · exact fun x hx => keyT_upd (k3 x hx) p2 (fun _ => nofun)
          · intro p hp
            rw [List.take_add_one, hq] at hp
            rcases List.mem_append.mp hp with z | z
            · simp only [if_neg (pv' p z)]; exact h7 p z
            · have : p = q := by simpa using z
              subst this
              simp only [if_true]; exact hv
        · obtain ⟨pu, pv'⟩ := put_upd (κ := κ') (v := (xs.length : Nat)) O.nd hq
          refine ⟨_, rfl, _, rfl, pf, _, rfl, DPut.k (k := Sum.inl q) (by rw [upd_ne (Ne.symm nnf)]; exact p2) hlen, ?_⟩
          rw [pu]
          refine ⟨same_upd (same_upd e4 pnd) pfd, _, xs ++ [(sig cs rows κ q, b, ((xs.length : Nat) : Int))], _, _, _, _, rfl, ?_, upd_same, ?_, ?_, (by simp; omega), ?_⟩
          · rw [upd_ne nnf, upd_same]
            rfl
          · intro x hx
            have p2' : (L2.upd H4 pn (PkO P w pn (xs ++ [(sig cs rows κ q, b, ((xs.length : Nat) : Int))]))) pf = some (.dK (dKi (fd.take i) κ')) := by rw [upd_ne (Ne.symm nnf)]; exact p2
            rcases List.mem_append.mp hx with z | z
            · exact keyT_upd (keyT_upd (k3 x z) p1 (fun _ => nofun)) p2' (fun _ => nofun)
            · have : x = (sig cs rows κ q, b, ((xs.length : Nat) : Int)) := by simpa using z
              subst this
              exact keyT_upd (keyT_upd hk p1 (fun _ => nofun)) p2' (fun _ => nofun)
          · intro j x hx
            by_cases hj : j < xs.length
            · rw [List.getElem?_append_left hj] at hx
              exact h4 j x hx
            · have hj' : j = xs.length := by
                have := (List.getElem?_eq_some_iff.mp hx).1
                simp at this; omega
              subst hj'
              rw [List.getElem?_append_right (Nat.le_refl _)] at hx
              simp at hx
              rw [← hx]
          · intro p hp
            rw [List.take_add_one, hq] at hp
            rcases List.mem_append.mp hp with z | z
            · simp only [if_neg (pv' p z)]; exact lookP_app (h7 p z)
            · have : p = q := by simpa using z
              subst this
              simp only [if_true]; exact lookP_new hv
    · rintro σ H1 ⟨e1, κ', xs, b5, b6, b7, b8, rfl, h1, h2, h3, h4, h6, h7⟩
      rw [show (dKi fd κ).length = fd.length from len_dI _ _, List.take_length] at h2 h7
      refine ⟨e1 _ _ upd_same, _, rfl, k κ' pf _ ?_ hpfH (lock_same hd e1) ?_⟩
      · intro p hp q hq
        have hp' := h7 p hp
        have hq' := h7 q hq
        constructor
        · intro e
          obtain ⟨j, j1, b, j2⟩ := lookP_some h4 hp'
          obtain ⟨j', j1', b', j2'⟩ := lookP_some h4 hq'
          have ej : j = j' := by omega
          subst ej
          rw [j2] at j2'
          exact congrArg (·.1) (Option.some.inj j2')
        · intro e
          rw [e, hq'] at hp'
          exact (Option.some.inj hp').symm
      · rw [upd_ne (Ne.symm ndf)]; exact h2
end
end SG

set_option maxRecDepth 100000
set_option maxHeartbeats 4000000
namespace SG
open PySem L2 SR TL SS
/-! ### kinds and texts: after r refinements kinds are equal just if no text of at most r signs tells the states apart -/
def Eqv (cs : List Nat) (rows : List (List Int)) (ends : List Int) (r : Nat) (p q : Int) : Prop := ∀ x : List Nat, (∀ c ∈ x, c ∈ cs) → x.length ≤ r → (run cs rows p x ∈ ends ↔ run cs rows q x ∈ ends)
section
variable {cs : List Nat} {rows : List (List Int)} {ends fd : List Int}
theorem Eqv.mono {r r' : Nat} {p q : Int} (h : Eqv cs rows ends r p q) (le : r' ≤ r) : Eqv cs rows ends r' p q := fun x hx hl => h x hx (Nat.le_trans hl le)
theorem eqv_zero {p q : Int} : Eqv cs rows ends 0 p q ↔ (p ∈ ends ↔ q ∈ ends) := by
  constructor
  · intro h
    exact h [] (fun _ h => nomatch h) (Nat.le_refl _)
  · intro h x hx hl
    have : x = [] := List.length_eq_zero_iff.mp (Nat.le_zero.mp hl)
    subst this
    exact h
theorem eqv_succ {r : Nat} {p q : Int} : Eqv cs rows ends (r + 1) p q ↔ Eqv cs rows ends r p q ∧ ∀ c ∈ cs, Eqv cs rows ends r (nxt cs rows p c) (nxt cs rows q c) := by
  constructor
  · intro h
    refine ⟨h.mono (Nat.le_succ r), fun c hc x hx hl => ?_⟩
    have := h (c :: x) (fun d hd => by
      rcases List.mem_cons.mp hd with z | z
      · rw [z]; exact hc
      · exact hx d z) (by simpa using hl)
    exact this
  · rintro ⟨h1, h2⟩ x hx hl
    cases x with
    | nil => exact h1 [] hx (Nat.zero_le _)
    | cons c x => exact h2 c (hx c List.mem_cons_self) x (fun d hd => hx d (List.mem_cons_of_mem _ hd)) (by simpa using hl)
/-- the kinds κ are told by texts of at most r signs -/
def Kn (cs : List Nat) (rows : List (List Int)) (ends fd : List Int) (r : Nat) (κ : Int → Int) : Prop := ∀ p ∈ fd, ∀ q ∈ fd, κ p = κ q ↔ Eqv cs rows ends r p q
theorem Refn.kn {κ κ' : Int → Int} {r : Nat} (R : Refn cs rows fd κ κ') (O : Order cs rows fd) (k : Kn cs rows ends fd r κ) : Kn cs rows ends fd (r + 1) κ' := fun p hp q hq => by
  rw [R p hp q hq, eqv_succ, ← k p hp q hq]
  unfold sig
  rw [Prod.mk.injEq]
  refine and_congr Iff.rfl ?_
  rw [List.map_inj_left]
  constructor
  · intro h c hc
    exact (k _ (O.cl p hp c hc) _ (O.cl q hq c hc)).mp (h c hc)
  · intro h c hc
    exact (k _ (O.cl p hp c hc) _ (O.cl q hq c hc)).mpr (h c hc)
end
end SG

set_option maxRecDepth 100000
set_option maxHeartbeats 4000000
namespace SG
open PySem L2 SR TL SS
/-- as many kinds as before: none was split -/
theorem unsplit {fd l0 l : List Int} {κ0 κ : Int → Int} (fine : ∀ p ∈ fd, ∀ q ∈ fd, κ p = κ q → κ0 p = κ0 q) (nd0 : l0.Nodup) (h0 : ∀ v, v ∈ l0 ↔ v ∈ fd.map κ0) (h : ∀ v, v ∈ l ↔ v ∈ fd.map κ) (hl : l.length ≤ l0.length) :
    ∀ p ∈ fd, ∀ q ∈ fd, κ0 p = κ0 q → κ p = κ q := by
  intro p hp q hq e
  refine Classical.byContradiction fun ne => ?_
  have hf : ∀ s ∈ fd, κ0 ((fd.find? fun t => decide (κ t = κ s)).getD 0) = κ0 s := fun s hs => by
    cases ef : fd.find? fun t => decide (κ t = κ s) with
    | none => exact absurd (List.find?_eq_none.mp ef s hs) (by simp)
    | some t =>
      have h1 : κ t = κ s := by simpa using List.find?_some ef
      exact fine t (List.mem_of_find?_eq_some ef) s hs h1
  have hpl : κ p ∈ l := (h _).mpr (List.mem_map.mpr ⟨p, hp, rfl⟩)
  have sub : ∀ x ∈ l0, x ∈ (l.erase (κ p)).map fun v => κ0 ((fd.find? fun t => decide (κ t = v)).getD 0) := fun x hx => by
    obtain ⟨s, hs, rfl⟩ := List.mem_map.mp ((h0 x).mp hx)
    by_cases es : κ s = κ p
    · refine List.mem_map.mpr ⟨κ q, (List.mem_erase_of_ne (fun z => ne z.symm)).mpr ((h _).mpr (List.mem_map.mpr ⟨q, hq, rfl⟩)), ?_⟩
      rw [hf q hq, ← e]
      exact (fine s hs p hp es).symm
    · exact List.mem_map.mpr ⟨κ s, (List.mem_erase_of_ne es).mpr ((h _).mpr (List.mem_map.mpr ⟨s, hs, rfl⟩)), hf s hs⟩
  have := len_subG _ _ nd0 sub
  rw [List.length_map, List.length_erase_of_mem hpl] at this
  have := List.length_pos_of_mem hpl
  omega
def Bis (cs : List Nat) (rows : List (List Int)) (fd : List Int) (κ : Int → Int) : Prop := ∀ p ∈ fd, ∀ q ∈ fd, κ p = κ q → ∀ c ∈ cs, κ (nxt cs rows p c) = κ (nxt cs rows q c)
def Fine (fd : List Int) (κ0 κ : Int → Int) : Prop := ∀ p ∈ fd, ∀ q ∈ fd, κ p = κ q → κ0 p = κ0 q
theorem Refn.fine {cs : List Nat} {rows : List (List Int)} {fd : List Int} {κ κ' : Int → Int} (R : Refn cs rows fd κ κ') : Fine fd κ κ' := fun p hp q hq e => congrArg (·.1) ((R p hp q hq).mp e)
theorem Refn.bis {cs : List Nat} {rows : List (List Int)} {fd l0 l : List Int} {κ κ' : Int → Int} (R : Refn cs rows fd κ κ') (O : Order cs rows fd) (nd0 : l0.Nodup) (h0 : ∀ v, v ∈ l0 ↔ v ∈ fd.map κ) (h : ∀ v, v ∈ l ↔ v ∈ fd.map κ') (hl : l.length ≤ l0.length) : Bis cs rows fd κ' := by
  intro p hp q hq e c hc
  have e1 := congrArg (·.2) ((R p hp q hq).mp e)
  have e2 : κ (nxt cs rows p c) = κ (nxt cs rows q c) := List.map_inj_left.mp e1 c hc
  exact unsplit R.fine nd0 h0 h hl _ (O.cl p hp c hc) _ (O.cl q hq c hc) e2
theorem ints_of_keys : ∀ m : List Key, (∀ k ∈ m, ∃ x : Int, k = Sum.inl x) → ∃ ts : List Int, m = ts.map Sum.inl
  | [], _ => ⟨[], rfl⟩
  | k :: m, h => by
    obtain ⟨x, rfl⟩ := h k List.mem_cons_self
    obtain ⟨ts, rfl⟩ := ints_of_keys m fun u hu => h u (List.mem_cons_of_mem _ hu)
    exact ⟨x :: ts, rfl⟩
section
variable {P : Program} {w : World} {K : PySem.W.Frag} {mg : Str → Option Value} {base : Heap}
/-- len(set(list(d.values()))) -/
def tCnt (i : Nat) : TE := fun σ H Q => ∃ (d : Addr) (kvs : List (Key × V)) (ns : List Int), σ[i]? = some (some (.ref d)) ∧ H d = some (.dK kvs) ∧ kvs.map (·.2) = ns.map V.int ∧ ns.length < 1000 ∧ ∀ (l : List Int) (H' : Hp), l.Nodup → (∀ v, v ∈ l ↔ v ∈ ns) → Same H H' → Q (.int (l.length : Nat)) H'
theorem pe_cnt {X : Cx} {x : Str} {i : Nat} {px p1 p2 p3 q1 q2 q3 ap cp : Pos} (hc : X.calm = true) (B : Bl X.mg) (he : PE X (.Name x px) (tVar i)) (g1 : Gl X "len") (g2 : Gl X "set") (g3 : Gl X "list")
    (hbase : attributeBase (.Name x px) "values" X.env (eval (.Name x px) X.env) = eval (.Name x px) X.env := by rfl) (hline : (ap.endLine == cp.line) = true := by rfl) :
    PE X (.Call (.Name "len" p1) [.Call (.Name "set" p2) [.Call (.Name "list" p3) [.Call (.Attribute (.Name x px) "values" ap) [] [] cp] [] q3] [] q2] [] q1) (tCnt i) := by
  refine ⟨fun pins s σ H Q I h => (pe_callB cr_lenK g1 B.len boot_len (pa_cons (pe_callTy (cr_setK hc) g2 B.set (by decide +kernel) (pa_cons (pe_callTy (call_list_view hc) g3 B.list (by decide +kernel) (pa_cons (pe_view he hbase hline) pa_nil)) pa_nil)) pa_nil)).run pins s σ H Q I ?_⟩
  obtain ⟨d, kvs, ns, hi, hd, hv, hn, k⟩ := h
  refine ⟨_, hi, d, kvs, rfl, hd, fun r hr => ⟨r, d, kvs, rfl, upd_same, by rw [upd_ne (ne_of_none hd hr)]; exact hd, fun l hl => ?_⟩⟩
  refine ⟨ns.map Sum.inl, .inl ⟨l, rfl, .inl (SqL.of ?_)⟩, by rw [List.length_map]; exact hn, fun p kl hp nd hm hll => ⟨p, kl, rfl, upd_same, ?_⟩⟩
  · rw [upd_same, hv, List.map_map]; rfl
  · obtain ⟨ts, rfl⟩ := ints_of_keys kl fun x hx => by
      obtain ⟨i, _, e⟩ := List.mem_map.mp ((hm x).mp hx)
      exact ⟨i, e.symm⟩
    rw [List.length_map]
    refine k ts _ ?_ ?_ (((same_new hr).trans (same_new hl)).trans (same_new hp))
    · exact (List.pairwise_map.mp nd).imp fun h e => h (congrArg Sum.inl e)
    · intro v
      have h1 := hm (Sum.inl v)
      constructor
      · intro hv'
        obtain ⟨i, hi, e⟩ := List.mem_map.mp (h1.mp (List.mem_map.mpr ⟨v, hv', rfl⟩))
        rw [← Sum.inl.inj e]; exact hi
      · intro hv'
        obtain ⟨i, hi, e⟩ := List.mem_map.mp (h1.mpr (List.mem_map.mpr ⟨v, hv', rfl⟩))
        rw [← Sum.inl.inj e]; exact hi
/-- at most m classes -/
def Cover (m : Nat) (cs : List Nat) (rows : List (List Int)) (ends fd : List Int) : Prop := ∃ rs : List Int, rs.length ≤ m ∧ (∀ s ∈ rs, s ∈ fd) ∧ ∀ p ∈ fd, ∃ s ∈ rs, ∀ n, Eqv cs rows ends n p s
theorem Cover.few {m : Nat} {cs : List Nat} {rows : List (List Int)} {ends fd l : List Int} {κ : Int → Int} {r : Nat} (c : Cover m cs rows ends fd) (k : Kn cs rows ends fd r κ) (nd : l.Nodup) (h : ∀ v, v ∈ l ↔ v ∈ fd.map κ) : l.length ≤ m := by
  obtain ⟨rs, h1, h2, h3⟩ := c
  have := len_subG l (rs.map κ) nd fun v hv => by
    obtain ⟨p, hp, rfl⟩ := List.mem_map.mp ((h v).mp hv)
    obtain ⟨s, hs, e⟩ := h3 p hp
    exact List.mem_map.mpr ⟨s, hs, ((k p hp s (h2 s hs)).mpr (e r)).symm⟩
  rw [List.length_map] at this
  omega
abbrev sLek : Stmt := top 48
abbrev nLek : List Str := ["signs", "rows", "kinds", "count"]
theorem scLek : FnScope nLek ["signs", "rows", "kinds"] (defScope sLek) := ⟨rfl, rfl, rfl, by decide +kernel, rfl, by decide +kernel, by decide +kernel⟩
def spLek : Sp := fun vs H Q _ => ∃ (cs : List Nat) (a d : Addr) (rows : List (List Int)) (ends fd : List Int) (κ : Int → Int) (m : Nat), vs = [.str (txt cs), .ref a, .ref d] ∧ m ≤ 6 ∧ Abc cs ∧ WfM cs rows ends ∧ RowsAt H cs a rows ∧ Order cs rows fd ∧ H d = some (.dK (dKi fd κ)) ∧ Kn cs rows ends fd 0 κ ∧ Cover m cs rows ends fd ∧
  ∀ (κ' : Int → Int) (p : Addr) (H' : Hp) (r : Nat), Kn cs rows ends fd r κ' → r + 1 ≤ m → Bis cs rows fd κ' → Same H H' → H' p = some (.dK (dKi fd κ')) → Q (.ref p) H'
theorem ok_lek {f : Addr} {fd : FuncData} (F : Fun K "least_kinds" "least_kinds" sLek f fd) (B : Bl mg) (C : Cn mg) (Rf : Cal P w K mg base "refined" 1 ["signs", "rows", "kinds"] spRef) : FnOk P w K mg base CX0 2 f fd ["signs", "rows", "kinds"] spLek := by
  obtain ⟨tm, hmost⟩ := C.most
  refine F.ok scLek (fun vs H Q E h => ?_) (fun cdv A outer s H vs Q E hr h => ?_)
  · obtain ⟨cs, a, d, rows, ends, fd, κ, m, rfl, _⟩ := h
    rfl
  · obtain ⟨cs, a, d, rows, ends, fd, κ, m, rfl, hm6, ha, W, hR, O, hd, k0, cov, k⟩ := h
    refine ⟨_, pss_cons (ps_set (i := 3) scLek.nd rfl (.inl rfl) pe_int)
      (pss_cons (ps_while PassesOwn.never (pt_cmpR op_lt (pv 3) (pe_cnt rfl B (pv 2) (by rfl) (by rfl) (by rfl)) (nomark _))
        (pss_cons (ps_set (i := 3) scLek.nd rfl (.inl rfl) (pe_cnt rfl B (pv 2) (by rfl) (by rfl) (by rfl)))
        (pss_cons (ps_if (pt_cmpR op_gt (pv 3) (pe_glob (v := .int 6) rfl hmost ⟨tm, rfl⟩) (nomark _)) (pss_one ps_never) pss_nil)
        (pss_one (ps_set (i := 2) scLek.nd rfl (.inl rfl) (pe_cal Rf hr (pa_cons (pv 0) (pa_cons (pv 1) (pa_cons (pv 2) pa_nil)))))))))
      (pss_one (ps_ret (pv 2)))), ?_⟩
    have hfl : fd.length ≤ rows.length := nodup_len _ _ O.nd O.rg
    have h5 := W.five
    have vals : ∀ κ : Int → Int, (dKi fd κ).map (·.2) = (fd.map κ).map V.int := fun κ => by
      unfold dKi dI
      rw [List.map_map, List.map_map]; rfl
    refine while_by (fun σ H' => Same H H' ∧ ∃ (κ' : Int → Int) (dk : Addr) (n t : Nat), σ = [some (.str (txt cs)), some (.ref a), some (.ref dk), some (.int (n : Nat))] ∧ H' dk = some (.dK (dKi fd κ')) ∧ Kn cs rows ends fd t κ' ∧ n ≤ 6 ∧ t ≤ n ∧
      (n = 0 ∨ ∃ (κp : Int → Int) (l0 : List Int) (t0 : Nat), t = t0 + 1 ∧ Kn cs rows ends fd t0 κp ∧ Refn cs rows fd κp κ' ∧ l0.Nodup ∧ (∀ v, v ∈ l0 ↔ v ∈ fd.map κp) ∧ l0.length = n)) (muAt 7 3) ?_ ?_ ?_
    · exact ⟨Same.refl _, κ, d, 0, 0, rfl, hd, k0, by decide, by decide, .inl rfl⟩
    · rintro σ H1 ⟨e1, κ', dk, n, t, rfl, hk, kn, hn, htn, inv⟩
      refine ⟨_, rfl, dk, _, fd.map κ', rfl, hk, vals κ', (by rw [List.length_map]; omega), fun l H2 nd hl e2 => ⟨_, _, rfl, rfl, _, rfl, ?_⟩⟩
      have hl6 : l.length ≤ m := cov.few kn nd hl
      have e12 := e1.trans e2
      refine ite2 (fun hlt => ?_) (fun hge => ?_)
      · have hlt : n < l.length := by have := of_decide_eq_true hlt; omega
        refine ⟨dk, _, fd.map κ', rfl, e2 _ _ hk, vals κ', (by rw [List.length_map]; omega), fun l' H3 nd' hl' e3 => ?_⟩
        have hll' : l'.length = l.length := ((List.perm_ext_iff_of_nodup nd' nd).mpr fun v => (hl' v).trans (hl v).symm).length_eq
        refine ⟨_, rfl, _, _, rfl, rfl, _, rfl, ite2 (fun hgt => ?_) (fun _ => ?_)⟩
        · have := of_decide_eq_true hgt
          omega
        · refine ⟨_, rfl, _, rfl, _, rfl, cs, a, dk, rows, ends, fd, κ', rfl, ha, W, hR.mono (e12.trans e3), O, e3 _ _ (e2 _ _ hk), fun κ2 p H4 R hp e4 h4 => ⟨⟨(e12.trans e3).trans e4, κ2, p, l'.length, t + 1, rfl, h4, R.kn O kn, by omega, by omega, .inr ⟨κ', l', t, rfl, kn, R, nd', hl', rfl⟩⟩, ?_⟩⟩
          show 7 - ((l'.length : Nat) : Int).toNat < 7 - ((n : Nat) : Int).toNat
          omega
      · have hge : l.length ≤ n := by
          have h : ¬ ((n : Int) < (l.length : Nat)) := fun z => hge (decide_eq_true z)
          omega
        rcases inv with rfl | ⟨κp, l0, t0, rfl, kp, R, nd0, h0, rfl⟩
        · exfalso
          obtain ⟨t, e⟩ := O.hd
          have : κ' 0 ∈ l := (hl _).mpr (List.mem_map.mpr ⟨0, by rw [e]; exact List.mem_cons_self, rfl⟩)
          have := List.length_pos_of_mem this
          omega
        · have kn0 : Kn cs rows ends fd t0 κ' := fun p hp q hq => by
            rw [← kp p hp q hq]
            exact ⟨R.fine p hp q hq, unsplit R.fine nd0 h0 hl hge p hp q hq⟩
          exact ⟨_, rfl, k κ' dk H2 t0 kn0 (by have := cov.few kp nd0 h0; omega) (R.bis O nd0 h0 hl hge) e12 (e2 _ _ hk)⟩
    · intro σ H Q Q' m h
      obtain ⟨v, h1, d, kvs, ns, h2, h3, h4, h5, h6⟩ := h
      refine ⟨v, h1, d, kvs, ns, h2, h3, h4, h5, fun l H' a1 a2 a3 => ?_⟩
      obtain ⟨i, j, b1, b2, b, b3, q⟩ := h6 l H' a1 a2 a3
      exact ⟨i, j, b1, b2, b, b3, m _ _ q⟩
end
end SG

set_option maxRecDepth 100000
set_option maxHeartbeats 4000000
namespace SG
open PySem L2 SR TL SS
section
variable {P : Program} {w : World} {K : PySem.W.Frag} {mg : Str → Option Value} {base : Heap}
/-! ### live_states -/
abbrev sLst : Stmt := top 50
abbrev nLst : List Str := ["table", "member_list", "found", "turn", "state", "row", "goal"]
theorem scLst : FnScope nLst ["table", "member_list"] (defScope sLst) := ⟨rfl, rfl, rfl, by decide +kernel, rfl, by decide +kernel, by decide +kernel⟩
/-- the table of a machine: a tuple of rows, a tuple of member states -/
def TabAt (H : Hp) (cs : List Nat) (t m : Addr) (rows : List (List Int)) (ends : List Int) : Prop := (∃ qs : List Addr, H t = some (.tup (qs.map .ref)) ∧ Paired (RowAt H cs) qs rows) ∧ H m = some (.tup (ends.map .int))
theorem TabAt.mono {H H' : Hp} {cs : List Nat} {t m : Addr} {rows : List (List Int)} {ends : List Int} (e : Same H H') (h : TabAt H cs t m rows ends) : TabAt H' cs t m rows ends := by
  obtain ⟨⟨qs, h1, h2⟩, h3⟩ := h
  exact ⟨⟨qs, e _ _ h1, Paired.mono h2 fun _ _ h => e _ _ h⟩, e _ _ h3⟩
def spLst : Sp := fun vs H Q _ => ∃ (t m : Addr) (cs : List Nat) (rows : List (List Int)) (ends : List Int), vs = [.ref t, .ref m] ∧ Abc cs ∧ WfM cs rows ends ∧ TabAt H cs t m rows ends ∧
  ∀ (ns : List Int) (p : Addr) (H' : Hp), (∀ q, 0 ≤ q → q < (rows.length : Int) → (q ∈ ns ↔ Leads cs rows ends q)) → (∀ q ∈ ns, 0 ≤ q ∧ q < (rows.length : Int)) → ns.length ≤ 40 → ns.Pairwise (· ≤ ·) → H p = none → Same H H' → H' p = some (.tup (ns.map .int)) → Q (.ref p) H'
theorem ok_lst {f : Addr} {fd : FuncData} (F : Fun K "live_states" "live_states" sLst f fd) (B : Bl mg) : FnOk P w K mg base CX0 1 f fd ["table", "member_list"] spLst := by
  refine F.ok scLst (fun vs H Q E h => ?_) (fun cdv A outer s H vs Q E hr h => ?_)
  · obtain ⟨t, m, cs, rows, ends, rfl, _⟩ := h
    rfl
  · obtain ⟨t, m, cs, rows, ends, rfl, ha, W, ⟨⟨qs, h1, h3⟩, h4⟩, k⟩ := h
    have nd : cs.Nodup := ris_nodup ha.ris
    refine ⟨_, pss_cons (ps_set (i := 2) scLst.nd rfl (.inr rfl) (pe_callTy call_list_of (by rfl) B.list (by decide +kernel) (pa_cons (pv 1) pa_nil)))
      (pss_cons (ps_for PassesOwn.never rfl (pi_range1 (by rfl) B.range (pa_cons (pe_callB call_len_seq (by rfl) B.len boot_len (pa_cons (pv 0) pa_nil)) pa_nil)) (pg_name (i := 3) scLst.nd rfl (.inl rfl))
        (pss_one (ps_for PassesOwn.never rfl (pi_enumT (by rfl) B.enumerate (pa_cons (pv 0) pa_nil)) (pg_tup rfl (pgs_cons (pg_name (i := 4) scLst.nd rfl (.inl rfl)) (pgs_cons (pg_name (i := 5) scLst.nd rfl (.inl rfl)) pgs_nil)))
          (pss_one (ps_if (PW.pt (pw_and (pt_cmpR op_notIn_seq (pv 4) (pv 2) (by rfl)) (pw_and1 (pt_val (pe_callB (cr_any rfl) (by rfl) B.any (by decide +kernel) (pa_cons (pe_lock (pe_lc (own := [("goal", 6)]) (g := gName 6) (tt := tYes) (te := tOp (rIn K false) (tVar 6) (tVar 2)) rfl scLst.nd (pi_values (pv 5)) (blkOk_by (by kernel_rfl))
              (fun _ _ _ _ _ => pg_name (i := 6) scLst.nd rfl (.inl rfl)) (fun _ _ _ _ _ => pts_nil) (fun _ _ _ _ _ => pe_cmpR op_in_seq (pv 6) (pv 2) (by rfl)))) pa_nil))))))
            (pss_one (ps_expr (pe_bm PySem.F.plainAttrs_list PySem.F.slot_list_append PySem.F.type_list_append mt_append (pv 2) (pa_cons (pv 4) pa_nil)))) pss_nil)))))
      (pss_one (ps_ret (pe_callTy call_tuple_of (by rfl) B.tuple (by decide +kernel) (pa_cons (pe_callB cr_sorted (by rfl) B.sorted (by decide +kernel) (pa_cons (pv 2) pa_nil)) pa_nil))))), ?_⟩
    have hql : qs.length = rows.length := Paired.length h3
    have h5 := W.five
    refine ⟨_, rfl, m, _, rfl, .inr (SqT.of h4), fun pf hpf => ?_⟩
    have e0 : Same H (upd H pf (.lst (ends.map .int))) := same_new hpf
    have hcl : cs.length ≤ 1000 := by have := ha.four; omega
    refine ⟨_, rfl, t, _, rfl, .inr (SqT.of (e0 _ _ h1)), _, rfl, (by rw [List.length_map]; omega), (by rw [List.length_map]; omega), for_it (walk_range (lo := 0)) (fun i σ H' => Same H H' ∧ ∃ fd a3 a4 a5 a6, σ = [some (.ref t), some (.ref m), some (.ref pf), a3, a4, a5, a6] ∧ H' pf = some (.lst (fd.map .int)) ∧ Outer rows (Leads cs rows ends) ends i fd) ?_ (fun _ _ _ _ _ => trivial) ?_ ?_⟩
    · exact ⟨e0, ends, none, none, none, none, rfl, upd_same, ⟨W.nd, W.fin, fun q hq => ⟨[], (fun _ h => nomatch h), hq⟩, fun _ h => h⟩, .inr (Nat.zero_le _)⟩
    · rintro i v σ H1 H1' hi ⟨e1, fd, a3, a4, a5, a6, rfl, hf, O⟩ ⟨rfl, rfl⟩
      refine ⟨_, rfl, t, _, rfl, SqT.of (e1 _ _ h1), for_it (walk_enumE (xs := qs.map .ref)) (fun j σ H' => Same H H' ∧ ∃ fd' a3 a4 a5 a6, σ = [some (.ref t), some (.ref m), some (.ref pf), a3, a4, a5, a6] ∧ H' pf = some (.lst (fd'.map .int)) ∧ Inner rows (Leads cs rows ends) ends fd j fd') ?_ (fun j σ H' _ p => SqT.of (p.1 _ _ h1)) ?_ ?_⟩
      · exact ⟨e1, fd, _, _, _, _, rfl, hf, Inner.start O.snd⟩
      · rintro j v σ H2 H2' hj ⟨e2, fd', b2, b3, b4, b5, rfl, hf2, IN⟩ ⟨T, x, y, rfl, hT, rfl, ex, ey⟩
        rw [List.length_map] at hj
        cases ex
        dsimp only at ey
        rw [List.getElem?_map] at ey
        obtain ⟨q, hq, rfl⟩ := Option.map_eq_some_iff.mp ey
        have hjr : j < rows.length := by omega
        obtain ⟨q', hq', hrow⟩ := paired_get j h3 (List.getElem?_eq_getElem hjr)
        rw [hq] at hq'
        cases hq'
        have hrj := List.getElem?_eq_getElem hjr
        generalize rows[j] = row at hrow hrj
        have hl := (W.row row (List.mem_of_getElem? hrj)).1
        have e2T : Same H2 (upd H2 T (.tup [.int (j : Nat), .ref q])) := same_new hT
        have hf3 := e2T _ _ hf2
        have hd3 := e2T _ _ (e2 _ _ hrow)
        have e3 := e2.trans e2T
        refine ⟨T, _, rfl, SqT.of upd_same, rfl, _, _, rfl, _, _, rfl, rfl, ?_⟩
        refine ⟨_, rfl, _, rfl, pf, _, rfl, .inl (SqL.of hf3), rfl, flat_ints _, _, rfl, ?_⟩
        show (if (!inV (.int (j : Nat)) (fd'.map .int)) = true then _ else _)
        rw [inV_ints]
        by_cases hm : ((j : Nat) : Int) ∈ fd'
        · rw [decide_eq_true hm]
          refine ⟨e3, fd', _, _, _, _, rfl, hf3, IN.skip hrj (.inl hm)⟩
        · rw [decide_eq_false hm]
          refine vals_in (K := K) hd3 hl hcl hf3 (fun _ => rfl) (fun _ => rfl) (fun _ => rfl) rfl fun D H4 e4 hD => ?_
          refine ⟨D, _, rfl, SqL.of hD, _, rfl, ?_⟩
          by_cases hh : Hit fd' row
          · rw [(any_dec fd' row).mpr hh]
            refine ⟨_, rfl, .inl ⟨rfl, _, SqL.of (e4 _ _ hf3)⟩, _, rfl, pf, _, _, rfl, rfl, e4 _ _ hf3, ?_, ?_⟩
            · have := IN.snd.len
              rw [List.length_map, sizeLine_eq]
              omega
            · refine ⟨?_, fd' ++ [(j : Int)], _, _, _, _, rfl, ?_, IN.add (leads_back W nd) hrj hm hh⟩
              · exact same_upd (e3.trans e4) hpf
              · rw [upd_same, List.map_append]; rfl
          · have : (row.map fun g => decide (g ∈ fd')).any id = false := by
              cases hb : (row.map fun g => decide (g ∈ fd')).any id with
              | false => rfl
              | true => exact absurd ((any_dec fd' row).mp hb) hh
            rw [this]
            exact ⟨e3.trans e4, fd', _, _, _, _, rfl, e4 _ _ hf3, IN.skip hrj (.inr hh)⟩
      · rintro σ H2 ⟨e2, fd', b2, b3, b4, b5, rfl, hf2, IN⟩
        rw [List.length_map, hql] at IN
        exact ⟨e2, fd', _, _, _, _, rfl, hf2, IN.done O⟩
    · rintro σ H1 ⟨e1, fd, a2, a3, a4, a5, rfl, hf, O⟩
      have O' : Outer rows (Leads cs rows ends) ends rows.length fd := by
        rw [List.length_map, Int.toNat_natCast, hql] at O
        exact O
      have hl5 : fd.length ≤ 40 := Nat.le_trans O'.snd.len h5
      refine ⟨_, rfl, pf, fd, rfl, SqL.of hf, by omega, fun ns p pm rs hp => ⟨p, _, rfl, .inl ⟨SqL.of upd_same, fun l hl => ?_⟩⟩⟩
      refine k ns l _ (fun q q0 q1 => ?_) (fun q hq => O'.snd.bd q (pm.mem_iff.mp hq)) (by rw [pm.length_eq]; exact hl5) rs (((e1.trans (same_new hp)).free hl)) ((e1.trans (same_new hp)).trans (same_new hl)) upd_same
      exact pm.mem_iff.trans (O'.leads W q0 q1)
end
end SG

set_option maxRecDepth 100000
set_option maxHeartbeats 4000000
namespace SG
open PySem L2 SR TL SS
section
variable {cs : List Nat} {rows : List (List Int)} {ends fd : List Int}
/-- a class for each state: the ones that no text tells apart -/
theorem Kn.all {κ : Int → Int} {r : Nat} (k : Kn cs rows ends fd r κ) (O : Order cs rows fd) (b : Bis cs rows fd κ) : ∀ p ∈ fd, ∀ q ∈ fd, κ p = κ q → ∀ n, Eqv cs rows ends n p q := by
  intro p hp q hq e n
  have key : ∀ (x : List Nat) (p q : Int), p ∈ fd → q ∈ fd → κ p = κ q → (∀ c ∈ x, c ∈ cs) → (run cs rows p x ∈ ends ↔ run cs rows q x ∈ ends) := by
    intro x
    induction x with
    | nil =>
      intro p q hp hq e _
      exact (k p hp q hq).mp e [] (fun _ h => nomatch h) (Nat.zero_le _)
    | cons c x ih =>
      intro p q hp hq e hx
      have hc := hx c List.mem_cons_self
      exact ih _ _ (O.cl p hp c hc) (O.cl q hq c hc) (b p hp q hq e c hc) fun d hd => hx d (List.mem_cons_of_mem _ hd)
  exact fun x hx _ => key x p q hp hq e hx
end
end SG

set_option maxRecDepth 100000
set_option maxHeartbeats 4000000
namespace SG
open PySem L2 SR TL SS
/-! ### the least machine, told plainly -/
def rep (fd : List Int) (κ : Int → Int) (k : Int) : Int := (fd.find? fun s => decide (κ s = k)).getD 0
structure Fst (fd : List Int) (κ : Int → Int) (i : Nat) (ks : List Int) : Prop where
  nd : ks.Nodup
  mem : ∀ k, k ∈ ks ↔ ∃ s ∈ fd.take i, κ s = k
  hd : i ≠ 0 → ks[0]? = some (κ 0)
  eq : ks = addNew [] ((fd.take i).map κ)
theorem rep_first {fd : List Int} {κ : Int → Int} {i : Nat} {s : Int} (hs : fd[i]? = some s) (h : ∀ t ∈ fd.take i, κ t ≠ κ s) : rep fd κ (κ s) = s := by
  unfold rep
  have hi := (List.getElem?_eq_some_iff.mp hs)
  have e : fd = fd.take i ++ s :: fd.drop (i + 1) := by
    rw [← hi.2, ← List.drop_eq_getElem_cons hi.1, List.take_append_drop]
  rw [e, List.find?_append]
  have : (fd.take i).find? (fun t => decide (κ t = κ s)) = none := List.find?_eq_none.mpr fun t ht => by simpa using h t ht
  rw [this]
  simp
theorem rep_mem {fd : List Int} {κ : Int → Int} {s : Int} (hs : s ∈ fd) : rep fd κ (κ s) ∈ fd ∧ κ (rep fd κ (κ s)) = κ s := by
  unfold rep
  cases ef : fd.find? fun t => decide (κ t = κ s) with
  | none => exact absurd (List.find?_eq_none.mp ef s hs) (by simp)
  | some t => exact ⟨List.mem_of_find?_eq_some ef, by simpa using List.find?_some ef⟩
theorem Fst.start {fd : List Int} {κ : Int → Int} : Fst fd κ 0 [] := ⟨List.nodup_nil, fun k => by simp, fun h => absurd rfl h, rfl⟩
theorem Fst.skip {fd : List Int} {κ : Int → Int} {i : Nat} {ks : List Int} {s : Int} (f : Fst fd κ i ks) (hs : fd[i]? = some s) (h : κ s ∈ ks) : Fst fd κ (i + 1) ks := by
  refine ⟨f.nd, fun k => ?_, fun _ => ?_, ?_⟩
  · rw [List.take_add_one, hs, f.mem]
    constructor
    · rintro ⟨t, ht, e⟩
      exact ⟨t, List.mem_append_left _ ht, e⟩
    · rintro ⟨t, ht, e⟩
      rcases List.mem_append.mp ht with z | z
      · exact ⟨t, z, e⟩
      · have : t = s := by simpa using z
        subst this
        rw [← e]
        exact (f.mem _).mp h
  · refine f.hd fun z => ?_
    subst z
    obtain ⟨t, ht, _⟩ := (f.mem _).mp h
    simp at ht
  · rw [List.take_add_one, hs, List.map_append]
    show ks = addNew [] (_ ++ [κ s])
    rw [addNew_snoc, ← f.eq, if_pos h]
theorem Fst.add {fd : List Int} {κ : Int → Int} {i : Nat} {ks : List Int} {s : Int} (f : Fst fd κ i ks) (h0 : fd[0]? = some 0) (hs : fd[i]? = some s) (h : κ s ∉ ks) : Fst fd κ (i + 1) (ks ++ [κ s]) ∧ rep fd κ (κ s) = s := by
  refine ⟨⟨?_, fun k => ?_, fun _ => ?_, ?_⟩, ?_⟩
  · rw [List.nodup_append]
    refine ⟨f.nd, by simp, fun a ha b hb e => ?_⟩
    rw [List.mem_singleton] at hb
    rw [e, hb] at ha
    exact h ha
  · rw [List.take_add_one, hs, List.mem_append, f.mem]
    constructor
    · rintro (⟨t, ht, e⟩ | z)
      · exact ⟨t, List.mem_append_left _ ht, e⟩
      · exact ⟨s, List.mem_append_right _ (by simp), (List.mem_singleton.mp z).symm⟩
    · rintro ⟨t, ht, e⟩
      rcases List.mem_append.mp ht with z | z
      · exact .inl ⟨t, z, e⟩
      · have : t = s := by simpa using z
        subst this
        exact .inr (by simp [e])
  · by_cases hi : i = 0
    · subst hi
      have e : ks = [] := by
        cases ks with
        | nil => rfl
        | cons k ks =>
          obtain ⟨t, ht, _⟩ := (f.mem k).mp List.mem_cons_self
          simp at ht
      subst e
      rw [h0] at hs
      cases hs
      rfl
    · have := f.hd hi
      rw [List.getElem?_append_left (List.getElem?_eq_some_iff.mp this).1]
      exact this
  · rw [List.take_add_one, hs, List.map_append]
    show ks ++ _ = addNew [] (_ ++ [κ s])
    rw [addNew_snoc, ← f.eq, if_neg h]
  · exact rep_first hs fun t ht e => h ((f.mem _).mpr ⟨t, ht, e⟩)
/-- the number of a kind -/
def num (ks : List Int) (k : Int) : Int := ((ks.idxOf k : Nat) : Int)
def rows' (cs : List Nat) (rows : List (List Int)) (fd : List Int) (κ : Int → Int) (ks : List Int) : List (List Int) := ks.map fun k => cs.map fun c => num ks (κ (nxt cs rows (rep fd κ k) c))
def ends' (ends fd : List Int) (κ : Int → Int) (ks : List Int) : List Int := (ks.filter fun k => decide (rep fd κ k ∈ ends)).map (num ks)
/-- the same texts -/
def Alike (cs : List Nat) (rows : List (List Int)) (ends : List Int) (rw' : List (List Int)) (en' : List Int) : Prop :=
  (∀ x : List Nat, (∀ c ∈ x, c ∈ cs) → (run cs rw' 0 x ∈ en' ↔ run cs rows 0 x ∈ ends)) ∧ ∀ q, 0 ≤ q → q < (rw'.length : Int) → ∃ x : List Nat, (∀ c ∈ x, c ∈ cs) ∧ run cs rw' 0 x = q
/-- the next kinds of a kind -/
def dltK (cs : List Nat) (rows : List (List Int)) (fd : List Int) (κ : Int → Int) (k : Int) : List Int := cs.map fun c => κ (nxt cs rows (rep fd κ k) c)
/-- how the least machine was made -/
def Least (m : Nat) (cs : List Nat) (rows : List (List Int)) (ends : List Int) (rw' : List (List Int)) (en' : List Int) : Prop := ∃ (fd : List Int) (κ : Int → Int) (r : Nat) (ks : List Int), Order cs rows fd ∧ Kn cs rows ends fd r κ ∧ r + 1 ≤ m ∧ Bis cs rows fd κ ∧ Fst fd κ fd.length ks ∧
  (∃ n, BE (dltK cs rows fd κ) (κ 0) n ks ∧ ks.length ≤ n) ∧ rw' = rows' cs rows fd κ ks ∧ en' = ends' ends fd κ ks
section
variable {cs : List Nat} {rows : List (List Int)} {ends fd : List Int} {κ : Int → Int} {ks : List Int}
theorem least_be {n : Nat} (be : BE (dlt cs rows) 0 n fd) (hn : fd.length ≤ n) (bi : Bis cs rows fd κ) (f : Fst fd κ fd.length ks) : ∃ m, BE (dltK cs rows fd κ) (κ 0) m ks ∧ ks.length ≤ m := by
  have e := f.eq
  rw [List.take_length] at e
  rw [e]
  refine be.quotDone (fun s hs => ?_) hn
  unfold dlt dltK
  rw [List.map_map]
  refine List.map_congr_left fun c hc => ?_
  obtain ⟨r1, r2⟩ := rep_mem (κ := κ) hs
  exact bi s hs _ r1 r2.symm c hc
theorem num_get {j : Nat} {k : Int} (nd : ks.Nodup) (h : ks[j]? = some k) : num ks k = (j : Int) := by
  obtain ⟨hj, e⟩ := List.getElem?_eq_some_iff.mp h
  unfold num
  rw [← e, List.Nodup.idxOf_getElem nd j hj]
theorem num_lt {k : Int} (h : k ∈ ks) : 0 ≤ num ks k ∧ num ks k < (ks.length : Int) := by
  have := List.idxOf_lt_length_of_mem h
  unfold num
  omega
theorem get_num {k : Int} (h : k ∈ ks) : ks[(num ks k).toNat]? = some k := by
  have hl := List.idxOf_lt_length_of_mem h
  unfold num
  rw [Int.toNat_natCast, List.getElem?_eq_getElem hl, List.getElem_idxOf]
theorem num_inj {k k' : Int} (h : k ∈ ks) (h' : k' ∈ ks) (e : num ks k = num ks k') : k = k' := by
  have h1 := get_num h
  rw [e, get_num h'] at h1
  exact (Option.some.inj h1).symm
theorem nxt_rows' (nd : cs.Nodup) (O : Order cs rows fd) (bi : Bis cs rows fd κ) (f : Fst fd κ fd.length ks) {s : Int} {c : Nat} (hs : s ∈ fd) (hc : c ∈ cs) : nxt cs (rows' cs rows fd κ ks) (num ks (κ s)) c = num ks (κ (nxt cs rows s c)) := by
  have hk : κ s ∈ ks := (f.mem _).mpr ⟨s, by rw [List.take_length]; exact hs, rfl⟩
  have e1 : (rows' cs rows fd κ ks).getD (num ks (κ s)).toNat [] = cs.map fun c => num ks (κ (nxt cs rows (rep fd κ (κ s)) c)) := by
    unfold rows'
    rw [List.getD_eq_getElem?_getD, List.getElem?_map, get_num hk]
    rfl
  show ((rows' cs rows fd κ ks).getD (num ks (κ s)).toNat []).getD (cs.idxOf c) 0 = _
  rw [e1]
  have hi := List.idxOf_lt_length_of_mem hc
  rw [List.getD_eq_getElem?_getD, List.getElem?_map, List.getElem?_eq_getElem hi, List.getElem_idxOf]
  show num ks (κ (nxt cs rows (rep fd κ (κ s)) c)) = _
  obtain ⟨r1, r2⟩ := rep_mem (κ := κ) hs
  rw [bi _ r1 s hs r2 c hc]
theorem run_rows' (nd : cs.Nodup) (O : Order cs rows fd) (bi : Bis cs rows fd κ) (f : Fst fd κ fd.length ks) : ∀ (x : List Nat) (s : Int), s ∈ fd → (∀ c ∈ x, c ∈ cs) → run cs (rows' cs rows fd κ ks) (num ks (κ s)) x = num ks (κ (run cs rows s x)) ∧ run cs rows s x ∈ fd
  | [], s, hs, _ => ⟨rfl, hs⟩
  | c :: x, s, hs, hx => by
    have hc := hx c List.mem_cons_self
    have h := run_rows' nd O bi f x (nxt cs rows s c) (O.cl s hs c hc) fun d hd => hx d (List.mem_cons_of_mem _ hd)
    refine ⟨?_, h.2⟩
    show run cs (rows' cs rows fd κ ks) (nxt cs (rows' cs rows fd κ ks) (num ks (κ s)) c) x = _
    rw [nxt_rows' nd O bi f hs hc]
    exact h.1
theorem least_ok (nd : cs.Nodup) (W : WfM cs rows ends) (O : Order cs rows fd) (bi : Bis cs rows fd κ) (fi : ∀ p ∈ fd, ∀ q ∈ fd, κ p = κ q → (p ∈ ends ↔ q ∈ ends)) (f : Fst fd κ fd.length ks) :
    WfM cs (rows' cs rows fd κ ks) (ends' ends fd κ ks) ∧ Alike cs rows ends (rows' cs rows fd κ ks) (ends' ends fd κ ks) := by
  obtain ⟨t, ht⟩ := O.hd
  have h0 : (0 : Int) ∈ fd := by rw [ht]; exact List.mem_cons_self
  have hmem : ∀ k, k ∈ ks ↔ ∃ s ∈ fd, κ s = k := fun k => by rw [f.mem, List.take_length]
  have hne : fd.length ≠ 0 := by rw [ht]; simp
  have hk0 := f.hd hne
  have n0 : num ks (κ 0) = 0 := num_get f.nd hk0
  have hfl : fd.length ≤ rows.length := nodup_len _ _ O.nd O.rg
  have hkl : ks.length ≤ fd.length := by
    have := len_subG ks (fd.map κ) f.nd fun k hk => by
      obtain ⟨s, hs, e⟩ := (hmem k).mp hk
      exact List.mem_map.mpr ⟨s, hs, e⟩
    rwa [List.length_map] at this
  have hk1 : 0 < ks.length := (List.getElem?_eq_some_iff.mp hk0).1
  have hrl : (rows' cs rows fd κ ks).length = ks.length := by simp [rows']
  have hends : ∀ s ∈ fd, num ks (κ s) ∈ ends' ends fd κ ks ↔ s ∈ ends := fun s hs => by
    have hk : κ s ∈ ks := (hmem _).mpr ⟨s, hs, rfl⟩
    obtain ⟨r1, r2⟩ := rep_mem (κ := κ) hs
    constructor
    · intro h
      obtain ⟨k, hk', e⟩ := List.mem_map.mp h
      obtain ⟨k1, k2⟩ := List.mem_filter.mp hk'
      have := num_inj k1 hk e
      subst this
      exact (fi _ r1 s hs r2).mp (of_decide_eq_true k2)
    · intro h
      exact List.mem_map.mpr ⟨κ s, List.mem_filter.mpr ⟨hk, decide_eq_true ((fi _ r1 s hs r2).mpr h)⟩, rfl⟩
  refine ⟨⟨by omega, by have := W.five; omega, fun row hrow => ?_, ?_, fun e he => ?_⟩, fun x hx => ?_, fun q q0 q1 => ?_⟩
  · obtain ⟨k, hk, rfl⟩ := List.mem_map.mp hrow
    refine ⟨by simp, fun g hg => ?_⟩
    obtain ⟨c, hc, rfl⟩ := List.mem_map.mp hg
    obtain ⟨s, hs, rfl⟩ := (hmem k).mp hk
    rw [hrl]
    exact num_lt ((hmem _).mpr ⟨_, O.cl _ (rep_mem hs).1 c hc, rfl⟩)
  · unfold ends'
    refine List.pairwise_map.mpr ?_
    have : (ks.filter fun k => decide (rep fd κ k ∈ ends)).Nodup := f.nd.filter _
    refine List.Pairwise.imp_of_mem (fun {a b} ha hb h e => ?_) this
    exact h (num_inj (List.mem_filter.mp ha).1 (List.mem_filter.mp hb).1 e)
  · obtain ⟨k, hk, rfl⟩ := List.mem_map.mp he
    rw [hrl]
    exact num_lt (List.mem_filter.mp hk).1
  · have h := run_rows' nd O bi f x 0 h0 hx
    rw [n0] at h
    rw [h.1]
    exact hends _ h.2
  · rw [hrl] at q1
    have hq : q.toNat < ks.length := by omega
    have hk := List.getElem?_eq_getElem hq
    obtain ⟨s, hs, e⟩ := (hmem ks[q.toNat]).mp (List.getElem_mem hq)
    obtain ⟨x, hx, ex⟩ := O.rc s hs
    refine ⟨x, hx, ?_⟩
    have h := run_rows' nd O bi f x 0 h0 hx
    rw [n0, ex, e, num_get f.nd hk] at h
    rw [h.1]
    omega
end
end SG

set_option maxRecDepth 100000
set_option maxHeartbeats 4000000
namespace SG
open PySem L2 SR TL SS
/-- a dict comprehension that changes nothing but its own dict D -/
theorem dc_S {J : It} {n : Nat} {G : Hp → Prop} {Y : Nat → Hp → V → Hp → Prop} (w : Walk J n G Y) {g : TG} {tt : TT} {tk tv : TE} {vs : List Nat} {σ : L2.St} {H1 : Hp} {D : Addr} {Qd : Hp → Prop} (hD : H1 D = none) (hn : n ≤ 1000000)
    (S : Nat → List (Key × V) → Hp → Prop) (hS : ∀ i acc acc' H H', H D = some (.dK acc') → SameB D H H' → S i acc H → S i acc H') (h0 : S 0 [] (upd H1 D (.dK []))) (hG : ∀ H, Same H1 H → G H)
    (hs : ∀ i x H H' acc (Qt : V → V → Hp → Prop) (Qf : Hp → Prop), i < n → Same H1 H → H D = some (.dK acc) → S i acc H → Y i H x H' → (∀ k z H5, Same H H5 → S (i + 1) (putK acc k z) H5 → Qt (kV k) z H5) → (∀ H3, Same H H3 → S (i + 1) acc H3 → Qf H3) →
      g x (wipe σ vs) H' fun σ2 H2 => wipe σ2 vs = wipe σ vs ∧ tt σ2 H2 fun b H3 => if b = true then tk σ2 H3 fun y H4 => tv σ2 H4 fun z H5 => Qt y z H5 else Qf H3)
    (hd : ∀ H acc, Same H1 H → H D = some (.dK acc) → S n acc H → Qd H) :
    ∃ W : Nat → Nat → Hp → Prop, (∃ m, W 0 m (upd H1 D (.dK []))) ∧ ∀ i m H, W i m H →
      (J.stop i H ∧ Qd H) ∨ (J.go i H ∧ ∃ Nx : Hp → Prop, (∀ H', Nx H' → ∃ m', m' < m ∧ W (i + 1) m' H') ∧ ∀ x H', J.yld i H x H' → g x (wipe σ vs) H' fun σ2 H2 => wipe σ2 vs = wipe σ vs ∧ tt σ2 H2 fun b H3 =>
        if b = true then tk σ2 H3 fun y H4 => tv σ2 H4 fun z H5 => ∃ kvs k, y = kV k ∧ H5 D = some (.dK kvs) ∧ kvs.length < sizeLine ∧ Nx (upd H5 D (.dK (putK kvs k z))) else Nx H3) := by
  refine ⟨fun i m H => m = n - i ∧ i ≤ n ∧ Same H1 H ∧ ∃ acc, H D = some (.dK acc) ∧ acc.length ≤ i ∧ S i acc H, ⟨n, by simp, Nat.zero_le _, same_new hD, [], upd_same, Nat.le_refl _, h0⟩, ?_⟩
  rintro i m H ⟨rfl, hi, e, acc, hd', hl, s⟩
  have q := hG H e
  by_cases hlt : i < n
  · refine .inr ⟨w.goes i H hlt q, fun H' => Same H1 H' ∧ ∃ acc, H' D = some (.dK acc) ∧ acc.length ≤ i + 1 ∧ S (i + 1) acc H', fun H' p' => ⟨n - (i + 1), by omega, rfl, hlt, p'⟩, fun x H' y => ?_⟩
    refine hs i x H H' acc _ _ hlt e hd' s (w.yields i H x H' hlt q y) (fun k z H5 e5 s5 => ⟨acc, k, rfl, e5 _ _ hd', by rw [sizeLine_eq]; omega, same_upd (e.trans e5) hD, _, upd_same, ?_, ?_⟩) (fun H3 e3 s3 => ⟨e.trans e3, acc, e3 _ _ hd', Nat.le_succ_of_le hl, s3⟩)
    · have := length_putK acc k z
      omega
    · exact hS _ _ _ _ _ (e5 _ _ hd') SameB.upd s5
  · have ei : i = n := by omega
    subst ei
    exact .inl ⟨w.stops H q, hd H acc e hd' s⟩
theorem not_before {l : List Int} {i : Nat} {q : Int} (nd : l.Nodup) (hq : l[i]? = some q) : q ∉ l.take i := fun h => (put_upd (κ := id) (v := 0) nd hq).2 q h rfl
theorem put_take {l : List Int} {F : Int → V} {i : Nat} {q : Int} {v : V} (nd : l.Nodup) (hq : l[i]? = some q) (hv : v = F q) : putK (dI (l.take i) F) (Sum.inl q) v = dI (l.take (i + 1)) F := by
  subst hv
  rw [put_dI (not_before nd hq), List.take_add_one, hq]
  rfl
theorem row_snoc {cs : List Nat} {f : Nat → Int} {j c : Nat} (nd : cs.Nodup) (hc : cs[j]? = some c) : putK (rowK (cs.take j) ((cs.take j).map f)) (Sum.inr (lt c)) (.int (f c)) = rowK (cs.take (j + 1)) ((cs.take (j + 1)).map f) := by
  have hni : c ∉ cs.take j := fun h => by
    obtain ⟨i, hi, e⟩ := List.mem_iff_getElem.mp h
    rw [List.length_take] at hi
    have hj := (List.getElem?_eq_some_iff.mp hc).1
    have e' : cs[i]? = some c := by
      rw [List.getElem_take] at e
      rw [List.getElem?_eq_getElem (by omega), e]
    have := (List.getElem?_inj (by omega) nd).mp (e'.trans hc.symm)
    omega
  have hv : valV (rowK (cs.take j) ((cs.take j).map f)) (Sum.inr (lt c)) = none := by
    unfold valV
    rw [Option.map_eq_none_iff, List.find?_eq_none]
    intro p hp hk
    obtain ⟨x, hx, rfl⟩ := List.mem_map.mp hp
    have e : lt x.1 = lt c := by simpa using hk
    exact hni ((lt_inj e) ▸ (List.of_mem_zip hx).1)
  rw [putK_new _ hv, List.take_add_one, hc]
  show _ = rowK (cs.take j ++ [c]) ((cs.take j ++ [c]).map f)
  unfold rowK
  rw [List.map_append, List.zip_append (by simp), List.map_append]
  rfl
section
variable {P : Program} {w : World} {K : PySem.W.Frag} {mg : Str → Option Value} {base : Heap}
/-! ### least_machine -/
abbrev sLma : Stmt := top 49
abbrev nLma : List Str := ["signs", "rows", "member_states", "belongs", "order", "kinds", "firsts", "state", "numbers", "table", "number", "kind", "sign"]
theorem scLma : FnScope nLma ["signs", "rows", "member_states"] (defScope sLma) := ⟨rfl, rfl, rfl, by decide +kernel, rfl, by decide +kernel, by decide +kernel⟩
def spLma : Sp := fun vs H Q _ => ∃ (cs : List Nat) (a e : Addr) (rows : List (List Int)) (ends : List Int) (m : Nat), vs = [.str (txt cs), .ref a, .ref e] ∧ m ≤ 6 ∧ Abc cs ∧ WfM cs rows ends ∧ (∀ fd, Order cs rows fd → Cover m cs rows ends fd) ∧ Given H cs a e rows ends ∧
  ∀ (rows' : List (List Int)) (ends' : List Int) (t pt pm : Addr) (H' : Hp), WfM cs rows' ends' → Alike cs rows ends rows' ends' → Least m cs rows ends rows' ends' → Same H H' → H' t = some (.tup [.ref pt, .ref pm]) → (∀ H'' : Hp, (∀ b o, H b = none → H' b = some o → H'' b = some o) → TabAt H'' cs pt pm rows' ends') → Q (.ref t) H'
theorem ok_lma {f : Addr} {fd : FuncData} (F : Fun K "least_machine" "least_machine" sLma f fd) (B : Bl mg) (Rc : Cal P w K mg base "reached" 1 ["signs", "rows"] spRch) (Lk : Cal P w K mg base "least_kinds" 2 ["signs", "rows", "kinds"] spLek) :
    FnOk P w K mg base CX0 3 f fd ["signs", "rows", "member_states"] spLma := by
  refine F.ok scLma (fun vs H Q E h => ?_) (fun cdv A outer s H vs Q E hr h => ?_)
  · obtain ⟨cs, a, e, rows, ends, m, rfl, _⟩ := h
    rfl
  · obtain ⟨cs, a, e, rows, ends, m, rfl, hm6, ha, W, cov, G, k⟩ := h
    have hu := hu_of hr
    refine ⟨_, pss_cons (ps_set (i := 3) scLma.nd rfl (.inr rfl) (pe_dc (own := [("state", 7)]) (g := gName 7) (tt := tYes) (tk := tVar 7) (tv := tC (.bl true)) rfl scLma.nd (pi_lot (pv 2)) (blkOk_by (by kernel_rfl))
          (fun _ _ _ _ _ => pg_name (i := 7) scLma.nd rfl (.inl rfl)) (fun _ _ _ _ _ => pts_nil) (fun _ _ _ _ _ => pv 7) (fun _ _ _ _ _ => pe_bl)))
      (pss_cons (ps_set (i := 4) scLma.nd rfl (.inl rfl) (pe_cal Rc (hr.mono (by decide)) (pa_cons (pv 0) (pa_cons (pv 1) pa_nil))))
      (pss_cons (ps_set (i := 5) scLma.nd rfl (.inr rfl) (pe_cal Lk hr (pa_cons (pv 0) (pa_cons (pv 1) (pa_cons (pe_dc (own := [("state", 7)]) (g := gName 7) (tt := tYes) (tk := tVar 7) (tv := tCB (fun xs H Q => (∃ i, xs = [.int i] ∧ Q (.int i) H) ∨ ∃ k, xs = [.bl k] ∧ Q (.int (if k then 1 else 0)) H) (tCons (tDIn (tVar 7) (tVar 3)) tNil)) rfl scLma.nd (pi_list (pv 4)) (blkOk_by (by kernel_rfl))
          (fun _ _ _ _ _ => pg_name (i := 7) scLma.nd rfl (.inl rfl)) (fun _ _ _ _ _ => pts_nil) (fun _ _ _ _ _ => pv 7) (fun _ _ _ _ _ => pe_callTy call_int1 (by rfl) B.int (by decide +kernel) (pa_cons (pe_cmp (pc_din hu (pv 7) (pv 3)) rfl) pa_nil))) pa_nil)))))
      (pss_cons (ps_set (i := 6) scLma.nd rfl (.inl rfl) pe_dnewK)
      (pss_cons (ps_for PassesOwn.never rfl (pi_list (pv 4)) (pg_name (i := 7) scLma.nd rfl (.inl rfl)) (pss_one (ps_expr (pe_dsetd (pv 6) (pe_dget hu (pv 5) (pv 7) (fun _ _ => rfl)) (pv 7) ⟨rfl, rfl, rfl, rfl⟩))))
      (pss_cons (ps_set (i := 8) scLma.nd rfl (.inr rfl) (pe_lock (pe_dc (own := [("number", 10), ("kind", 11)]) (g := gTup K 2 (gCons (gName 10) (gCons (gName 11) gNil))) (tt := tYes) (tk := tVar 11) (tv := tVar 10) rfl scLma.nd (pi_enumK (by rfl) B.enumerate (pa_cons (pv 6) pa_nil)) (blkOk_by (by kernel_rfl))
          (fun _ _ _ _ _ => pg_tup rfl (pgs_cons (pg_name (i := 10) scLma.nd rfl (.inl rfl)) (pgs_cons (pg_name (i := 11) scLma.nd rfl (.inl rfl)) pgs_nil))) (fun _ _ _ _ _ => pts_nil) (fun _ _ _ _ _ => pv 11) (fun _ _ _ _ _ => pv 10))))
      (pss_cons (ps_set (i := 9) scLma.nd rfl (.inl rfl) (pe_callTy call_tuple_of (by rfl) B.tuple (by decide +kernel) (pa_cons (pe_lock (pe_lc (own := [("state", 7)]) (g := gName 7) (tt := tYes) (te := tDc (iStr (tVar 0)) (gName 12) tYes (tVar 12) (tDGet (tVar 8) (tDGet (tVar 5) (tDGet (tOp (rIx K) (tVar 1) (tVar 7)) (tVar 12)))) [12]) rfl scLma.nd (pi_values (pv 6)) (blkOk_by (by kernel_rfl))
          (fun _ _ _ _ _ => pg_name (i := 7) scLma.nd rfl (.inr rfl)) (fun _ _ _ _ _ => pts_nil)
          (fun _ _ _ _ _ => pe_dc (own := [("sign", 12)]) (g := gName 12) (tt := tYes) (tk := tVar 12) (tv := tDGet (tVar 8) (tDGet (tVar 5) (tDGet (tOp (rIx K) (tVar 1) (tVar 7)) (tVar 12)))) rfl scLma.nd (pi_str (pv 0)) (blkOk_by (by kernel_rfl))
            (fun _ _ _ _ _ => pg_name (i := 12) scLma.nd rfl (.inl rfl)) (fun _ _ _ _ _ => pts_nil) (fun _ _ _ _ _ => pv 12) (fun _ _ _ _ _ => pe_dget hu (pv 8) (pe_dget hu (pv 5) (pe_dget hu (pe_ix ix_seq (pv 1) (pv 7) (fun _ _ => rfl)) (pv 12) (fun _ _ => rfl)) (fun _ _ => rfl)) (fun _ _ => rfl))))) pa_nil)))
      (pss_one (ps_ret (pe_tup (pa_cons (pv 9) (pa_cons (pe_callTy call_tuple_of (by rfl) B.tuple (by decide +kernel) (pa_cons (pe_lock (pe_lc (own := [("kind", 11), ("state", 7)]) (g := gTup K 2 (gCons (gName 11) (gCons (gName 7) gNil))) (tt := tB (tDIn (tVar 7) (tVar 3))) (te := tDGet (tVar 8) (tVar 11)) rfl scLma.nd (pi_items (pv 6)) (blkOk_by (by kernel_rfl))
          (fun _ _ _ _ _ => pg_tup rfl (pgs_cons (pg_name (i := 11) scLma.nd rfl (.inl rfl)) (pgs_cons (pg_name (i := 7) scLma.nd rfl (.inl rfl)) pgs_nil))) (fun _ _ _ _ _ => pts_one (pt_cmp (pc_din hu (pv 7) (pv 3)))) (fun _ _ _ _ _ => pe_dget hu (pv 8) (pv 11) (fun _ _ => rfl)))) pa_nil)) pa_nil))))))))))), ?_⟩
    have nd : cs.Nodup := ris_nodup ha.ris
    have h5 := W.five
    have hel : ends.length ≤ rows.length := nodup_len _ _ W.nd W.fin
    obtain ⟨⟨qs0, g1, g2⟩, g3⟩ := G
    have hRA : RowsAt H cs a rows := ⟨qs0, g1, g2⟩
    refine ⟨_, rfl, e, _, rfl, g3, fun J Gd wk hG pb hpb => dc_S wk hpb (by rw [List.length_map]; omega) (fun i acc _ => acc = dI (ends.take i) (fun _ => .bl true)) (fun _ _ _ _ _ _ _ h => h) rfl hG ?_ ?_⟩
    · rintro i v H3 H3' acc Qt Qf hi e3 hd rfl ⟨rfl, hv⟩ kt kf
      rw [List.getElem?_map] at hv
      obtain ⟨g, hg, rfl⟩ := Option.map_eq_some_iff.mp hv
      exact ⟨rfl, _, rfl, kt (Sum.inl g) (.bl true) _ (Same.refl _) (put_take W.nd hg rfl)⟩
    rintro H1 acc e1 hB rfl
    rw [List.length_map, List.take_length] at hB
    refine ⟨_, rfl, _, rfl, cs, a, rows, ends, rfl, ha, W, hRA.mono e1, fun fd po H2 O hbe hpo e2 h2 => ?_⟩
    have hfl : fd.length ≤ rows.length := nodup_len _ _ O.nd O.rg
    refine ⟨_, rfl, _, rfl, _, rfl, po, rfl, ⟨_, SqL.of h2⟩, fun pd hpd => dc_S (walk_list (K := K) (a := po) (xs := fd.map .int)) hpd (by rw [List.length_map]; omega) (fun i acc _ => acc = dKi (fd.take i) (fun q => if q ∈ ends then 1 else 0)) (fun _ _ _ _ _ _ _ h => h) rfl (fun H' e' => e'.seq (SqL.of h2)) ?_ ?_⟩
    · rintro i v H3 H3' acc Qt Qf hi e3 hd rfl ⟨rfl, hv⟩ kt kf
      rw [List.getElem?_map] at hv
      obtain ⟨g, hg, rfl⟩ := Option.map_eq_some_iff.mp hv
      refine ⟨rfl, _, rfl, _, rfl, _, rfl, pb, _, rfl, DGet.k (k := Sum.inl g) (e3 _ _ (e2 _ _ hB)), .inr ⟨_, rfl, kt (Sum.inl g) _ _ (Same.refl _) (put_take O.nd hg ?_)⟩⟩
      rw [val_dI]
      by_cases hm : g ∈ ends
      · simp [hm]
      · simp [hm]
    rintro H3 acc e3 h3 rfl
    rw [List.length_map, List.take_length] at h3
    refine ⟨cs, a, pd, rows, ends, fd, _, m, rfl, hm6, ha, W, hRA.mono ((e1.trans e2).trans e3), O, h3, ?_, cov fd O, fun κ pk H4 r kn hr5 bi e4 h4 => ?_⟩
    · intro p hp q hq
      rw [eqv_zero]
      by_cases z1 : p ∈ ends <;> by_cases z2 : q ∈ ends <;> simp [z1, z2]
    have hB4 := e4 _ _ (e3 _ _ (e2 _ _ hB))
    have hO4 := e4 _ _ (e3 _ _ h2)
    have e04 := ((e1.trans e2).trans e3).trans e4
    have hR4 := hRA.mono e04
    have fi' : ∀ p ∈ fd, ∀ q ∈ fd, κ p = κ q → (p ∈ ends ↔ q ∈ ends) := fun p hp q hq ee => (kn p hp q hq).mp ee [] (fun _ h => nomatch h) (Nat.zero_le _)
    clear g1 g2 g3 hB h2 h3 e1 e2 e3 e4 hRA
    intro pf hpf
    refine ⟨_, rfl, po, rfl, ⟨_, SqL.of ((same_new hpf) _ _ hO4)⟩, for_it (walk_list (K := K) (a := po) (xs := fd.map .int)) (fun i σ H' => Same H4 H' ∧ ∃ ks a7, σ = [some (.str (txt cs)), some (.ref a), some (.ref e), some (.ref pb), some (.ref po), some (.ref pk), some (.ref pf), a7, none, none, none, none, none] ∧ H' pf = some (.dK (dI ks fun k => .int (rep fd κ k))) ∧ Fst fd κ i ks) ?_ (fun i σ H' _ p => p.1.seq (SqL.of hO4)) ?_ ?_⟩
    · exact ⟨same_new hpf, [], none, rfl, upd_same, Fst.start⟩
    · rintro i v σ H5 H5' hi ⟨e5, ks, a7, rfl, hf, fs⟩ ⟨rfl, hv⟩
      rw [List.getElem?_map] at hv
      obtain ⟨s1, hs, rfl⟩ := Option.map_eq_some_iff.mp hv
      have hsm := List.mem_of_getElem? hs
      have hkl : ks.length ≤ 40 := by
        have := len_subG ks ((fd.take i).map κ) fs.nd fun k hk => by
          obtain ⟨t, ht, ee⟩ := (fs.mem k).mp hk
          exact List.mem_map.mpr ⟨t, ht, ee⟩
        rw [List.length_map, List.length_take] at this
        omega
      have dk : DGet H5' pk (.int s1) (some (.int (κ s1))) := by
        have := DGet.k (k := Sum.inl s1) (e5 _ _ h4)
        rw [show valV (dKi fd κ) (Sum.inl s1) = some (.int (κ s1)) by rw [dKi, val_dI, if_pos hsm]] at this
        exact this
      refine ⟨_, rfl, pf, rfl, .inl ⟨_, .inl hf⟩, _, rfl, _, rfl, pk, _, rfl, dk, _, rfl, _, Sum.inl (κ s1), hf, rfl, (by rw [len_dI, sizeLine_eq]; omega), fun v hv => ?_, fun hv => ?_⟩
      · rw [val_dI] at hv
        have hm : κ s1 ∈ ks := Classical.byContradiction fun hn => by rw [if_neg hn] at hv; cases hv
        exact ⟨e5, ks, _, rfl, hf, fs.skip hs hm⟩
      · rw [val_dI] at hv
        have hm : κ s1 ∉ ks := fun hn => by rw [if_pos hn] at hv; cases hv
        obtain ⟨t0, ht0⟩ := O.hd
        obtain ⟨f1, f2⟩ := fs.add (by rw [ht0]; rfl) hs hm
        refine ⟨same_upd e5 hpf, ks ++ [κ s1], _, rfl, ?_, f1⟩
        rw [upd_same]
        have := put_dI (F := fun k => V.int (rep fd κ k)) hm
        rw [f2] at this
        rw [this]
    rintro σ H5 ⟨e5, ks, a7, rfl, hf, fs⟩
    rw [List.length_map] at fs
    have hmem : ∀ k, k ∈ ks ↔ ∃ s ∈ fd, κ s = k := fun k => by rw [fs.mem, List.take_length]
    obtain ⟨W', A'⟩ := least_ok nd W O bi fi' fs
    obtain ⟨nbe, hbe1, hbe2⟩ := hbe
    have Le : Least m cs rows ends (rows' cs rows fd κ ks) (ends' ends fd κ ks) := ⟨fd, κ, r, ks, O, kn, hr5, bi, fs, least_be hbe1 hbe2 bi fs, rfl, rfl⟩
    have hkl : ks.length ≤ 40 := by
      have := W'.five
      simpa [rows'] using this
    refine ⟨pf, _, hf, trivial, fun od => ?_⟩
    have e5l : Same H4 (upd H5 pf (.frz od (.dK (dI ks fun k => .int (rep fd κ k))))) := same_upd e5 hpf
    have hcl : cs.length ≤ 4 := ha.four
    refine ⟨_, rfl, pf, od, _, rfl, upd_same, fun pn hpn => dc_S walk_enumE hpn (by rw [List.length_map, len_dI]; omega) (fun i acc _ => acc = dI (ks.take i) (fun k => .int (num ks k))) (fun _ _ _ _ _ _ _ h => h) rfl (fun H' e' => e' _ _ upd_same) ?_ ?_⟩
    · rintro i v H6 H6' acc Qt Qf hi e6 hd rfl ⟨T, x, y, rfl, hT, rfl, ex, ey⟩ kt kf
      cases ex
      dsimp only at ey
      obtain ⟨k1, hk⟩ : ∃ k1, ks[i]? = some k1 := ⟨_, List.getElem?_eq_getElem (show i < ks.length by simpa [len_dI] using hi)⟩
      have ey' : y = .int k1 := by
        rw [List.getElem?_map] at ey
        unfold dI at ey
        rw [List.getElem?_map, hk] at ey
        exact (Option.some.inj ey).symm
      subst ey'
      refine ⟨T, _, rfl, SqT.of upd_same, rfl, _, _, rfl, _, _, rfl, rfl, rfl, _, rfl, _, rfl, kt (Sum.inl k1) (.int (i : Nat)) _ (same_new hT) (put_take fs.nd hk ?_)⟩
      rw [num_get fs.nd hk]
    rintro H6 acc e6 hn rfl
    rw [List.length_map, len_dI, List.take_length] at hn
    have hf6 : H6 pf = some (.frz od (.dK (dI ks fun k => .int (rep fd κ k)))) := e6 _ _ upd_same
    refine ⟨hf6, ?_⟩
    have npf : pn ≠ pf := ne_of hn hf6 (by intro z; cases z)
    have e46 : Same H4 (upd H6 pf (.dK (dI ks fun k => .int (rep fd κ k)))) := same_upd (e5l.trans e6) hpf
    have hn7 : (upd H6 pf (.dK (dI ks fun k => .int (rep fd κ k)))) pn = some (.dK (dI ks fun k => .int (num ks k))) := by rw [upd_ne npf]; exact hn
    have hf7 : (upd H6 pf (.dK (dI ks fun k => .int (rep fd κ k)))) pf = some (.dK (dI ks fun k => .int (rep fd κ k))) := upd_same
    generalize (upd H6 pf (.dK (dI ks fun k => .int (rep fd κ k)))) = H7 at e46 hn7 hf7
    clear hf6 hn e6 e5l hf e5 hpn
    refine ⟨pf, _, hf7, trivial, fun od2 => ?_⟩
    have e47 : Same H4 (upd H7 pf (.frz od2 (.dK (dI ks fun k => .int (rep fd κ k))))) := same_upd e46 hpf
    have hn7l : (upd H7 pf (.frz od2 (.dK (dI ks fun k => .int (rep fd κ k))))) pn = some (.dK (dI ks fun k => .int (num ks k))) := by rw [upd_ne npf]; exact hn7
    refine ⟨_, rfl, pf, od2, _, rfl, upd_same, fun pl hpl => lc_S walk_values hpl (by rw [len_dI]; omega) (fun i acc H' => ∃ qs : List Addr, acc = qs.map .ref ∧ Paired (fun q row => RowAt H' cs q row ∧ H4 q = none) qs ((ks.take i).map fun k => cs.map fun c => num ks (κ (nxt cs rows (rep fd κ k) c)))) ?_ ⟨[], rfl, .nil⟩ (fun H' e' => e' _ _ upd_same) ?_ ?_⟩
    · rintro i acc acc' H8 H9 hd ee ⟨qs, q1, q2⟩
      exact ⟨qs, q1, Paired.mono q2 fun a b h => ⟨ee _ _ (ne_lst hd h.1 fun _ => nofun) h.1, h.2⟩⟩
    · rintro i x H8 H8' acc Qt Qf hi e8 hd ⟨qs, rfl, hq⟩ ⟨rfl, kk, hkk⟩ kt kf
      obtain ⟨k1, hk⟩ : ∃ k1, ks[i]? = some k1 := ⟨_, List.getElem?_eq_getElem (show i < ks.length by simpa [len_dI] using hi)⟩
      have hx : x = .int (rep fd κ k1) := by
        unfold dI at hkk
        rw [List.getElem?_map, hk] at hkk
        exact (congrArg (·.2) (Option.some.inj hkk)).symm
      subst hx
      obtain ⟨s1, hs1, es1⟩ := (hmem k1).mp (List.mem_of_getElem? hk)
      have hrep : rep fd κ k1 ∈ fd := by rw [← es1]; exact (rep_mem hs1).1
      obtain ⟨r0, r1⟩ := O.rg _ hrep
      have hz : (txt cs).cps.size = cs.length := by simp [txt]
      refine ⟨rfl, _, rfl, _, rfl, fun pr hpr => dc_S walk_str hpr (by rw [hz]; omega) (fun j acc _ => acc = rowK (cs.take j) ((cs.take j).map fun c => num ks (κ (nxt cs rows (rep fd κ k1) c)))) (fun _ _ _ _ _ _ _ h => h) rfl (fun _ _ => trivial) ?_ ?_⟩
      · rintro j v H9 H9' acc Qt9 Qf9 hj e9 hd9 rfl ⟨rfl, c, hc, rfl⟩ kt9 kf9
        have hc' : cs[j]? = some c := by simpa [txt] using hc
        have hcm := List.mem_of_getElem? hc'
        have e49 := (e47.trans e8).trans e9
        have hnm := O.cl _ hrep c hcm
        obtain ⟨ys, dd, g1, g2, g3⟩ := (hR4.mono e49).get W r0 r1 hcm
        have dk : DGet H9' pk (.int (nxt cs rows (rep fd κ k1) c)) (some (.int (κ (nxt cs rows (rep fd κ k1) c)))) := by
          have := DGet.k (k := Sum.inl (nxt cs rows (rep fd κ k1) c)) (e49 _ _ h4)
          rw [show valV (dKi fd κ) (Sum.inl (nxt cs rows (rep fd κ k1) c)) = some (.int (κ (nxt cs rows (rep fd κ k1) c))) by rw [dKi, val_dI, if_pos hnm]] at this
          exact this
        have dn : DGet H9' pn (.int (κ (nxt cs rows (rep fd κ k1) c))) (some (.int (num ks (κ (nxt cs rows (rep fd κ k1) c))))) := by
          have := DGet.k (k := Sum.inl (κ (nxt cs rows (rep fd κ k1) c))) (e9 _ _ (e8 _ _ hn7l))
          rw [val_dI, if_pos ((hmem _).mpr ⟨_, hnm, rfl⟩)] at this
          exact this
        refine ⟨rfl, _, rfl, _, rfl, _, rfl, _, rfl, _, rfl, ix_lot g1 g2 ⟨_, rfl, dd, _, rfl, g3, pk, _, rfl, dk, pn, _, rfl, dn, kt9 (Sum.inr (lt c)) _ _ (Same.refl _) ?_⟩⟩
        exact row_snoc (f := fun c => num ks (κ (nxt cs rows (rep fd κ k1) c))) nd hc'
      · rintro H9 acc e9 hd9 rfl
        rw [hz, List.take_length] at hd9
        refine kt _ _ e9 ⟨qs ++ [pr], by simp, ?_⟩
        rw [List.take_add_one, hk, List.map_append]
        exact paired_snoc (Paired.mono hq fun a b h => ⟨e9 _ _ h.1, h.2⟩) ⟨hd9, (e47.trans e8).free hpr⟩
    rintro H8 acc e8 hl8 ⟨qs, rfl, hq⟩
    rw [len_dI, List.take_length] at hq
    have hf8 : H8 pf = some (.frz od2 (.dK (dI ks fun k => .int (rep fd κ k)))) := e8 _ _ upd_same
    refine ⟨hf8, ?_⟩
    have nlf : pl ≠ pf := ne_of hl8 hf8 (by intro z; cases z)
    refine ⟨pl, _, rfl, .inl ⟨SqL.of (by rw [upd_ne nlf]; exact hl8), fun pt hpt => ?_⟩⟩
    have e78 := lock_same hf7 e8
    have e79 := e78.trans (same_new (o := .tup (qs.map .ref)) hpt)
    have hq9 : Paired (fun q row => RowAt (upd (upd H8 pf (.dK (dI ks fun k => .int (rep fd κ k)))) pt (.tup (qs.map .ref))) cs q row ∧ H4 q = none) qs (rows' cs rows fd κ ks) := Paired.mono hq fun p row h => by
      have np : p ≠ pf := ne_of h.1 hf8 (by intro z; cases z)
      exact ⟨(same_new hpt) _ _ (by rw [upd_ne np]; exact h.1), h.2⟩
    have ptf : H pt = none := ((e04.trans e46).trans e78).free hpt
    have ht9 : (upd (upd H8 pf (.dK (dI ks fun k => .int (rep fd κ k)))) pt (.tup (qs.map .ref))) pt = some (.tup (qs.map .ref)) := upd_same
    generalize (upd (upd H8 pf (.dK (dI ks fun k => .int (rep fd κ k)))) pt (.tup (qs.map .ref))) = H9 at e79 hq9 ht9
    have hf9 := e79 _ _ hf7
    have hn9 := e79 _ _ hn7
    have e49 := e46.trans e79
    clear hq hl8 hf8 e8 e78 hpl hpt hn7l e47
    refine ⟨_, rfl, pf, _, hf9, trivial, fun od3 => ?_⟩
    have e49l : Same H4 (upd H9 pf (.frz od3 (.dK (dI ks fun k => .int (rep fd κ k))))) := same_upd e49 hpf
    have hn9l : (upd H9 pf (.frz od3 (.dK (dI ks fun k => .int (rep fd κ k))))) pn = some (.dK (dI ks fun k => .int (num ks k))) := by rw [upd_ne npf]; exact hn9
    refine ⟨_, rfl, pf, od3, _, rfl, upd_same, fun pm hpm => lc_S walk_items hpm (by rw [len_dI]; omega) (fun i acc _ => acc = (((ks.take i).filter fun k => decide (rep fd κ k ∈ ends)).map (num ks)).map .int) (fun _ _ _ _ _ _ _ h => h) rfl (fun H' e' => e' _ _ upd_same) ?_ ?_⟩
    · rintro i v HA HA' acc Qt Qf hi eA hd rfl ⟨T, x, y, rfl, hT, rfl, ex, ey⟩ kt kf
      obtain ⟨k1, hk⟩ : ∃ k1, ks[i]? = some k1 := ⟨_, List.getElem?_eq_getElem (show i < ks.length by simpa [len_dI] using hi)⟩
      have hkv : (dI ks fun k => V.int (rep fd κ k))[i]? = some (Sum.inl k1, .int (rep fd κ k1)) := by
        unfold dI
        rw [List.getElem?_map, hk]; rfl
      dsimp only at ex ey
      rw [hkv] at ex ey
      cases ex
      cases ey
      have eT : Same HA (upd HA T (.tup [kV (Sum.inl k1), .int (rep fd κ k1)])) := same_new hT
      have et : ks.take (i + 1) = ks.take i ++ [k1] := by rw [List.take_add_one, hk]; rfl
      refine ⟨T, _, rfl, SqT.of upd_same, rfl, _, _, rfl, _, _, rfl, rfl, rfl, _, rfl, _, rfl, pb, _, rfl, DGet.k (k := Sum.inl (rep fd κ k1)) (eT _ _ (eA _ _ (e49l _ _ hB4))), _, rfl, ?_⟩
      rw [val_dI]
      by_cases hm : rep fd κ k1 ∈ ends
      · rw [if_pos hm]
        have dn : DGet (upd HA T (.tup [kV (Sum.inl k1), .int (rep fd κ k1)])) pn (.int k1) (some (.int (num ks k1))) := by
          have := DGet.k (k := Sum.inl k1) (eT _ _ (eA _ _ hn9l))
          rw [val_dI, if_pos (List.mem_of_getElem? hk)] at this
          exact this
        refine iteT ⟨_, rfl, _, rfl, pn, _, rfl, dn, kt _ _ eT ?_⟩
        rw [et, List.filter_append, List.map_append, List.map_append]
        simp [hm]
      · rw [if_neg hm]
        refine iteF (kf _ eT ?_)
        rw [et, List.filter_append, List.map_append, List.map_append]
        simp [hm]
    rintro HA acc eA hm rfl
    rw [len_dI, List.take_length] at hm
    have hfA : HA pf = some (.frz od3 (.dK (dI ks fun k => .int (rep fd κ k)))) := eA _ _ upd_same
    refine ⟨hfA, ?_⟩
    have nmf : pm ≠ pf := ne_of hm hfA (by intro z; cases z)
    have e9A := lock_same hf9 eA
    refine ⟨pm, _, rfl, .inl ⟨SqL.of (by rw [upd_ne nmf]; exact hm), fun pe hpe => ⟨by show 2 ≤ sizeLine; decide, fun t ht => ?_⟩⟩⟩
    have e9B := (e9A.trans (same_new (o := .tup ((ends' ends fd κ ks).map .int)) hpe)).trans (same_new (o := .tup [.ref pt, .ref pe]) ht)
    refine k (rows' cs rows fd κ ks) (ends' ends fd κ ks) t pt pe _ W' A' Le ((e04.trans e49).trans e9B) upd_same fun H'' ext => ⟨⟨qs, ext _ _ ptf (e9B _ _ ht9), Paired.mono hq9 fun p row h => ext _ _ (e04.free h.2) (e9B _ _ h.1)⟩, ext _ _ (((e04.trans e49).trans e9A).free hpe) ((same_new ht) _ _ upd_same)⟩
end
end SG

set_option maxRecDepth 100000
set_option maxHeartbeats 4000000
namespace SR
open PySem PySem.Spec PyProof.Rows L2
/-- o.f as a target among others -/
def gFld (K : PySem.W.Frag) (ta : TE) (f : Str) : TG := fun v σ H Q => ta σ H fun x H1 => ∃ a C dx fs, x = .ref a ∧ H1 a = some (.ins C dx fs) ∧ Cls K C ∧ NoAttr K C f ∧ fs.length < 1000 ∧ Q σ (upd H1 a (.ins C dx (putF f v fs)))
theorem pg_fld {X : Cx} {o : Expr} {ta : TE} {f : Str} {pos : Pos} (ho : PE X o ta) : PG X (.Attribute o f pos) (gFld X.K ta f) := by
  refine ⟨fun pins s σ H v u Q I r h => ?_⟩
  rw [assign_Attribute]
  refine wpAny_bind (wpAny_holding (thn (ho.run pins s σ H _ I h) fun ov s1 ⟨x, H1, I1, r1, a, C, dx, fs, ex, ea, c, n, l, q⟩ => ?_))
  subst ex
  obtain rfl : ov = Value.ref a := r1
  refine wpAny_bind (wpAny_standAt (wpAny_bind (wpAny_holding ?_)))
  exact setattr_ok I1 ea c n l r fun s3 I3 => wpAny_release ⟨σ, _, I3, q⟩
end SR
namespace SG
open PySem L2 SR TL SS
/-- what the walk asks of the class -/
structure LTx (K : PySem.W.Frag) (mg : Str → Option Value) (C : Addr) : Prop where
  cl : Cls K C
  nS : NoAttr K C "own_signs"
  nG : NoAttr K C "goals"
  nM : NoAttr K C "member_list"
  nL : NoAttr K C "live_list"
  mgC : mg "Language" = some (.ref C)
/-- a language as it lies: its least machine, its live states -/
structure LangR (C : Addr) (H : Hp) (x : Addr) (cs : List Nat) (rw' : List (List Int)) (en' ns : List Int) : Prop where
  ex : ∃ (dx pt pm pl : Addr) (fs : List (Str × V)), H x = some (.ins C dx fs) ∧ fs.lookup ("own_signs" : Str) = some (.str (txt cs)) ∧ fs.lookup ("goals" : Str) = some (.ref pt) ∧ fs.lookup ("member_list" : Str) = some (.ref pm) ∧ fs.lookup ("live_list" : Str) = some (.ref pl) ∧
    (∀ n : Str, ¬ n = "own_signs" → ¬ n = "goals" → ¬ n = "member_list" → ¬ n = "live_list" → fs.lookup n = none) ∧ TabAt H cs pt pm rw' en' ∧ H pl = some (.tup (ns.map .int)) ∧ ns.length ≤ 40
theorem LangR.mono {C : Addr} {H H' : Hp} {x : Addr} {cs : List Nat} {rw' : List (List Int)} {en' ns : List Int} (e : Same H H') (h : LangR C H x cs rw' en' ns) : LangR C H' x cs rw' en' ns := by
  obtain ⟨dx, pt, pm, pl, fs, h1, h2, h3, h4, h5, h6, h7, h8, h9⟩ := h.ex
  exact ⟨dx, pt, pm, pl, fs, e _ _ h1, h2, h3, h4, h5, h6, h7.mono e, e _ _ h8, h9⟩
structure LangAt (m : Nat) (C : Addr) (H : Hp) (x : Addr) (cs : List Nat) (rows : List (List Int)) (ends : List Int) : Prop where
  ex : ∃ (rw' : List (List Int)) (en' ns : List Int), LangR C H x cs rw' en' ns ∧ WfM cs rw' en' ∧ Alike cs rows ends rw' en' ∧ Least m cs rows ends rw' en' ∧ (∀ q, 0 ≤ q → q < (rw'.length : Int) → (q ∈ ns ↔ Leads cs rw' en' q)) ∧ ∀ q ∈ ns, 0 ≤ q ∧ q < (rw'.length : Int)
theorem LangAt.mono {m : Nat} {C : Addr} {H H' : Hp} {x : Addr} {cs : List Nat} {rows : List (List Int)} {ends : List Int} (e : Same H H') (h : LangAt m C H x cs rows ends) : LangAt m C H' x cs rows ends := by
  obtain ⟨rw', en', ns, h1, h2⟩ := h.ex
  exact ⟨rw', en', ns, h1.mono e, h2⟩
theorem Given.b {H H' : Hp} {cs : List Nat} {a b x C dx : Addr} {fs : List (Str × V)} {rows : List (List Int)} {ends : List Int} (hx : H x = some (.ins C dx fs)) (e : SameB x H H') (g : Given H cs a b rows ends) : Given H' cs a b rows ends := by
  obtain ⟨qs, h1, h2⟩ := g.ex
  have lot : ∀ {p : Addr} {xs : List V}, LoT H p xs → LoT H' p xs := fun {p xs} h => by
    rcases h with z | z
    · exact .inl (e _ _ (ne_of z hx (by intro z; cases z)) z)
    · exact .inr (e _ _ (ne_of z hx (by intro z; cases z)) z)
  exact ⟨⟨qs, lot h1, Paired.mono h2 fun p row h => e _ _ (ne_of h hx (by intro z; cases z)) h⟩, lot g.mem⟩
theorem TabAt.b {H H' : Hp} {cs : List Nat} {t m x C dx : Addr} {fs : List (Str × V)} {rows : List (List Int)} {ends : List Int} (hx : H x = some (.ins C dx fs)) (e : SameB x H H') (g : TabAt H cs t m rows ends) : TabAt H' cs t m rows ends := by
  obtain ⟨⟨qs, h1, h2⟩, h3⟩ := g
  exact ⟨⟨qs, e _ _ (ne_of h1 hx (by intro z; cases z)) h1, Paired.mono h2 fun p row h => e _ _ (ne_of h hx (by intro z; cases z)) h⟩, e _ _ (ne_of h3 hx (by intro z; cases z)) h3⟩
theorem empty_iff {cs : List Nat} {rows rw' : List (List Int)} {ends en' ns : List Int} (A' : Alike cs rows ends rw' en') (one : 1 ≤ rw'.length) (h : ∀ q, 0 ≤ q → q < (rw'.length : Int) → (q ∈ ns ↔ Leads cs rw' en' q)) (hr : ∀ q ∈ ns, 0 ≤ q ∧ q < (rw'.length : Int)) : ns = [] ↔ ¬ Leads cs rows ends 0 := by
  constructor
  · rintro rfl ⟨x, hx, hm⟩
    have := (h 0 (Int.le_refl _) (by omega)).mpr ⟨x, hx, (A'.1 x hx).mpr hm⟩
    cases this
  · intro hn
    cases ns with
    | nil => rfl
    | cons q ns =>
      exfalso
      obtain ⟨q0, q1⟩ := hr q List.mem_cons_self
      obtain ⟨x, hx, hm⟩ := (h q q0 q1).mp List.mem_cons_self
      obtain ⟨y, hy, ey⟩ := A'.2 q q0 q1
      have hxy : ∀ c ∈ y ++ x, c ∈ cs := fun c hc => by
        rcases List.mem_append.mp hc with z | z
        · exact hy c z
        · exact hx c z
      refine hn ⟨y ++ x, hxy, (A'.1 _ hxy).mp ?_⟩
      unfold run at hm ey ⊢
      rw [List.foldl_append, ey]
      exact hm
section
variable {P : Program} {w : World} {K : PySem.W.Frag} {mg : Str → Option Value} {base : Heap}
abbrev sInit : Stmt := inClass (top 52) 1
abbrev sSgn : Stmt := inClass (top 52) 4
abbrev sEmp : Stmt := inClass (top 52) 5
abbrev sCon : Stmt := inClass (top 52) 11
abbrev psI : List Str := ["self", "signs", "states", "member_states"]
theorem scInit : FnScope psI psI (defScope sInit) := ⟨rfl, rfl, rfl, by decide +kernel, rfl, by decide +kernel, by decide +kernel⟩
def spInit (C : Addr) : Sp := fun vs H Q _ => ∃ (x dx : Addr) (cs : List Nat) (a e : Addr) (rows : List (List Int)) (ends : List Int) (m : Nat), vs = [.ref x, .str (txt cs), .ref a, .ref e] ∧ m ≤ 6 ∧ H x = some (.ins C dx []) ∧ Abc cs ∧ WfM cs rows ends ∧ (∀ fd, Order cs rows fd → Cover m cs rows ends fd) ∧ Given H cs a e rows ends ∧
  ∀ H', (∀ H'' : Hp, (∀ b o, (H b = none ∨ b = x) → H' b = some o → H'' b = some o) → LangAt m C H'' x cs rows ends) → SameB x H H' → Q .non H'
theorem ok_init {f C : Addr} {fd : FuncData} (F : Fun K "__init__" "Language.__init__" sInit f fd) (T : LTx K mg C) (Ck : Cal P w K mg base "check_machine" 3 ["signs", "states", "member_states"] spChk) (Lm : Cal P w K mg base "least_machine" 3 ["signs", "rows", "member_states"] spLma) (Ls : Cal P w K mg base "live_states" 1 ["table", "member_list"] spLst) :
    FnOk P w K mg base CX0 4 f fd psI (spInit C) := by
  refine F.ok scInit (fun vs H Q E h => ?_) (fun cdv A outer s H vs Q E hr h => ?_)
  · obtain ⟨x, dx, cs, a, e, rows, ends, m, rfl, _⟩ := h
    rfl
  · obtain ⟨x, dx, cs, a, e, rows, ends, m, rfl, hm6, hx, ha, W, cov, G, k⟩ := h
    refine ⟨_, pss_cons (ps_expr (pe_cal Ck hr (pa_cons (pv 1) (pa_cons (pv 2) (pa_cons (pv 3) pa_nil)))))
      (pss_cons (ps_fld (pv 0) (pv 1) rfl)
      (pss_cons (ps_asg (pe_cal Lm hr (pa_cons (pv 1) (pa_cons (pv 2) (pa_cons (pv 3) pa_nil)))) (pg_tup rfl (pgs_cons (pg_fld (pv 0)) (pgs_cons (pg_fld (pv 0)) pgs_nil))))
      (pss_one (ps_fld (pv 0) (pe_cal Ls (hr.mono (by decide)) (pa_cons (pe_fld (pv 0) rfl) (pa_cons (pe_fld (pv 0) rfl) pa_nil))) rfl)))), ?_⟩
    refine ⟨_, rfl, _, rfl, _, rfl, cs, a, e, rows, ends, rfl, ha, W, G, fun H1 e1 => ?_⟩
    have hx1 := e1 _ _ hx
    refine ⟨_, rfl, _, rfl, x, C, dx, _, rfl, hx1, T.cl, T.nS, (by show 0 < 1000; decide), ?_⟩
    have G2 := (G.mono e1).b hx1 (SameB.upd (o := .ins C dx (putF "own_signs" (.str (txt cs)) [])))
    have hx2 : (upd H1 x (.ins C dx (putF "own_signs" (.str (txt cs)) []))) x = some (.ins C dx (putF "own_signs" (.str (txt cs)) [])) := upd_same
    have b2 : SameB x H (upd H1 x (.ins C dx (putF "own_signs" (.str (txt cs)) []))) := (Same.b e1).trans SameB.upd
    generalize (upd H1 x (.ins C dx (putF "own_signs" (.str (txt cs)) []))) = H2 at G2 hx2 b2
    refine ⟨_, rfl, _, rfl, _, rfl, cs, a, e, rows, ends, m, rfl, hm6, ha, W, cov, G2, fun rw' en' t pt pm H3 W' A' Le e3 h3 tab => ?_⟩
    have hx3 := e3 _ _ hx2
    refine ⟨t, _, rfl, SqT.of h3, rfl, _, _, rfl, _, rfl, x, C, dx, _, rfl, hx3, T.cl, T.nG, (by show 1 < 1000; decide), _, _, rfl, _, rfl, x, C, dx, _, rfl, upd_same, T.cl, T.nM, (by show 2 < 1000; decide), rfl, ?_⟩
    have nx2 : ∀ b, H2 b = none → b ≠ x := fun b hb ee => by rw [ee, hx2] at hb; cases hb
    have tabX : ∀ H'' : Hp, (∀ b o, H2 b = none → (upd (upd H3 x (.ins C dx (putF "goals" (.ref pt) (putF "own_signs" (.str (txt cs)) [])))) x (.ins C dx (putF "member_list" (.ref pm) (putF "goals" (.ref pt) (putF "own_signs" (.str (txt cs)) []))))) b = some o → H'' b = some o) → TabAt H'' cs pt pm rw' en' := fun H'' ext => tab H'' fun b o hb ho => ext b o hb (by rw [upd_ne (nx2 b hb), upd_ne (nx2 b hb)]; exact ho)
    have hx4 : (upd (upd H3 x (.ins C dx (putF "goals" (.ref pt) (putF "own_signs" (.str (txt cs)) [])))) x (.ins C dx (putF "member_list" (.ref pm) (putF "goals" (.ref pt) (putF "own_signs" (.str (txt cs)) []))))) x = some (.ins C dx (putF "member_list" (.ref pm) (putF "goals" (.ref pt) (putF "own_signs" (.str (txt cs)) [])))) := upd_same
    have b4 : SameB x H (upd (upd H3 x (.ins C dx (putF "goals" (.ref pt) (putF "own_signs" (.str (txt cs)) [])))) x (.ins C dx (putF "member_list" (.ref pm) (putF "goals" (.ref pt) (putF "own_signs" (.str (txt cs)) []))))) := ((b2.trans (Same.b e3)).trans SameB.upd).trans SameB.upd
    generalize (upd (upd H3 x (.ins C dx (putF "goals" (.ref pt) (putF "own_signs" (.str (txt cs)) [])))) x (.ins C dx (putF "member_list" (.ref pm) (putF "goals" (.ref pt) (putF "own_signs" (.str (txt cs)) []))))) = H4 at tabX hx4 b4 ⊢
    have tab4 : TabAt H4 cs pt pm rw' en' := tabX H4 fun _ _ _ h => h
    have l1 : (putF "member_list" (.ref pm) (putF "goals" (.ref pt) (putF "own_signs" (.str (txt cs)) []))).lookup ("goals" : Str) = some (.ref pt) := by rw [lk_ne (by decide +kernel), lk_eq]
    refine ⟨_, rfl, x, C, dx, _, _, rfl, hx4, T.cl, T.nG, l1, _, rfl, x, C, dx, _, _, rfl, hx4, T.cl, T.nM, lk_eq, pt, pm, cs, rw', en', rfl, ha, W', tab4, fun ns p H5 hns hrg hl5 rs hp e5 h5 => ?_⟩
    have hx5 := e5 _ _ hx4
    have npx : p ≠ x := ne_of h5 hx5 (by intro z; cases z)
    have pfr : H p = none := freeB b4 npx hp
    refine ⟨_, rfl, x, C, dx, _, rfl, hx5, T.cl, T.nL, (by show 3 < 1000; decide), k _ (fun H'' ext => ⟨rw', en', ns, ⟨dx, pt, pm, p, _, ext x _ (.inr rfl) upd_same, ?_, ?_, ?_, lk_eq, fun n n1 n2 n3 n4 => by rw [lk_ne n4, lk_ne n3, lk_ne n2, lk_ne n1]; rfl, tabX H'' fun b o hb ho => ext b o (.inl (freeB b2 (nx2 b hb) hb)) (by rw [upd_ne (nx2 b hb)]; exact e5 _ _ ho), ext p _ (.inl pfr) (by rw [upd_ne npx]; exact h5), hl5⟩, W', A', Le, hns, hrg⟩) ((b4.trans (Same.b e5)).trans SameB.upd)⟩
    · rw [lk_ne (by decide +kernel), lk_ne (by decide +kernel), lk_ne (by decide +kernel), lk_eq]
    · rw [lk_ne (by decide +kernel)]; exact l1
    · rw [lk_ne (by decide +kernel), lk_eq]
end
end SG

set_option maxRecDepth 100000
set_option maxHeartbeats 4000000
namespace SG
open PySem L2 SR TL SS
/-! ### the methods of Language -/
/-- more of the class -/
structure LTy (K : PySem.W.Frag) (C : Addr) : Prop where
  cls : PySem.W.findIn K (.ref C) "__class__" = some (some (.builtin "object.__class__"))
  getc : PySem.W.specialIn K (.builtin "object.__class__") "__get__" = some (some (.builtin "getset_descriptor.__get__"))
  tak : PySem.W.takesIn K (.builtin "object.__class__") = some true
  mro : PySem.W.mroIn K C (.type "object") = some true
  kit : PySem.W.kitOne K (.ref C) (.ref C) = some true
  ne : PySem.W.findIn K (.ref C) "__ne__" = some (some (.builtin "object.__ne__"))
  sub : PySem.W.subIn K (.ref C) (.type "object") = some true
/-! the sizes of what is shown -/
def endsD (ends : List Int) : PyData := .tuple (ends.map .int)
end SG

set_option maxRecDepth 100000
set_option maxHeartbeats 4000000
namespace SR
open PySem PySem.Spec PyProof.Rows L2
end SR
namespace SG
open PySem PySem.Spec PyProof.Rows L2 SR TL SS
theorem row_map {cs : List Nat} {row : List Int} (nd : cs.Nodup) (hl : row.length = cs.length) : row = cs.map fun c => row.getD (cs.idxOf c) 0 := by
  refine List.ext_getElem? fun i => ?_
  rw [List.getElem?_map]
  by_cases hi : i < cs.length
  · rw [List.getElem?_eq_getElem hi, List.getElem?_eq_getElem (by omega)]
    show _ = some (row.getD (cs.idxOf cs[i]) 0)
    rw [List.Nodup.idxOf_getElem nd i hi, List.getD_eq_getElem?_getD, List.getElem?_eq_getElem (by omega)]
    rfl
  · rw [List.getElem?_eq_none (by omega), List.getElem?_eq_none (by omega)]
    rfl
section
variable {X : Cx} {pins : List (Addr × Obj)} {σ : L2.St} {H : Hp} {s : Shared}
/-- two rows: equal or not -/
theorem eq_rowIn (I : Inv X pins σ H s) {A : Around} (hu : A.units + 1 < cLine) {cs : List Nat} {p q : Addr} {r1 r2 : List Int} (nd : cs.Nodup) (l1 : r1.length = cs.length) (l2 : r2.length = cs.length) (h1 : RowAt H cs p r1) (h2 : RowAt H cs q r2) :
    SeqAt.EqIn X.prog X.w A s (.ref p) (.ref q) (decide (r1 = r2)) := by
  by_cases e : p = q
  · subst e
    have e2 : rowK cs r1 = rowK cs r2 := by
      have := h1.symm.trans h2
      exact HO.dK.inj (Option.some.inj this)
    have e3 : r1 = r2 := by
      rw [row_map nd l1, row_map nd l2]
      refine List.map_congr_left fun c hc => ?_
      have v1 := val_row l1 hc
      have v2 := val_row l2 hc
      rw [e2, v2] at v1
      exact (V.int.inj (Option.some.inj v1)).symm
    rw [decide_eq_true e3]
    exact (SeqAt.EqAt.same _).inModel X.prog X.w
  · refine SeqAt.EqIn.of_refs e fun E Q hq => ?_
    obtain ⟨_, ya, va, ra, da⟩ := (show ObjOk X.prog X.w H s.heap p (.dK (rowK cs r1)) from I.hok p _ h1)
    obtain ⟨_, yb, vb, rb, db⟩ := (show ObjOk X.prog X.w H s.heap q (.dK (rowK cs r2)) from I.hok q _ h2)
    have mem1 : ∀ c ∈ cs, ∃ v, ((Sum.inr (lt c) : Key), v) ∈ va ∧ RelV (.int (r1.getD (cs.idxOf c) 0)) v := by
      intro c hc
      have rr : RelO (some (.int (r1.getD (cs.idxOf c) 0))) (valueAt va (Sum.inr (lt c))) := by rw [← val_row l1 hc]; exact ra.val _
      obtain ⟨y, hy, ry⟩ := rr.some_of
      refine ⟨y, ?_, ry⟩
      unfold valueAt at hy
      obtain ⟨kv, hkv, ekv⟩ := Option.map_eq_some_iff.mp hy
      have h1 := List.find?_some hkv
      have h2 := List.mem_of_find?_eq_some hkv
      have h3 : kv.1 = Sum.inr (lt c) := by simpa using h1
      rw [← h3, ← ekv]
      exact h2
    have zipv : ∀ c i, (c, i) ∈ cs.zip r1 → c ∈ cs ∧ i = r1.getD (cs.idxOf c) 0 := by
      intro c i h
      obtain ⟨j, hj⟩ := List.mem_iff_getElem?.mp h
      obtain ⟨h1, h2⟩ := List.getElem?_zip_eq_some.mp hj
      obtain ⟨hj1, e1⟩ := List.getElem?_eq_some_iff.mp h1
      refine ⟨List.mem_of_getElem? h1, ?_⟩
      have e1' : cs[j] = c := e1
      have h2' : r1[j]? = some i := h2
      rw [← e1', List.Nodup.idxOf_getElem nd j hj1, List.getD_eq_getElem?_getD, h2']
      rfl
    have of1 : ∀ k v, (k, v) ∈ va → ∃ c ∈ cs, k = Sum.inr (lt c) ∧ RelV (.int (r1.getD (cs.idxOf c) 0)) v := by
      intro k v hkv
      have : ∀ {l : List (Key × V)} {m : List (Key × Value)}, KV l m → ∀ k v, (k, v) ∈ m → ∃ p ∈ l, p.1 = k ∧ RelV p.2 v := by
        intro l m r
        unfold KV at r
        induction r with
        | nil => intro k v h; cases h
        | @cons a b _ _ h _ ih =>
          intro k v hm
          rcases List.mem_cons.mp hm with z | z
          · refine ⟨a, List.mem_cons_self, ?_, ?_⟩
            · rw [h.1, ← z]
            · have := h.2
              rw [← z] at this
              exact this
          · obtain ⟨p, h1, h2⟩ := ih k v z
            exact ⟨p, List.mem_cons_of_mem _ h1, h2⟩
      obtain ⟨p, hp, e1, e2⟩ := this ra k v hkv
      obtain ⟨⟨c, i⟩, hc, rfl⟩ := List.mem_map.mp hp
      obtain ⟨hcs, ei⟩ := zipv c i hc
      refine ⟨c, hcs, e1.symm, ?_⟩
      rw [← ei]
      exact e2
    have val2 : ∀ c ∈ cs, ∃ y, valueAt vb (Sum.inr (lt c)) = some y ∧ RelV (.int (r2.getD (cs.idxOf c) 0)) y := by
      intro c hc
      have rr : RelO (some (.int (r2.getD (cs.idxOf c) 0))) (valueAt vb (Sum.inr (lt c))) := by rw [← val_row l2 hc]; exact rb.val _
      exact rr.some_of
    have la : va.length = cs.length := by
      rw [← ra.length]
      unfold rowK
      rw [List.length_map, List.length_zip, l1, Nat.min_self]
    have lb : vb.length = cs.length := by
      rw [← rb.length]
      unfold rowK
      rw [List.length_map, List.length_zip, l2, Nat.min_self]
    have fin : (va.length == vb.length && va.all fun p => (valueAt vb p.1).isSome && decide (valV (rowK cs r1) p.1 = valV (rowK cs r2) p.1)) = decide (r1 = r2) := by
      rw [la, lb, beq_self_eq_true, Bool.true_and, Bool.eq_iff_iff, List.all_eq_true, decide_eq_true_iff]
      constructor
      · intro h
        rw [row_map nd l1, row_map nd l2]
        refine List.map_congr_left fun c hc => ?_
        obtain ⟨v, hv, _⟩ := mem1 c hc
        have := h _ hv
        rw [Bool.and_eq_true] at this
        have h2 := of_decide_eq_true this.2
        rw [val_row l1 hc, val_row l2 hc] at h2
        exact V.int.inj (Option.some.inj h2)
      · rintro rfl p hp
        obtain ⟨c, hc, ek, _⟩ := of1 p.1 p.2 hp
        obtain ⟨y, hy, _⟩ := val2 c hc
        rw [ek, hy]
        simp
    refine PySem.W.keq_eqIn (knd := mixKind X.prog X.w) ya yb da db (by omega) (fun _ => PySem.W.KeqHitsIn.of (e := fun k => decide (valV (rowK cs r1) k = valV (rowK cs r2) k)) _ fun k v y hm hv => ?_) (by rw [fin]; exact hq)
    obtain ⟨c, hc, rfl, rv⟩ := of1 k v hm
    obtain ⟨y', hy', ry⟩ := val2 c hc
    rw [hv] at hy'
    cases hy'
    obtain ⟨t1, rfl⟩ := rv
    obtain ⟨t2, rfl⟩ := ry
    have e4 : decide (valV (rowK cs r1) (Sum.inr (lt c)) = valV (rowK cs r2) (Sum.inr (lt c))) = (r1.getD (cs.idxOf c) 0 == r2.getD (cs.idxOf c) 0) := by
      rw [val_row l1 hc, val_row l2 hc, Bool.eq_iff_iff, decide_eq_true_iff, beq_iff_eq]
      exact ⟨fun z => V.int.inj (Option.some.inj z), fun z => by rw [z]⟩
    rw [e4]
    exact (SeqAt.EqAt.int_int _ t1 _ t2).inModel X.prog X.w
/-- two tuples of rows over the same signs -/
def rEqRows (K : PySem.W.Frag) (cs : List Nat) : R2 := fun x y H Q => ∃ (p q : Addr) (ps qs : List Addr) (r1 r2 : List (List Int)), x = .ref p ∧ y = .ref q ∧ SqT K H p (ps.map .ref) ∧ SqT K H q (qs.map .ref) ∧ Paired (RowAt H cs) ps r1 ∧ Paired (RowAt H cs) qs r2 ∧
  (∀ row ∈ r1, row.length = cs.length) ∧ (∀ row ∈ r2, row.length = cs.length) ∧ Q (.bl (decide (r1 = r2))) H
theorem op_eqRows {X : Cx} {cs : List Nat} (nd : cs.Nodup) (hu : X.A.units + 64 < cLine) : OpR X (compareOp .Eq) (rEqRows X.K cs) := by
  intro pins s σ H x y v u Q I rx ry h
  obtain ⟨p, q, ps, qs, r1, r2, rfl, rfl, h1, h2, p1, p2, w1, w2, k⟩ := h
  cases rx
  cases ry
  obtain ⟨us, v1, t1, _⟩ := I.tuple h1
  obtain ⟨ws, v2, t2, _⟩ := I.tuple h2
  have refs : ∀ (as : List Addr) (us : List Value), Vals (as.map V.ref) us → us = as.map Value.ref := by
    intro as
    induction as with
    | nil => intro us r; cases r; rfl
    | cons a as ih =>
      intro us r
      cases r with
      | cons h t => rw [ih _ t]; cases (show _ = Value.ref a from h); rfl
  have e1 := refs _ _ v1
  have e2 := refs _ _ v2
  subst e1
  subst e2
  have n1 := Paired.length p1
  have n2 := Paired.length p2
  refine SeqAt.rcIn_tuples (e := fun j => decide (r1.getD j [] = r2.getD j [])) t1 t2 (by omega) (fun j j1 j2 => ?_) ?_
  · have k1 : j < ps.length := by simpa using j1
    have k2 : j < qs.length := by simpa using j2
    have k1' : j < r1.length := by omega
    have k2' : j < r2.length := by omega
    obtain ⟨a, ha, ra⟩ := paired_get j p1 (List.getElem?_eq_getElem k1')
    obtain ⟨b, hb, rb⟩ := paired_get j p2 (List.getElem?_eq_getElem k2')
    have q1 : (ps.map Value.ref).toArray[j] = Value.ref a := by
      have : ps[j] = a := (List.getElem?_eq_some_iff.mp ha).2
      simp [this]
    have q2 : (qs.map Value.ref).toArray[j] = Value.ref b := by
      have : qs[j] = b := (List.getElem?_eq_some_iff.mp hb).2
      simp [this]
    have g1 : r1.getD j [] = r1[j] := by rw [List.getD_eq_getElem?_getD, List.getElem?_eq_getElem k1']; rfl
    have g2 : r2.getD j [] = r2[j] := by rw [List.getD_eq_getElem?_getD, List.getElem?_eq_getElem k2']; rfl
    show SeqAt.EqIn X.prog X.w X.A.in1 s _ _ (decide (r1.getD j [] = r2.getD j []))
    rw [q1, q2, g1, g2]
    exact eq_rowIn I (by show X.A.units + 1 + 1 < cLine; omega) nd (w1 _ (List.getElem_mem k1')) (w2 _ (List.getElem_mem k2')) ra rb
  · have fin : ((List.range (min (ps.map Value.ref).toArray.size (qs.map Value.ref).toArray.size)).all (fun j => decide (r1.getD j [] = r2.getD j [])) && (ps.map Value.ref).toArray.size == (qs.map Value.ref).toArray.size) = decide (r1 = r2) := by
      have s1 : (ps.map Value.ref).toArray.size = r1.length := by simp [n1]
      have s2 : (qs.map Value.ref).toArray.size = r2.length := by simp [n2]
      rw [s1, s2, Bool.eq_iff_iff, Bool.and_eq_true, List.all_eq_true, beq_iff_eq, decide_eq_true_iff]
      constructor
      · rintro ⟨h, hl⟩
        refine List.ext_getElem hl fun j j1 j2 => ?_
        have := of_decide_eq_true (h j (List.mem_range.mpr (by omega)))
        rw [List.getD_eq_getElem?_getD, List.getElem?_eq_getElem j1, List.getD_eq_getElem?_getD, List.getElem?_eq_getElem j2] at this
        exact this
      · rintro rfl
        exact ⟨fun j _ => decide_eq_true rfl, rfl⟩
    rw [fin]
    exact ⟨.bl _, H, I, rfl, k⟩
end
end SG

set_option maxRecDepth 100000
set_option maxHeartbeats 4000000
namespace SY
open PySem PySem.Spec PyProof.Rows L2
end SY
namespace SG
open PySem L2 SR TL SS
theorem eqv_ints : ∀ (a b : List Int), PyData.eqvAll (a.map .int) (b.map .int) = decide (a = b)
  | [], [] => by simp [PyData.eqvAll]
  | [], _ :: _ => by simp [PyData.eqvAll]
  | _ :: _, [] => by simp [PyData.eqvAll]
  | x :: a, y :: b => by
    rw [List.map_cons, List.map_cons, PyData.eqvAll, eqv_ints a b]
    have : PyData.eqv (.int x) (.int y) = decide (x = y) := by
      rw [Bool.eq_iff_iff]
      simp [PyData.eqv]
    rw [this, ← Bool.decide_and, decide_eq_decide]
    exact ⟨fun h => by rw [h.1, h.2], fun h => by injection h with h1 h2; exact ⟨h1, h2⟩⟩
theorem eqv_ends (a b : List Int) : PyData.eqv (endsD a) (endsD b) = decide (a = b) := by
  unfold endsD
  rw [PyData.eqv]
  exact eqv_ints a b
theorem leaf_ends (en : List Int) : SeqAt.shaped (endsD en) = true := leaf_tuple fun d hd => by
  obtain ⟨i, _, rfl⟩ := List.mem_map.mp hd
  exact leaf_int i
section
variable {P : Program} {w : World} {K : PySem.W.Frag} {mg : Str → Option Value} {base : Heap}
/-! ### __eq__ -/
abbrev sEql : Stmt := inClass (top 52) 12
theorem scEql : FnScope ["self", "other"] ["self", "other"] (defScope sEql) := ⟨rfl, rfl, rfl, by decide +kernel, rfl, by decide +kernel, by decide +kernel⟩
def spEqA (C : Addr) : Sp := fun vs H Q _ => ∃ (x : Addr) (v : V) (cs : List Nat) (r : List (List Int)) (en ns : List Int), vs = [.ref x, v] ∧ Abc cs ∧ LangR C H x cs r en ns ∧ WfM cs r en ∧
  ((∃ T, SR.Odd H v T ∧ ∀ H', Same H H' → Q (.bl false) H') ∨ ∃ (y : Addr) (cs2 : List Nat) (r2 : List (List Int)) (en2 ns2 : List Int), v = .ref y ∧ LangR C H y cs2 r2 en2 ns2 ∧ WfM cs2 r2 en2 ∧ ∀ H', Same H H' → Q (.bl (decide (cs = cs2 ∧ en = en2 ∧ r = r2))) H')
theorem ok_eqA {f C : Addr} {fd : FuncData} (F : Fun K "__eq__" "Language.__eq__" sEql f fd) (B : Bl mg) (T : LTx K mg C) (Y : LTy K C) (O : OddC K C) : FnOk P w K mg base CX0 2 f fd ["self", "other"] (spEqA C) := by
  refine F.ok scEql (fun vs H Q E h => ?_) (fun cdv A outer s H vs Q E hr h => ?_)
  · obtain ⟨x, v, cs, r, en, ns, rfl, _⟩ := h
    rfl
  · obtain ⟨x, v, cs, r, en, ns, rfl, ha, L, W, h⟩ := h
    have nd : cs.Nodup := ris_nodup ha.ris
    obtain ⟨dx, pt, pm, pl, fs, h1, h2, h3, h4, h5, h6, ⟨⟨qs, t1, t2⟩, t3⟩, h8, h9⟩ := L.ex
    refine ⟨_, pss_cons (ps_if (pt_not (pt_val (pe_callB call_isi (by rfl) B.isinstance (by decide +kernel) (pa_cons (pv 1) (pa_cons (pe_glob (v := .ref C) rfl T.mgC rfl) pa_nil))))) (pss_one (ps_ret pe_bl)) pss_nil)
      (pss_cons (ps_if (PW.pt (pw_or (pt_cmpR op_ne (pe_fld (pv 0) rfl) (pe_fld (pv 1) rfl) (nomark _)) (pw_or1 (pt_cmpR (op_neD hr.units) (pe_fld (pv 0) rfl) (pe_fld (pv 1) rfl) (nomark _))))) (pss_one (ps_ret pe_bl)) pss_nil)
      (pss_one (ps_ret (pe_cmpR (op_eqRows nd hr.units) (pe_fld (pv 0) rfl) (pe_fld (pv 1) rfl) (nomark _))))), ?_⟩
    rcases h with ⟨T', o, k⟩ | ⟨y, cs2, r2, en2, ns2, rfl, L2', W2, k⟩
    · exact ⟨_, rfl, _, _, _, _, false, rfl, .own C, o.tyx, O.kit o.mem, _, rfl, iteT (k _ (Same.refl _))⟩
    · obtain ⟨dy, pt', pm', pl', fs', g1, g2, g3, g4, g5, g6, ⟨⟨qs', u1, u2⟩, u3⟩, g8, g9⟩ := L2'.ex
      refine ⟨_, rfl, _, _, _, _, true, rfl, .own C, .base (.ins g1 T.cl Y.cls Y.getc Y.tak Y.mro), Y.kit, _, rfl, iteF ?_⟩
      refine ⟨_, rfl, x, C, dx, _, _, rfl, h1, T.cl, T.nS, h2, _, rfl, y, C, dy, _, _, rfl, g1, T.cl, T.nS, g2, rfl, _, rfl, ?_⟩
      by_cases hcs : cs = cs2
      · subst hcs
        rw [show decide (V.str (txt cs) = V.str (txt cs)) = true from decide_eq_true rfl]
        refine ⟨_, rfl, x, C, dx, _, _, rfl, h1, T.cl, T.nM, h4, _, rfl, y, C, dy, _, _, rfl, g1, T.cl, T.nM, g4, endsD en, endsD en2, .tup (SqT.of t3) (dp_map (fun i => .int i) en), .tup (SqT.of u3) (dp_map (fun i => .int i) en2), leaf_ends en, leaf_ends en2, _, rfl, ?_⟩
        rw [eqv_ends]
        by_cases he : en = en2
        · subst he
          rw [decide_eq_true rfl]
          refine iteF ?_
          refine ⟨_, rfl, x, C, dx, _, _, rfl, h1, T.cl, T.nG, h3, _, rfl, y, C, dy, _, _, rfl, g1, T.cl, T.nG, g3, pt, pt', qs, qs', r, r2, rfl, rfl, SqT.of t1, SqT.of u1, t2, u2, fun row hr => (W.row row hr).1, fun row hr => (W2.row row hr).1, ?_⟩
          have := k _ (Same.refl _)
          rwa [show decide (cs = cs ∧ en = en ∧ r = r2) = decide (r = r2) by simp] at this
        · rw [decide_eq_false he]
          refine iteT ?_
          have := k _ (Same.refl _)
          rwa [show decide (cs = cs ∧ en = en2 ∧ r = r2) = false from decide_eq_false fun h => he h.2.1] at this
      · rw [show decide (V.str (txt cs) = V.str (txt cs2)) = false from decide_eq_false fun z => hcs (txt_inj (V.str.inj z))]
        refine iteT ?_
        have := k _ (Same.refl _)
        rwa [show decide (cs = cs2 ∧ en = en2 ∧ r = r2) = false from decide_eq_false fun h => hcs h.1] at this
end
end SG

set_option maxRecDepth 100000
set_option maxHeartbeats 4000000
set_option pp.maxSteps 1500
namespace SS
open PySem L2 SR TL ZA
/-- a method that the class itself has -/
structure OwnF (P : Program) (w : World) (K : PySem.W.Frag) (mg : Str → Option Value) (base : Heap) (C : Addr) (x : Str) (n : Nat) (ps : List Str) (sp : Sp) (f : Addr) (fd : FuncData) : Prop where
  ok : FnG P w K mg base n f fd ps sp
  at_ : PySem.W.findIn K (.ref C) x = some (some (.ref f))
  isf : PySem.W.isFn K (.ref f) = true
  bnd : Binds K fd ps []
/-- == and != of a class -/
structure EqO (P : Program) (w : World) (K : PySem.W.Frag) (mg : Str → Option Value) (base : Heap) (C : Addr) (n : Nat) (ps : List Str) (sp : Sp) (f : Addr) (fd : FuncData) : Prop where
  eq : OwnF P w K mg base C "__eq__" n ps sp f fd
  ne : PySem.W.findIn K (.ref C) "__ne__" = some (some (.builtin "object.__ne__"))
  sub : PySem.W.subIn K (.ref C) (.type "object") = some true
/-- what the walk asks of the class Door -/
structure DTx (K : PySem.W.Frag) (mg : Str → Option Value) (D : Addr) : Prop where
  cl : Cls K D
  nR : NoAttr K D "own_reader"
  nS : NoAttr K D "own_state"
  nB : NoAttr K D "own_behind"
  nL : NoAttr K D "own_language"
  mgD : mg "Door" = some (.ref D)
/-- a door as it lies -/
structure DoorAt (D : Addr) (H : Hp) (g x l : Addr) (q : Int) (S : List Int) : Prop where
  ex : ∃ (dx pb : Addr) (fs : List (Str × V)), H g = some (.ins D dx fs) ∧ fs.lookup ("own_reader" : Str) = some (.ref x) ∧ fs.lookup ("own_state" : Str) = some (.int q) ∧ fs.lookup ("own_behind" : Str) = some (.ref pb) ∧ fs.lookup ("own_language" : Str) = some (.ref l) ∧
    (∀ n : Str, ¬ n = "own_reader" → ¬ n = "own_state" → ¬ n = "own_behind" → ¬ n = "own_language" → fs.lookup n = none) ∧ H pb = some (.tup (S.map .int))
theorem DoorAt.mono {D : Addr} {H H' : Hp} {g x l : Addr} {q : Int} {S : List Int} (e : Same H H') (h : DoorAt D H g x l q S) : DoorAt D H' g x l q S := by
  obtain ⟨dx, pb, fs, h1, h2, h3, h4, h5, h6, h7⟩ := h.ex
  exact ⟨dx, pb, fs, e _ _ h1, h2, h3, h4, h5, h6, e _ _ h7⟩
section
variable {P : Program} {w : World} {K : PySem.W.Frag} {mg : Str → Option Value} {base : Heap}
/-! ### Door.__init__ -/
abbrev sDIn : Stmt := inClass (top 35) 0
abbrev nDIn : List Str := ["self", "reader", "state", "behind", "language"]
abbrev psDIn : List Str := ["self", "reader", "state", "behind", "language"]
theorem scDIn : FnScope nDIn psDIn (defScope sDIn) := ⟨rfl, rfl, rfl, by decide +kernel, rfl, by decide +kernel, by decide +kernel⟩
def spDIn (C D : Addr) : Sp := fun vs H Q _ => ∃ (g dx x a l : Addr) (q : Int) (S : List Int) (rows : List Rw) (ends : List Int) (start : Int), vs = [.ref g, .ref x, .int q, .ref a, .ref l] ∧ H g = some (.ins D dx []) ∧ RdAt C H x rows ends start ∧ rows.length ≤ 12 ∧ 0 ≤ q ∧ q < (rows.length : Int) ∧ S.Nodup ∧ (∀ s ∈ S, 0 ≤ s ∧ s < (rows.length : Int)) ∧ LoT H a (S.map .int) ∧
  ∀ H', (∀ H'' : Hp, (∀ b o, (H b = none ∨ b = g) → H' b = some o → H'' b = some o) → DoorAt D H'' g x l q (sortI S)) → SameB g H H' → Q .non H'
theorem ok_din {f C D : Addr} {fd : FuncData} (F : Fun K "__init__" "Door.__init__" sDIn f fd) (B : Bl mg) (T : DTx K mg D) (Rs : Cal P w K mg base "require_state" 3 psRqs (spRqs C)) (Rz : Cal P w K mg base "require_states" 3 psRqz (spRqz C)) : FnOk P w K mg base CX0 4 f fd psDIn (spDIn C D) := by
  refine F.ok scDIn (fun vs H Q E h => ?_) (fun cdv A outer s H vs Q E hr h => ?_)
  · obtain ⟨g, dx, x, a, l, q, S, rows, ends, start, rfl, _⟩ := h
    rfl
  · obtain ⟨g, dx, x, a, l, q, S, rows, ends, start, rfl, hx, R, h12, q0, q1, nd, rg, hS, k⟩ := h
    have hr3 := hr
    refine ⟨_, pss_cons (ps_expr (pe_cal Rs hr3 (pa_cons (pv 1) (pa_cons (pv 2) pa_nil))))
      (pss_cons (ps_expr (pe_cal Rz hr3 (pa_cons (pv 1) (pa_cons (pv 3) pa_nil))))
      (pss_cons (ps_fld (pv 0) (pv 1) rfl)
      (pss_cons (ps_fld (pv 0) (pv 2) rfl)
      (pss_cons (ps_fld (pv 0) (pe_callTy call_tuple_of (by rfl) B.tuple (by decide +kernel) (pa_cons (pe_callB cr_sortedLT (by rfl) B.sorted (by decide +kernel) (pa_cons (pv 3) pa_nil)) pa_nil)) rfl)
      (pss_one (ps_fld (pv 0) (pv 4) rfl)))))), ?_⟩
    refine ⟨_, rfl, _, rfl, x, q, rows, ends, start, rfl, R, q0, q1, ?_⟩
    refine ⟨_, rfl, _, rfl, x, a, S, rows, ends, start, rfl, R, h12, nd, rg, hS, fun H1 e1 => ?_⟩
    have hx1 := e1 _ _ hx
    refine ⟨_, rfl, _, rfl, g, D, dx, _, rfl, hx1, T.cl, T.nR, (by show 0 < 1000; decide), _, rfl, _, rfl, g, D, dx, _, rfl, upd_same, T.cl, T.nS, (by show 1 < 1000; decide), ?_⟩
    have b2 : SameB g H (upd (upd H1 g (.ins D dx (putF "own_reader" (.ref x) []))) g (.ins D dx (putF "own_state" (.int q) (putF "own_reader" (.ref x) [])))) := ((Same.b e1).trans SameB.upd).trans SameB.upd
    have hx2 : (upd (upd H1 g (.ins D dx (putF "own_reader" (.ref x) []))) g (.ins D dx (putF "own_state" (.int q) (putF "own_reader" (.ref x) [])))) g = _ := upd_same
    generalize (upd (upd H1 g (.ins D dx (putF "own_reader" (.ref x) []))) g (.ins D dx (putF "own_state" (.int q) (putF "own_reader" (.ref x) [])))) = H2 at b2 hx2 ⊢
    have hS2 : LoT H2 a (S.map .int) := by
      rcases hS with h | h
      · exact .inl (b2 _ _ (ne_of h hx (by intro z; cases z)) h)
      · exact .inr (b2 _ _ (ne_of h hx (by intro z; cases z)) h)
    have l64 : S.length < 64 := by
      have := nodup_len _ _ nd rg
      omega
    refine ⟨_, rfl, a, S, rfl, hS2.imp SqL.of SqT.of, l64, fun es p pm so hp => ⟨p, _, rfl, .inl ⟨SqL.of upd_same, fun pt hpt => ?_⟩⟩⟩
    rw [sortI_uniq pm so] at *
    have e3 : Same H2 (upd (upd H2 p (.lst ((sortI S).map .int))) pt (.tup ((sortI S).map .int))) := (same_new hp).trans (same_new hpt)
    have h3 : (upd (upd H2 p (.lst ((sortI S).map .int))) pt (.tup ((sortI S).map .int))) pt = some (.tup ((sortI S).map .int)) := upd_same
    have npt : H2 pt = none := (same_new hp).free hpt
    generalize (upd (upd H2 p (.lst ((sortI S).map .int))) pt (.tup ((sortI S).map .int))) = H3 at e3 h3 ⊢
    have hx3 := e3 _ _ hx2
    refine ⟨_, rfl, g, D, dx, _, rfl, hx3, T.cl, T.nB, (by show 2 < 1000; decide), _, rfl, _, rfl, g, D, dx, _, rfl, upd_same, T.cl, T.nL, (by show 3 < 1000; decide), ?_⟩
    have b3 : SameB g H3 (upd (upd H3 g (.ins D dx (putF "own_behind" (.ref pt) (putF "own_state" (.int q) (putF "own_reader" (.ref x) []))))) g (.ins D dx (putF "own_language" (.ref l) (putF "own_behind" (.ref pt) (putF "own_state" (.int q) (putF "own_reader" (.ref x) [])))))) := SameB.upd.trans SameB.upd
    have hx4 : (upd (upd H3 g (.ins D dx (putF "own_behind" (.ref pt) (putF "own_state" (.int q) (putF "own_reader" (.ref x) []))))) g (.ins D dx (putF "own_language" (.ref l) (putF "own_behind" (.ref pt) (putF "own_state" (.int q) (putF "own_reader" (.ref x) [])))))) g = _ := upd_same
    generalize (upd (upd H3 g (.ins D dx (putF "own_behind" (.ref pt) (putF "own_state" (.int q) (putF "own_reader" (.ref x) []))))) g (.ins D dx (putF "own_language" (.ref l) (putF "own_behind" (.ref pt) (putF "own_state" (.int q) (putF "own_reader" (.ref x) [])))))) = H4 at b3 hx4 ⊢
    have ng : pt ≠ g := ne_of h3 hx3 (by intro z; cases z)
    have nH : H pt = none := freeB b2 ng npt
    refine k H4 (fun H'' ext => ⟨dx, pt, _, ext _ _ (.inr rfl) hx4, ?_, ?_, ?_, lk_eq, fun n n1 n2 n3 n4 => by rw [lk_ne n4, lk_ne n3, lk_ne n2, lk_ne n1]; rfl, ext _ _ (.inl nH) (b3 _ _ ng h3)⟩) ((b2.trans (Same.b e3)).trans b3)
    · rw [lk_ne (by decide +kernel), lk_ne (by decide +kernel), lk_ne (by decide +kernel), lk_eq]
    · rw [lk_ne (by decide +kernel), lk_ne (by decide +kernel), lk_eq]
    · rw [lk_ne (by decide +kernel), lk_eq]
/-! ### reader, state, behind, language -/
abbrev sDRd : Stmt := inClass (top 35) 1
abbrev nDRd : List Str := ["self"]
abbrev psDRd : List Str := ["self"]
theorem scDRd : FnScope nDRd psDRd (defScope sDRd) := ⟨rfl, rfl, rfl, by decide +kernel, rfl, by decide +kernel, by decide +kernel⟩
def spDRd (D : Addr) : Sp := fun vs H Q _ => ∃ (g x l : Addr) (q : Int) (S : List Int), vs = [.ref g] ∧ DoorAt D H g x l q S ∧ Q (.ref x) H
theorem ok_drd {f D : Addr} {fd : FuncData} (F : Fun K "reader" "Door.reader" sDRd f fd) (T : DTx K mg D) : FnOk P w K mg base CX0 1 f fd psDRd (spDRd D) := by
  refine F.ok scDRd (fun vs H Q E h => ?_) (fun cdv A outer s H vs Q E hr h => ?_)
  · obtain ⟨g, x, l, q, S, rfl, _⟩ := h
    rfl
  · obtain ⟨g, x, l, q, S, rfl, G, k⟩ := h
    obtain ⟨dx, pb, fs, h1, h2, h3, h4, h5, h6, h7⟩ := G.ex
    exact ⟨_, pss_one (ps_ret (pe_fld (pv 0) rfl)), _, rfl, g, D, dx, _, _, rfl, h1, T.cl, T.nR, h2, k⟩
abbrev sDSt : Stmt := inClass (top 35) 2
abbrev nDSt : List Str := ["self"]
abbrev psDSt : List Str := ["self"]
theorem scDSt : FnScope nDSt psDSt (defScope sDSt) := ⟨rfl, rfl, rfl, by decide +kernel, rfl, by decide +kernel, by decide +kernel⟩
def spDSt (D : Addr) : Sp := fun vs H Q _ => ∃ (g x l : Addr) (q : Int) (S : List Int), vs = [.ref g] ∧ DoorAt D H g x l q S ∧ Q (.int q) H
theorem ok_dst {f D : Addr} {fd : FuncData} (F : Fun K "state" "Door.state" sDSt f fd) (T : DTx K mg D) : FnOk P w K mg base CX0 1 f fd psDSt (spDSt D) := by
  refine F.ok scDSt (fun vs H Q E h => ?_) (fun cdv A outer s H vs Q E hr h => ?_)
  · obtain ⟨g, x, l, q, S, rfl, _⟩ := h
    rfl
  · obtain ⟨g, x, l, q, S, rfl, G, k⟩ := h
    obtain ⟨dx, pb, fs, h1, h2, h3, h4, h5, h6, h7⟩ := G.ex
    exact ⟨_, pss_one (ps_ret (pe_fld (pv 0) rfl)), _, rfl, g, D, dx, _, _, rfl, h1, T.cl, T.nS, h3, k⟩
abbrev sDBe : Stmt := inClass (top 35) 3
abbrev nDBe : List Str := ["self"]
abbrev psDBe : List Str := ["self"]
theorem scDBe : FnScope nDBe psDBe (defScope sDBe) := ⟨rfl, rfl, rfl, by decide +kernel, rfl, by decide +kernel, by decide +kernel⟩
def spDBe (D : Addr) : Sp := fun vs H Q _ => ∃ (g x l : Addr) (q : Int) (S : List Int), vs = [.ref g] ∧ DoorAt D H g x l q S ∧ ∀ pb, H pb = some (.tup (S.map .int)) → Q (.ref pb) H
theorem ok_dbe {f D : Addr} {fd : FuncData} (F : Fun K "behind" "Door.behind" sDBe f fd) (T : DTx K mg D) : FnOk P w K mg base CX0 1 f fd psDBe (spDBe D) := by
  refine F.ok scDBe (fun vs H Q E h => ?_) (fun cdv A outer s H vs Q E hr h => ?_)
  · obtain ⟨g, x, l, q, S, rfl, _⟩ := h
    rfl
  · obtain ⟨g, x, l, q, S, rfl, G, k⟩ := h
    obtain ⟨dx, pb, fs, h1, h2, h3, h4, h5, h6, h7⟩ := G.ex
    exact ⟨_, pss_one (ps_ret (pe_fld (pv 0) rfl)), _, rfl, g, D, dx, _, _, rfl, h1, T.cl, T.nB, h4, k pb h7⟩
abbrev sDLg : Stmt := inClass (top 35) 4
abbrev nDLg : List Str := ["self"]
abbrev psDLg : List Str := ["self"]
theorem scDLg : FnScope nDLg psDLg (defScope sDLg) := ⟨rfl, rfl, rfl, by decide +kernel, rfl, by decide +kernel, by decide +kernel⟩
def spDLg (D : Addr) : Sp := fun vs H Q _ => ∃ (g x l : Addr) (q : Int) (S : List Int), vs = [.ref g] ∧ DoorAt D H g x l q S ∧ Q (.ref l) H
theorem ok_dlg {f D : Addr} {fd : FuncData} (F : Fun K "language" "Door.language" sDLg f fd) (T : DTx K mg D) : FnOk P w K mg base CX0 1 f fd psDLg (spDLg D) := by
  refine F.ok scDLg (fun vs H Q E h => ?_) (fun cdv A outer s H vs Q E hr h => ?_)
  · obtain ⟨g, x, l, q, S, rfl, _⟩ := h
    rfl
  · obtain ⟨g, x, l, q, S, rfl, G, k⟩ := h
    obtain ⟨dx, pb, fs, h1, h2, h3, h4, h5, h6, h7⟩ := G.ex
    exact ⟨_, pss_one (ps_ret (pe_fld (pv 0) rfl)), _, rfl, g, D, dx, _, _, rfl, h1, T.cl, T.nL, h5, k⟩
/-! ### Door.__eq__ -/
abbrev sDEq : Stmt := inClass (top 35) 5
abbrev nDEq : List Str := ["self", "other"]
abbrev psDEq : List Str := ["self", "other"]
theorem scDEq : FnScope nDEq psDEq (defScope sDEq) := ⟨rfl, rfl, rfl, by decide +kernel, rfl, by decide +kernel, by decide +kernel⟩
/-- a door with all that its == reads -/
structure DoorF (C L D : Addr) (H : Hp) (g : Addr) (q : Int) (S : List Int) (R : List Rw) (E : List Int) (n : Int) (cs : List Nat) (r : List (List Int)) (en : List Int) : Prop where
  ex : ∃ x l ns, DoorAt D H g x l q S ∧ RdAt C H x R E n ∧ SG.LangR L H l cs r en ns
  ri : ∀ row ∈ R, Ris row
  ab : Abc cs
  wf : SG.WfM cs r en
theorem DoorF.mono {C L D : Addr} {H H' : Hp} {g : Addr} {q : Int} {S : List Int} {R : List Rw} {E : List Int} {n : Int} {cs : List Nat} {r : List (List Int)} {en : List Int} (e : Same H H') (h : DoorF C L D H g q S R E n cs r en) : DoorF C L D H' g q S R E n cs r en := by
  obtain ⟨x, l, ns, h1, h2, h3⟩ := h.ex
  exact ⟨⟨x, l, ns, h1.mono e, h2.mono e, h3.mono e⟩, h.ri, h.ab, h.wf⟩
def spDEq (C L D : Addr) : Sp := fun vs H Q _ => ∃ (g : Addr) (v : V) (q : Int) (S : List Int) (R : List Rw) (E : List Int) (n : Int) (cs : List Nat) (r : List (List Int)) (en : List Int), vs = [.ref g, v] ∧ DoorF C L D H g q S R E n cs r en ∧
  ((∃ T, SR.Odd H v T ∧ ∀ H', Same H H' → Q (.bl false) H') ∨ ∃ (g2 : Addr) (q2 : Int) (S2 : List Int) (R2 : List Rw) (E2 : List Int) (n2 : Int) (cs2 : List Nat) (r2 : List (List Int)) (en2 : List Int), v = .ref g2 ∧ DoorF C L D H g2 q2 S2 R2 E2 n2 cs2 r2 en2 ∧
    ∀ H', Same H H' → Q (.bl (decide ((q = q2 ∧ S = S2) ∧ (R = R2 ∧ E = E2 ∧ n = n2) ∧ (cs = cs2 ∧ en = en2 ∧ r = r2)))) H')
theorem ok_deq {f C L D fr fl : Addr} {fd fdr fdl : FuncData} (F : Fun K "__eq__" "Door.__eq__" sDEq f fd) (B : Bl mg) (T : DTx K mg D) (Y : RTy K D) (O : OddC K D) (Er : OwnF P w K mg base C "__eq__" 2 psEql (spEql C) fr fdr) (El : OwnF P w K mg base L "__eq__" 2 ["self", "other"] (SG.spEqA L) fl fdl) : FnG P w K mg base 3 f fd psDEq (spDEq C L D) := by
  refine okG F scDEq (fun vs H Q E h => ?_) (fun cdv A outer s H vs Q E hr hgd h => ?_)
  · obtain ⟨g, v, q, S, R, E', n, cs, r, en, rfl, _⟩ := h
    rfl
  · obtain ⟨g, v, q, S, R, E', n, cs, r, en, rfl, G, h⟩ := h
    have hr2 := hr
    refine ⟨_, pss_cons (ps_if (pt_not (pt_val (pe_callB call_isi (by rfl) B.isinstance (by decide +kernel) (pa_cons (pv 1) (pa_cons (pe_glob (v := .ref D) rfl T.mgD rfl) pa_nil)))))
        (pss_one (ps_ret pe_bl)) pss_nil)
      (pss_cons (ps_if (PW.pt (pw_or (pt_cmpR op_ne (pe_fld (pv 0) rfl) (pe_fld (pv 1) rfl) (nomark _)) (pw_or1 (pt_cmpR (op_neD hr.units) (pe_fld (pv 0) rfl) (pe_fld (pv 1) rfl) (nomark _)))))
        (pss_one (ps_ret pe_bl)) pss_nil)
      (pss_one (ps_ret (pe_and (pe_cmpR (op_eqOwn Er.ok hr2 hgd Er.at_ Er.isf Er.bnd) (pe_fld (pv 0) rfl) (pe_fld (pv 1) rfl) (nomark _)) (pe_one (pe_cmpR (op_eqOwn El.ok hr2 hgd El.at_ El.isf El.bnd) (pe_fld (pv 0) rfl) (pe_fld (pv 1) rfl) (nomark _))))))), ?_⟩
    obtain ⟨x, l, ns, G1, R1, L1⟩ := G.ex
    obtain ⟨dx, pb, fs, h1, h2, h3, h4, h5, h6, h7⟩ := G1.ex
    rcases h with ⟨T', o, k⟩ | ⟨g2, q2, S2, R2, E2, n2, cs2, r2, en2, rfl, G', k⟩
    · exact ⟨_, rfl, _, _, _, _, false, rfl, .own D, o.tyx, O.kit o.mem, _, rfl, iteT (k _ (Same.refl _))⟩
    · obtain ⟨x2, l2, ns2, G2, R2', L2'⟩ := G'.ex
      obtain ⟨dy, pb2, gs, g1, g2', g3, g4, g5, g6, g7⟩ := G2.ex
      refine ⟨_, rfl, _, _, _, _, true, rfl, .own D, .base (.ins g1 T.cl Y.cls Y.getc Y.tak Y.mro), RTy.kit K D, _, rfl, iteF ?_⟩
      refine ⟨_, rfl, g, D, dx, _, _, rfl, h1, T.cl, T.nS, h3, _, rfl, g2, D, dy, _, _, rfl, g1, T.cl, T.nS, g3, rfl, _, rfl, ?_⟩
      have di : decide (V.int q = V.int q2) = decide (q = q2) := decide_eq_decide.mpr ⟨fun h => V.int.inj h, fun h => by rw [h]⟩
      rw [di]
      by_cases hq : q = q2
      · rw [decide_eq_true hq]
        refine ⟨_, rfl, g, D, dx, _, _, rfl, h1, T.cl, T.nB, h4, _, rfl, g2, D, dy, _, _, rfl, g1, T.cl, T.nB, g4, SG.endsD S, SG.endsD S2, .tup (SqT.of h7) (dp_map (fun i => .int i) S), .tup (SqT.of g7) (dp_map (fun i => .int i) S2), SG.leaf_ends S, SG.leaf_ends S2, _, rfl, ?_⟩
        rw [SG.eqv_ends]
        by_cases hs : S = S2
        · rw [decide_eq_true hs]
          refine iteF ?_
          obtain ⟨ex, _, _, fx, _, rx, _⟩ := id R1.ex
          obtain ⟨ey, _, _, fy, _, ry, _⟩ := id R2'.ex
          obtain ⟨zx, _, _, _, hx, zx1, _⟩ := id L1.ex
          obtain ⟨zy, _, _, _, hy, zy1, _⟩ := id L2'.ex
          refine ⟨_, rfl, g, D, dx, _, _, rfl, h1, T.cl, T.nR, h2, _, rfl, g2, D, dy, _, _, rfl, g1, T.cl, T.nR, g2', x, x2, ex, ey, fx, fy, rfl, rfl, rx, ry, .inl ⟨x, x2, _, _, _, _, _, _, rfl, R1, R2', G.ri, G'.ri, fun H1 e1 => ⟨_, rfl, ?_⟩⟩⟩
          refine ⟨_, rfl, ?_⟩
          by_cases hR : R = R2 ∧ E' = E2 ∧ n = n2
          · rw [decide_eq_true hR]
            refine ⟨_, rfl, g, D, dx, _, _, rfl, e1 _ _ h1, T.cl, T.nL, h5, _, rfl, g2, D, dy, _, _, rfl, e1 _ _ g1, T.cl, T.nL, g5, l, l2, zx, zy, hx, hy, rfl, rfl, e1 _ _ zx1, e1 _ _ zy1, l, .ref l2, cs, r, en, ns, rfl, G.ab, L1.mono e1, G.wf, .inr ⟨l2, cs2, r2, en2, ns2, rfl, L2'.mono e1, G'.wf, fun H2 e2 => ⟨_, rfl, ?_⟩⟩⟩
            have := k _ (e1.trans e2)
            rwa [show decide ((q = q2 ∧ S = S2) ∧ (R = R2 ∧ E' = E2 ∧ n = n2) ∧ (cs = cs2 ∧ en = en2 ∧ r = r2)) = decide (cs = cs2 ∧ en = en2 ∧ r = r2) from decide_eq_decide.mpr ⟨fun h => h.2.2, fun h => ⟨⟨hq, hs⟩, hR, h⟩⟩] at this
          · rw [decide_eq_false hR]
            have := k _ e1
            rwa [decide_eq_false (fun h => hR h.2.1)] at this
        · rw [decide_eq_false hs]
          have := k _ (Same.refl _)
          rw [decide_eq_false (fun h => hs h.1.2)] at this
          exact iteT this
      · rw [decide_eq_false hq]
        have := k _ (Same.refl _)
        rw [decide_eq_false (fun h => hq h.1.1)] at this
        exact iteT this
end
end SS

set_option maxRecDepth 100000
set_option maxHeartbeats 4000000
set_option pp.maxSteps 1500
namespace SS
open PySem L2 SR TL ZA
/-- for sign, (goal, told) in d.items() -/
theorem items_for {K : PySem.W.Frag} {te : TE} {g i j : Nat} {tb : TS} {D : Ends} {σ : St} {H : Hp} {q : Addr} {kvs : List (Key × V)} {row : Rw} (hq : H q = some (.dK kvs)) (pr : Paired (EntAt H) kvs row)
    (ht : ∀ (od : Obj) (R : V → Hp → Prop), R (.ref q) (upd H q (.frz od (.dK kvs))) → te σ (upd H q (.frz od (.dK kvs))) R) (Z : Addr → Prop) (zq : Z q) (zt : ∀ p xs, H p = some (.tup xs) → ¬ Z p) (Pv : Nat → St → Hp → Prop) (hP : ∀ n σ' HL HL', Same HL HL' → Pv n σ' HL → Pv n σ' HL') (h0 : ∀ od, Pv 0 σ (upd H q (.frz od (.dK kvs))))
    (hs : ∀ (od : Obj) (n : Nat) (e : Nat × Mv) (σ' : St) (HL : Hp), row[n]? = some e → SN Z H HL → HL q = some (.frz od (.dK kvs)) → Pv n σ' HL →
      tb { nx := fun σ2 H2 => SN Z H H2 ∧ H2 q = some (.frz od (.dK kvs)) ∧ Pv (n + 1) σ2 H2, rt := fun v H' => H' q = some (.frz od (.dK kvs)) ∧ D.rt v (upd H' q (.dK kvs)), bk := fun σ' H' => H' q = some (.frz od (.dK kvs)) ∧ D.nx σ' (upd H' q (.dK kvs)), ct := fun σ2 H2 => SN Z H H2 ∧ H2 q = some (.frz od (.dK kvs)) ∧ Pv (n + 1) σ2 H2 } (((σ'.set g (some (ltV e.1))).set i (some (.int e.2.1))).set j (some (tellV e.2.2))) HL)
    (hd : ∀ (od : Obj) (σ' : St) (HL : Hp), SN Z H HL → HL q = some (.frz od (.dK kvs)) → Pv row.length σ' HL → D.nx σ' (upd HL q (.dK kvs))) :
    tLock (tFor (iItems te) (gTup K 2 (gCons (gName g) (gCons (gTup K 2 (gCons (gName i) (gCons (gName j) gNil))) gNil))) tb) D σ H := by
  have hkl : kvs.length = row.length := Paired.length pr
  refine ⟨q, _, hq, trivial, fun od => ht od _ ⟨q, od, kvs, rfl, upd_same, ?_⟩⟩
  refine for_it (walk_items (d := q) (o := od) (kvs := kvs)) (fun n σ' HL => SN Z H HL ∧ HL q = some (.frz od (.dK kvs)) ∧ Pv n σ' HL) ⟨SN.refl.upd zq, upd_same, h0 od⟩ (fun _ _ _ _ p => p.2.1) ?_ ?_
  · rintro n v σ' HL HL' hn ⟨e1, e2, p⟩ ⟨T, x, y, rfl, hT, rfl, ex, ey⟩
    obtain ⟨e, he⟩ : ∃ e, row[n]? = some e := ⟨_, List.getElem?_eq_getElem (by omega)⟩
    have hkn : n < kvs.length := by omega
    have ekv : kvs[n]? = some kvs[n] := List.getElem?_eq_getElem hkn
    have hkk : kvs[n]? = some ((kvs[n]).1, (kvs[n]).2) := ekv
    obtain ⟨p1, p2, p3, p4⟩ := paired_at pr hkk he
    dsimp only at ex ey
    rw [ekv] at ex ey
    have ex' : x = kV (Sum.inr (lt e.1)) := by
      have := (Option.some.inj ex).symm
      rw [this]
      exact congrArg kV p1
    have ey' : y = .ref p2 := by
      have := (Option.some.inj ey).symm
      rw [this]
      exact p3
    subst ex' ey'
    have e4 : Same HL (upd HL T (.tup [kV (Sum.inr (lt e.1)), .ref p2])) := same_new hT
    have m2 : MvAt HL p2 e.2 := e1 _ _ (zt _ _ p4) p4
    exact ⟨T, _, rfl, SqT.of upd_same, rfl, _, _, rfl, _, _, rfl, ⟨p2, _, rfl, SqT.of (e4 _ _ m2), rfl, _, _, rfl, _, _, rfl, rfl, rfl, hs od n e σ' _ he (e1.new hT) (e4 _ _ e2) (hP _ _ _ _ e4 p)⟩⟩
  · rintro σ' HL ⟨e1, e2, p⟩
    rw [hkl] at p
    exact ⟨e2, hd od σ' HL e1 e2 p⟩
/-! ### the law's own sets -/
structure Tl (rows : List Rw) (S : List Int) (k : Nat) (fd0 : List Int) (i j : Nat) (fd : List Int) : Prop where
  nd : fd.Nodup
  rg : ∀ q ∈ fd, 0 ≤ q ∧ q < (rows.length : Int)
  rc : ∀ t ∈ fd, ∃ s ∈ S, Star (SilE rows) s t
  sub : ∀ t ∈ fd0, t ∈ fd
  w0 : ∀ t, Within (SilE rows) (· ∈ S) k t → t ∈ fd0
  cl : ∀ i' q, i' < i → fd0[i']? = some q → ∀ t, SilE rows q t → t ∈ fd
  cj : ∀ q, fd0[i]? = some q → ∀ e ∈ (rowAt rows q).take j, e.2.2 = none → e.2.1 ∈ fd
theorem Tl.start {rows : List Rw} {S fd : List Int} {k n m : Nat} {fd0 : List Int} (h : Tl rows S k fd0 fd0.length m fd) (hn : n = k + 1) : Tl rows S n fd 0 0 fd :=
  ⟨h.nd, h.rg, h.rc, fun _ h => h, fun t ht => by
    subst hn
    rcases ht with ht | ⟨s, hs, e⟩
    · exact h.sub _ (h.w0 _ ht)
    · obtain ⟨i, hi⟩ := List.mem_iff_getElem?.mp (h.w0 _ hs)
      exact h.cl i s (List.getElem?_eq_some_iff.mp hi).1 hi t e, fun _ _ hi => absurd hi (Nat.not_lt_zero _), fun q _ e he => by rw [List.take_zero] at he; cases he⟩
theorem Tl.first {rows : List Rw} {S fd : List Int} (nd : fd.Nodup) (rg : ∀ q ∈ fd, 0 ≤ q ∧ q < (rows.length : Int)) (m : ∀ t, t ∈ fd ↔ t ∈ S) : Tl rows S 0 fd 0 0 fd :=
  ⟨nd, rg, fun t ht => ⟨t, (m t).mp ht, .refl t⟩, fun _ h => h, fun t ht => (m t).mpr ht, fun _ _ hi => absurd hi (Nat.not_lt_zero _), fun q _ e he => by rw [List.take_zero] at he; cases he⟩
theorem Tl.skip {rows : List Rw} {S fd fd0 : List Int} {k i j : Nat} {q : Int} {e : Nat × Mv} (h : Tl rows S k fd0 i j fd) (hq : fd0[i]? = some q) (he : (rowAt rows q)[j]? = some e) (hm : e.2.2 = none → e.2.1 ∈ fd) : Tl rows S k fd0 i (j + 1) fd :=
  ⟨h.nd, h.rg, h.rc, h.sub, h.w0, h.cl, fun p hp e' he' hn => by
    rw [hq] at hp
    cases hp
    rw [List.take_add_one, he] at he'
    rcases List.mem_append.mp he' with z | z
    · exact h.cj q hq e' z hn
    · have : e' = e := by simpa using z
      rw [this] at hn ⊢
      exact hm hn⟩
theorem Tl.add {rows : List Rw} {S fd fd0 : List Int} {k i j : Nat} {q : Int} {e : Nat × Mv} (g : Good rows) (h : Tl rows S k fd0 i j fd) (hq : fd0[i]? = some q) (he : (rowAt rows q)[j]? = some e) (h2 : e.2.2 = none) (hm : e.2.1 ∉ fd) : Tl rows S k fd0 i (j + 1) (fd ++ [e.2.1]) := by
  have hs : SilE rows q e.2.1 := ⟨e, List.mem_of_getElem? he, rfl, h2⟩
  refine ⟨?_, ?_, ?_, fun t ht => List.mem_append_left _ (h.sub t ht), h.w0, fun i' p hi hp t ht => List.mem_append_left _ (h.cl i' p hi hp t ht), fun p hp e' he' hn => ?_⟩
  · rw [List.nodup_append]
    exact ⟨h.nd, List.pairwise_singleton _ _, fun a ha b hb z => hm (by rw [← List.mem_singleton.mp hb, ← z]; exact ha)⟩
  · intro p hp
    rcases List.mem_append.mp hp with z | z
    · exact h.rg p z
    · rw [List.mem_singleton.mp z]
      exact g.rg hs
  · intro t ht
    rcases List.mem_append.mp ht with z | z
    · exact h.rc t z
    · rw [List.mem_singleton.mp z]
      obtain ⟨s, h1, h3⟩ := h.rc q (h.sub q (List.mem_of_getElem? hq))
      exact ⟨s, h1, h3.step hs⟩
  · rw [hq] at hp
    cases hp
    rw [List.take_add_one, he] at he'
    rcases List.mem_append.mp he' with z | z
    · exact List.mem_append_left _ (h.cj q hq e' z hn)
    · have : e' = e := by simpa using z
      rw [this]
      exact List.mem_append_right _ (List.mem_singleton_self _)
theorem Tl.next {rows : List Rw} {S fd fd0 : List Int} {k i : Nat} {q : Int} (hq : fd0[i]? = some q) (h : Tl rows S k fd0 i (rowAt rows q).length fd) : Tl rows S k fd0 (i + 1) 0 fd :=
  ⟨h.nd, h.rg, h.rc, h.sub, h.w0, fun i' p hi hp t ht => by
    by_cases z : i' = i
    · subst z
      rw [hq] at hp
      cases hp
      obtain ⟨e, he, rfl, h2⟩ := ht
      exact h.cj q hq e (by rw [List.take_length]; exact he) h2
    · exact h.cl i' p (by omega) hp t ht, fun q _ e he => by rw [List.take_zero] at he; cases he⟩
theorem Tl.done {rows : List Rw} {S fd fd0 : List Int} {i j : Nat} (g : Good rows) (hS : ∀ s ∈ S, 0 ≤ s ∧ s < (rows.length : Int)) (h : Tl rows S rows.length fd0 i j fd) : sortI fd = silL rows S := by
  refine those_uniq (asc_of (sortI_ord fd) ((sortI_perm fd).nodup_iff.mpr h.nd)) fun t => ?_
  rw [(sortI_perm fd).mem_iff]
  constructor
  · exact fun ht => ⟨h.rg t ht, h.rc t ht⟩
  · rintro ⟨_, s, hs, st⟩
    exact h.sub _ (h.w0 _ (within_n (n := rows.length) hS (fun a b _ _ e => g.rg e) ⟨s, hs, st⟩))
theorem RwsL.rows {H : Hp} {a : Addr} {rows : List Rw} (h : RwsL H a rows) : ∃ xs : List V, H a = some (.lst xs) ∧ xs.length = rows.length := by
  obtain ⟨qs, h1, h2⟩ := h
  exact ⟨_, h1, by rw [List.length_map]; exact Paired.length h2⟩
section
variable {P : Program} {w : World} {K : PySem.W.Frag} {mg : Str → Option Value} {base : Heap}
/-! ### _law_silent -/
abbrev sLSi : Stmt := top 64
abbrev nLSi : List Str := ["_law_rows", "_law_some", "_law_found", "_law_turn", "_law_spot", "_law_letter", "_law_goal", "_law_told"]
abbrev psLSi : List Str := ["_law_rows", "_law_some"]
theorem scLSi : FnScope nLSi psLSi (defScope sLSi) := ⟨rfl, rfl, rfl, by decide +kernel, rfl, by decide +kernel, by decide +kernel⟩
def spLSi (K : PySem.W.Frag) : Sp := fun vs H Q _ => ∃ (a b : Addr) (S : List Int) (rows : List Rw), vs = [.ref a, .ref b] ∧ RwsL H a rows ∧ Good rows ∧ rows.length ≤ 12 ∧ S.Nodup ∧ (∀ s ∈ S, 0 ≤ s ∧ s < (rows.length : Int)) ∧ LoT H b (S.map .int) ∧
  ∀ (p : Addr) (H' : Hp), H p = none → Same H H' → H' p = some (.lst ((silL rows S).map .int)) → Q (.ref p) H'
theorem ok_lsi {f : Addr} {fd : FuncData} (F : Fun K "_law_silent" "_law_silent" sLSi f fd) (B : Bl mg) : FnOk P w K mg base CX0 1 f fd psLSi (spLSi K) := by
  refine F.ok scLSi (fun vs H Q E h => ?_) (fun cdv A outer s H vs Q E hr h => ?_)
  · obtain ⟨a, b, S, rows, rfl, _⟩ := h
    rfl
  · obtain ⟨a, b, S, rows, rfl, RL, G, h12, nd, rg, hS, k⟩ := h
    refine ⟨_, pss_cons (ps_set (i := 2) scLSi.nd rfl (.inl rfl) (pe_callB cr_sortedLT (by rfl) B.sorted (by decide +kernel) (pa_cons (pv 1) pa_nil)))
      (pss_cons (ps_for PassesOwn.never rfl (pi_range1 (by rfl) B.range (pa_cons (pe_callB call_len_seq (by rfl) B.len boot_len (pa_cons (pv 0) pa_nil)) pa_nil)) (pg_name (i := 3) scLSi.nd rfl (.inl rfl))
        (pss_one (ps_for PassesOwn.never rfl (pi_list (pe_callTy call_list_of (by rfl) B.list (by decide +kernel) (pa_cons (pv 2) pa_nil))) (pg_name (i := 4) scLSi.nd rfl (.inl rfl))
        (pss_one (ps_lock (ps_for PassesOwn.never rfl (pi_items (pe_ix ix_list (pv 0) (pv 4) (fun _ _ => rfl))) (pg_tup rfl (pgs_cons (pg_name (i := 5) scLSi.nd rfl (.inl rfl)) (pgs_cons (pg_tup rfl (pgs_cons (pg_name (i := 6) scLSi.nd rfl (.inl rfl)) (pgs_cons (pg_name (i := 7) scLSi.nd rfl (.inl rfl)) pgs_nil))) pgs_nil)))
        (pss_one (ps_if (PW.pt (pw_and (pt_cmpR op_isN (pv 7) pe_non (nomark _)) (pw_and1 (pt_cmpR op_notIn_seq (pv 6) (pv 2) (by rfl)))))
        (pss_one (ps_expr (pe_bm PySem.F.plainAttrs_list PySem.F.slot_list_append PySem.F.type_list_append mt_append (pv 2) (pa_cons (pv 6) pa_nil)))) pss_nil))))))))
      (pss_one (ps_ret (pe_callB cr_sortedLT (by rfl) B.sorted (by decide +kernel) (pa_cons (pv 2) pa_nil))))), ?_⟩
    have l64 : S.length < 64 := by
      have := nodup_len _ _ nd rg
      omega
    refine ⟨_, rfl, b, S, rfl, hS.imp SqL.of SqT.of, l64, fun es p pm so hp => ?_⟩
    have e1 : Same H (upd H p (.lst (es.map .int))) := same_new hp
    have h1 := upd_same (H := H) (a := p) (o := .lst (es.map .int))
    generalize (upd H p (.lst (es.map .int))) = H1 at e1 h1 ⊢
    obtain ⟨xs, r1, r2⟩ := (RL.mono e1).rows
    refine ⟨_, rfl, a, _, rfl, .inl (SqL.of r1), _, rfl, by omega, by omega, ?_⟩
    rw [r2, Int.toNat_natCast]
    refine for_it (walk_range (lo := 0) (n := rows.length)) (fun k σ H' => Same H H' ∧ ∃ (fd : List Int) (a3 a4 a5 a6 a7 : Option V), σ = [some (.ref a), some (.ref b), some (.ref p), a3, a4, a5, a6, a7] ∧ H' p = some (.lst (fd.map .int)) ∧ Tl rows S k fd 0 0 fd) ⟨e1, es, none, none, none, none, none, rfl, h1, Tl.first (pm.nodup_iff.mpr nd) (fun q hq => rg q (pm.mem_iff.mp hq)) fun t => pm.mem_iff⟩ (fun _ _ _ _ _ => trivial) ?_ ?_
    · rintro n v σ H2 H2' hn ⟨e2, fd, a3, a4, a5, a6, a7, rfl, h2, R⟩ ⟨rfl, rfl⟩
      refine ⟨_, rfl, p, _, rfl, .inl (SqL.of h2), fun l hl => ?_⟩
      have e3 : Same H2' (upd H2' l (.lst (fd.map .int))) := same_new hl
      have h3 := upd_same (H := H2') (a := l) (o := .lst (fd.map .int))
      have h3p := e3 _ _ h2
      have nlp : l ≠ p := fun z => by rw [z, h2] at hl; cases hl
      generalize (upd H2' l (.lst (fd.map .int))) = H3 at e3 h3 h3p ⊢
      have eH3 := e2.trans e3
      refine ⟨l, rfl, ⟨_, SqL.of h3⟩, for_it (walk_list (K := K) (a := l) (xs := fd.map V.int)) (fun i σ H' => Same H H' ∧ H' l = some (.lst (fd.map .int)) ∧ ∃ (fx : List Int) (a3 a4 a5 a6 a7 : Option V), σ = [some (.ref a), some (.ref b), some (.ref p), a3, a4, a5, a6, a7] ∧ H' p = some (.lst (fx.map .int)) ∧ Tl rows S n fd i 0 fx) ⟨eH3, h3, fd, _, _, _, _, _, rfl, h3p, R⟩ (fun i σ H' _ q => SqL.of q.2.1) ?_ ?_⟩
      · rintro i v σ H4 H4' hi ⟨e4, hl4, fx, b3, b4, b5, b6, b7, rfl, h4, R4⟩ ⟨rfl, hv⟩
        rw [List.getElem?_map] at hv
        obtain ⟨q, hq, rfl⟩ := Option.map_eq_some_iff.mp hv
        obtain ⟨q0, q1⟩ := R.rg q (List.mem_of_getElem? hq)
        obtain ⟨ys, d, kvs, y1, y2, k1, k2⟩ := (RL.mono e4).get q0 q1
        refine items_for k1 k2 (fun od R' hR' => ?_) (fun b => b = d ∨ b = p) (.inl rfl) (fun p' xs hp' z => ?_) (fun m σ' HL => ∃ (fx : List Int) (a3 a5 a6 a7 : Option V), σ' = [some (.ref a), some (.ref b), some (.ref p), a3, some (.int q), a5, a6, a7] ∧ HL p = some (.lst (fx.map .int)) ∧ HL l = some (.lst (fd.map .int)) ∧ Tl rows S n fd i m fx) (fun m σ' HL HL' es' ⟨fx, a3, a5, a6, a7, z1, z2, z3, z4⟩ => ⟨fx, a3, a5, a6, a7, z1, es' _ _ z2, es' _ _ z3, z4⟩) (fun od => ?_) ?_ ?_
        · exact ⟨_, rfl, _, rfl, a, _, _, .ref d, rfl, rfl, SqL.of (lock_get k1 y1 (by intro z; cases z)), y2, hR'⟩
        · rcases z with rfl | rfl
          · rw [k1] at hp'; cases hp'
          · rw [h4] at hp'; cases hp'
        · exact ⟨fx, _, _, _, _, rfl, lock_get k1 h4 (by intro z; cases z), lock_get k1 hl4 (by intro z; cases z), R4⟩
        · rintro od m e σ' HL he e5 hz ⟨fy, c3, c5, c6, c7, rfl, hp5, hl5, R5⟩
          have hlen2 : fy.length ≤ rows.length := nodup_len _ _ R5.nd R5.rg
          refine ⟨_, rfl, rfl, _, rfl, ?_⟩
          rw [tell_non]
          cases ho : e.2.2 with
          | some z => exact iteF ⟨e5, hz, fy, _, _, _, _, rfl, hp5, hl5, R5.skip hq he (fun z => by rw [ho] at z; cases z)⟩
          | none =>
            refine iteT ⟨_, rfl, _, rfl, p, _, rfl, .inl (SqL.of hp5), rfl, flat_ints _, _, rfl, ?_⟩
            rw [inV_ints]
            by_cases hm : e.2.1 ∈ fy
            · rw [decide_eq_true hm]
              exact iteF ⟨e5, hz, fy, _, _, _, _, rfl, hp5, hl5, R5.skip hq he (fun _ => hm)⟩
            · rw [decide_eq_false hm]
              have nlq : d ≠ p := fun z => by rw [z, hp5] at hz; cases hz
              refine iteT ⟨_, rfl, .inl ⟨rfl, _, SqL.of hp5⟩, _, rfl, p, _, _, rfl, rfl, hp5, (by rw [List.length_map, sizeLine_eq]; omega), ?_⟩
              exact ⟨e5.upd (.inr rfl), by rw [upd_ne nlq]; exact hz, fy ++ [e.2.1], _, _, _, _, rfl, by rw [upd_same, List.map_append]; rfl, by rw [upd_ne nlp]; exact hl5, R5.add G hq he ho hm⟩
        · rintro od σ' HL e5 hz ⟨fy, c3, c5, c6, c7, rfl, hp5, hl5, R5⟩
          have nq : p ≠ d := fun z => by rw [← z, hp5] at hz; cases hz
          have nq2 : l ≠ d := fun z => by rw [← z, hl5] at hz; cases hz
          exact ⟨e5.back e4 hp k1, by rw [upd_ne nq2]; exact hl5, fy, _, _, _, _, _, rfl, by rw [upd_ne nq]; exact hp5, R5.next hq⟩
      · rintro σ H4 ⟨e4, hl4, fx, b3, b4, b5, b6, b7, rfl, h4, R4⟩
        rw [List.length_map] at R4
        exact ⟨e4, fx, _, _, _, _, _, rfl, h4, R4.start rfl⟩
    · rintro σ H2 ⟨e2, fd, a3, a4, a5, a6, a7, rfl, h2, R⟩
      have hlen2 : fd.length ≤ rows.length := nodup_len _ _ R.nd R.rg
      refine ⟨_, rfl, p, fd, rfl, .inl (SqL.of h2), by omega, fun fd' p' pm so hp' => ?_⟩
      rw [sortI_uniq pm so, R.done G rg]
      exact k p' _ (e2.free hp') (e2.trans (same_new hp')) upd_same
end
end SS

set_option maxRecDepth 100000
set_option maxHeartbeats 4000000
namespace SR
open PySem PySem.Spec PyProof.Rows L2
open PySem.SeqAt
section
variable {prog : Program} {w : World} {A : Around} {E : Value → Shared → Prop} {s : Shared} {K : PySem.W.Frag} {x C L f : Addr} {h₀ : Heap} {m : Str → Option Value} {ox : Obj} {od : Option Obj}
theorem ne_K2 {b tb : Value} {Q : Value → Shared → Prop} (hu : A.units + 1 < cLine) (F : Fr h₀ L s.heap m) (X₀ : K.In h₀) (I : PySem.W.InstAt s.heap x ox C od) (hb : PySem.W.Looks (model prog w) s.heap (typeOf b) tb) (hnf : PySem.W.notFirst K C tb = true)
    (hn : PySem.W.findIn K (.ref C) "__ne__" = some (some (.builtin "object.__ne__"))) (hsub : PySem.W.subIn K (.ref C) (.type "object") = some true)
    (hs : PySem.W.findIn K (.ref C) "__eq__" = some (some (.ref f))) (hf : PySem.W.isFn K (.ref f) = true)
    (h : wpAny (model prog w) A.in1 (call (.ref f) [.ref x, b]) (fun v s' => ∃ r, v = .bool r ∧ Q (.bool (!r)) s') E s) : wpAny (model prog w) A (richCompare .NotEq (.ref x) b) Q E s := by
  have X := X₀.keeps F.keep
  have one : wpAny (model prog w) A (tryCompare (.ref x) "__ne__" b) (fun r s' => ∃ v, r = some v ∧ Q v s') E s := by
    unfold tryCompare
    refine wpAny_bind (ifBound_ne X I hn (wpAny_call (codeAny_call_builtin slot_ne_object.plain PySem.F.cmpEntry_ne (check_ne X I hsub (PySem.F.cmpArgs_ne _ _) (body_ne (A := A.in1) X I hs hf hu (wpAny_mono h (fun v s' hv => ?_) fun _ _ e => e))))))
    obtain ⟨r, rfl, hq⟩ := hv
    exact ⟨r, rfl, wpAny_pure ⟨_, rfl, hq⟩⟩
  unfold richCompare
  simp only [oneThing_ref]
  refine wpAny_holding (wpAny_bind (wpAny_cRoomFor (Nat.lt_of_succ_lt hu) ?_))
  refine wpAny_bind (I.type.here (wpAny_bind (hb.here ?_)))
  split
  · rename_i q
    have e : PySem.W.subIn K tb (.ref C) = some false := by
      rcases Bool.or_eq_true_iff.mp hnf with e | e
      · rw [beq_iff_eq.mp e] at q; simp at q
      · exact beq_iff_eq.mp e
    refine wpAny_bind ((PySem.W.looks_subIn X e).here ?_)
    simp only [Bool.false_eq_true, if_false]
    refine wpAny_bind (wpAny_mono one (fun r s' z => ?_) fun _ _ e => e)
    obtain ⟨v, rfl, hq⟩ := z
    exact wpAny_pure hq
  · refine wpAny_bind (wpAny_pure ?_)
    simp only [Bool.false_eq_true, if_false]
    refine wpAny_bind (wpAny_mono one (fun r s' z => ?_) fun _ _ e => e)
    obtain ⟨v, rfl, hq⟩ := z
    exact wpAny_pure hq
end
section
variable {X : Cx}
/-- o != x, x a thing of a built-in type -/
def rNeFwd (C : Addr) (sp : Sp) : R2 := fun x y H Q => ∃ a dx fs T, x = .ref a ∧ H a = some (.ins C dx fs) ∧ Odd H y T ∧ sp [.ref a, y] H (fun v H' => ∃ r, v = .bl r ∧ Q (.bl (!r)) H') E0
theorem op_neFwd {n : Nat} {C f : Addr} {fd : FuncData} {ps : List Str} {sp : Sp} (O : OddC X.K C) (F : FnG X.prog X.w X.K X.mg X.base n f fd ps sp) (hr : Room (n + 1) X.A) (hgd : X.A.guards = some [])
    (hn : PySem.W.findIn X.K (.ref C) "__ne__" = some (some (.builtin "object.__ne__"))) (hsub : PySem.W.subIn X.K (.ref C) (.type "object") = some true)
    (hs : PySem.W.findIn X.K (.ref C) "__eq__" = some (some (.ref f))) (hf : PySem.W.isFn X.K (.ref f) = true) (hb : Binds X.K fd ps []) : OpR X (compareOp .NotEq) (rNeFwd C sp) := by
  intro pins s σ H x y v u Q I rx ry h
  obtain ⟨a, dx, fs, T, rfl, ha, od', hq⟩ := h
  cases rx
  obtain ⟨mA, J, _⟩ := ins_get I.hok ha
  obtain ⟨od, J, _⟩ := J.look
  obtain ⟨m, hF⟩ := I.fr
  have sb : Sub X n X.A.in1 := Sub.in1 ⟨hr, rfl⟩
  show wpAny (model X.prog X.w) X.A (richCompare .NotEq (.ref a) u) (EP X pins σ Q) X.xe s
  refine ne_K2 (tb := .type T) sb.room.units0 hF I.ok.mod.kin J ?_ ?_ hn hsub hs hf (wpAny_mono (own_run (vs := [.ref a, y]) F sb hgd hb I (.cons rfl (.cons ry .nil)) hq) (fun z s' hz => ?_) fun _ _ e => e)
  · obtain ⟨P, Z, p, _⟩ := kit_of I ry (od'.tyx (K := X.K))
    exact Z.ty _ _ I.kIn p
  · unfold PySem.W.notFirst
    rw [O.to T od'.mem]
    simp
  · obtain ⟨b', H', I', rb, r, rfl, hQ⟩ := hz
    cases rb
    exact ⟨r, rfl, .bl (!r), H', I', rfl, hQ⟩
end
/-- one of two rules -/
def rOr (R1 R2' : R2) : R2 := fun x y H Q => R1 x y H Q ∨ R2' x y H Q
theorem op_or {X : Cx} {f : Value → Value → Sem Value} {R1 R2' : R2} (a : OpR X f R1) (b : OpR X f R2') : OpR X f (rOr R1 R2') := by
  intro pins s σ H x y v u Q I rx ry h
  rcases h with h | h
  · exact a pins s σ H x y v u Q I rx ry h
  · exact b pins s σ H x y v u Q I rx ry h
end SR

set_option maxRecDepth 100000
set_option maxHeartbeats 4000000
set_option pp.maxSteps 1500
namespace SS
open PySem L2 SR TL ZA
theorem any_map {S T : List Int} : (S.map fun s => decide (s ∈ T)).any id = decide (∃ s ∈ S, s ∈ T) := by
  rw [Bool.eq_iff_iff, List.any_eq_true, decide_eq_true_iff]
  constructor
  · rintro ⟨b, hb, h⟩
    obtain ⟨s, hs, rfl⟩ := List.mem_map.mp hb
    exact ⟨s, hs, of_decide_eq_true h⟩
  · rintro ⟨s, hs, h⟩
    exact ⟨_, List.mem_map.mpr ⟨s, hs, rfl⟩, decide_eq_true h⟩
def cmpD (b : Bool) : PyData := .list [.bool b, .bool (!b), .bool b]
theorem cmpD_ok (b : Bool) : SeqAt.shaped (cmpD b) = true := by cases b <;> decide +kernel
section
variable {P : Program} {w : World} {K : PySem.W.Frag} {mg : Str → Option Value} {base : Heap}
/-! ### _law_step -/
abbrev sLSt : Stmt := top 65
abbrev nLSt : List Str := ["_law_rows", "_law_some", "_law_thing", "_law_goals", "_law_spot", "_law_letter", "_law_goal", "_law_told"]
abbrev psLSt : List Str := ["_law_rows", "_law_some", "_law_thing"]
theorem scLSt : FnScope nLSt psLSt (defScope sLSt) := ⟨rfl, rfl, rfl, by decide +kernel, rfl, by decide +kernel, by decide +kernel⟩
def spLSt : Sp := fun vs H Q _ => ∃ (a b : Addr) (S : List Int) (th : List Nat) (rows : List Rw), vs = [.ref a, .ref b, txtV th] ∧ RwsL H a rows ∧ Good rows ∧ rows.length ≤ 12 ∧ (∀ s ∈ S, 0 ≤ s ∧ s < (rows.length : Int)) ∧ H b = some (.lst (S.map .int)) ∧
  ∀ (p : Addr) (H' : Hp), H p = none → Same H H' → H' p = some (.lst ((stpL rows S th).map .int)) → Q (.ref p) H'
theorem ok_lsp {f : Addr} {fd : FuncData} (F : Fun K "_law_step" "_law_step" sLSt f fd) (B : Bl mg) (Si : Cal P w K mg base "_law_silent" 1 psLSi (spLSi K)) : FnOk P w K mg base CX0 2 f fd psLSt spLSt := by
  refine F.ok scLSt (fun vs H Q E h => ?_) (fun cdv A outer s H vs Q E hr h => ?_)
  · obtain ⟨a, b, S, th, rows, rfl, _⟩ := h
    rfl
  · obtain ⟨a, b, S, th, rows, rfl, RL, G, h12, rg, hS, k⟩ := h
    have hr1 := hr
    refine ⟨_, pss_cons (ps_set (i := 3) scLSt.nd rfl (.inl rfl) (pe_lst pa_nil))
      (pss_cons (ps_for PassesOwn.never rfl (pi_list (pv 1)) (pg_name (i := 4) scLSt.nd rfl (.inl rfl))
        (pss_one (ps_lock (ps_for PassesOwn.never rfl (pi_items (pe_ix ix_list (pv 0) (pv 4) (fun _ _ => rfl))) (pg_tup rfl (pgs_cons (pg_name (i := 5) scLSt.nd rfl (.inl rfl)) (pgs_cons (pg_tup rfl (pgs_cons (pg_name (i := 6) scLSt.nd rfl (.inl rfl)) (pgs_cons (pg_name (i := 7) scLSt.nd rfl (.inl rfl)) pgs_nil))) pgs_nil)))
        (pss_one (ps_if (PW.pt (pw_and (pt_cmpR op_eq (pv 7) (pv 2) (nomark _)) (pw_and1 (pt_cmpR op_notIn_seq (pv 6) (pv 3) (by rfl)))))
        (pss_one (ps_expr (pe_bm PySem.F.plainAttrs_list PySem.F.slot_list_append PySem.F.type_list_append mt_append (pv 3) (pa_cons (pv 6) pa_nil)))) pss_nil))))))
      (pss_one (ps_ret (pe_cal Si hr1 (pa_cons (pv 0) (pa_cons (pv 3) pa_nil)))))), ?_⟩
    refine ⟨by show 0 ≤ sizeLine; decide, fun l hl => ?_⟩
    have eh : Same H (upd H l (.lst [])) := same_new hl
    have hl1 := upd_same (H := H) (a := l) (o := .lst [])
    generalize (upd H l (.lst [])) = H1 at eh hl1 ⊢
    have hb1 := eh _ _ hS
    refine ⟨_, rfl, b, rfl, ⟨_, SqL.of hb1⟩, for_it (walk_list (K := K) (a := b) (xs := S.map V.int)) (fun i σ H' => Same H H' ∧ ∃ (gs : List Int) (a4 a5 a6 a7 : Option V), σ = [some (.ref a), some (.ref b), some (txtV th), some (.ref l), a4, a5, a6, a7] ∧ H' l = some (.lst (gs.map .int)) ∧ Gl rows S th i 0 gs) ⟨eh, [], none, none, none, none, rfl, hl1, Gl.start⟩ (fun i σ H' _ q => SqL.of (q.1 _ _ hS)) ?_ ?_⟩
    · rintro i v σ H2 H2' hi ⟨e1, gs, b4, b5, b6, b7, rfl, h1, R⟩ ⟨rfl, hv⟩
      rw [List.getElem?_map] at hv
      obtain ⟨q, hq, rfl⟩ := Option.map_eq_some_iff.mp hv
      obtain ⟨q0, q1⟩ := rg q (List.mem_of_getElem? hq)
      obtain ⟨ys, d, kvs, y1, y2, k1, k2⟩ := (RL.mono e1).get q0 q1
      refine items_for k1 k2 (fun od R' hR' => ?_) (fun b => b = d ∨ b = l) (.inl rfl) (fun p xs hp z => ?_) (fun m σ' HL => ∃ (gs : List Int) (a5 a6 a7 : Option V), σ' = [some (.ref a), some (.ref b), some (txtV th), some (.ref l), some (.int q), a5, a6, a7] ∧ HL l = some (.lst (gs.map .int)) ∧ Gl rows S th i m gs) (fun m σ' HL HL' es' ⟨fx, a5, a6, a7, z1, z2, z3⟩ => ⟨fx, a5, a6, a7, z1, es' _ _ z2, z3⟩) (fun od => ?_) ?_ ?_
      · exact ⟨_, rfl, _, rfl, a, _, _, .ref d, rfl, rfl, SqL.of (lock_get k1 y1 (by intro z; cases z)), y2, hR'⟩
      · rcases z with rfl | rfl
        · rw [k1] at hp; cases hp
        · rw [h1] at hp; cases hp
      · exact ⟨gs, _, _, _, rfl, lock_get k1 h1 (by intro z; cases z), R⟩
      · rintro od m e σ' HL he e2 hz ⟨gs, c5, c6, c7, rfl, hl2, R2⟩
        have hlen2 : gs.length ≤ rows.length := nodup_len _ _ R2.nd (R2.rg G)
        refine ⟨_, rfl, _, rfl, by cases e.2.2 <;> rfl, _, rfl, ?_⟩
        rw [tell_eq]
        by_cases ho : e.2.2 = some th
        · rw [decide_eq_true ho]
          refine iteT ⟨_, rfl, _, rfl, l, _, rfl, .inl (SqL.of hl2), rfl, flat_ints _, _, rfl, ?_⟩
          rw [inV_ints]
          by_cases hm : e.2.1 ∈ gs
          · rw [decide_eq_true hm]
            exact iteF ⟨e2, hz, gs, _, _, _, rfl, hl2, R2.skip hq he (fun _ => hm)⟩
          · rw [decide_eq_false hm]
            have nlq : d ≠ l := fun z => by rw [z, hl2] at hz; cases hz
            refine iteT ⟨_, rfl, .inl ⟨rfl, _, SqL.of hl2⟩, _, rfl, l, _, _, rfl, rfl, hl2, (by rw [List.length_map, sizeLine_eq]; omega), ?_⟩
            exact ⟨e2.upd (.inr rfl), by rw [upd_ne nlq]; exact hz, gs ++ [e.2.1], _, _, _, rfl, by rw [upd_same, List.map_append]; rfl, R2.add hq he ho hm⟩
        · rw [decide_eq_false ho]
          exact iteF ⟨e2, hz, gs, _, _, _, rfl, hl2, R2.skip hq he (fun z => (ho z).elim)⟩
      · rintro od σ' HL e2 hz ⟨gs, c5, c6, c7, rfl, hl2, R2⟩
        have nlq : l ≠ d := fun z => by rw [← z, hl2] at hz; cases hz
        exact ⟨e2.back e1 hl k1, gs, _, _, _, _, rfl, by rw [upd_ne nlq]; exact hl2, R2.next hq⟩
    · rintro σ H2 ⟨e1, gs, b4, b5, b6, b7, rfl, h1, R⟩
      have hk : S.length ≤ (S.map V.int).length := by rw [List.length_map]; exact Nat.le_refl _
      refine ⟨_, rfl, _, rfl, a, l, gs, rows, rfl, RL.mono e1, G, h12, R.nd, R.rg G, .inl h1, fun p H3 hp e2 h2 => k p H3 (e1.free hp) (e1.trans e2) ?_⟩
      rw [h2]
      unfold stpL
      rw [silL_congr (R.done hk)]
/-! ### _law_last -/
abbrev sLLa : Stmt := top 66
abbrev nLLa : List Str := ["_law_rows", "_law_spot", "_law_line", "_law_found", "_law_thing"]
abbrev psLLa : List Str := ["_law_rows", "_law_spot", "_law_line"]
theorem scLLa : FnScope nLLa psLLa (defScope sLLa) := ⟨rfl, rfl, rfl, by decide +kernel, rfl, by decide +kernel, by decide +kernel⟩
def spLLa : Sp := fun vs H Q _ => ∃ (a : Addr) (q : Int) (t : List Nat) (rows : List Rw), vs = [.ref a, .int q, txtV t] ∧ RwsL H a rows ∧ Good rows ∧ rows.length ≤ 12 ∧ 0 ≤ q ∧ q < (rows.length : Int) ∧ t.length ≤ 1000 ∧
  ∀ (p : Addr) (H' : Hp), H p = none → Same H H' → H' p = some (.lst ((lastL rows q (t.map fun c => [c])).map .int)) → Q (.ref p) H'
theorem ok_lla {f : Addr} {fd : FuncData} (F : Fun K "_law_last" "_law_last" sLLa f fd) (B : Bl mg) (Si : Cal P w K mg base "_law_silent" 1 psLSi (spLSi K)) (St : Cal P w K mg base "_law_step" 2 psLSt spLSt) : FnOk P w K mg base CX0 3 f fd psLLa spLLa := by
  refine F.ok scLLa (fun vs H Q E h => ?_) (fun cdv A outer s H vs Q E hr h => ?_)
  · obtain ⟨a, q, t, rows, rfl, _⟩ := h
    rfl
  · obtain ⟨a, q, t, rows, rfl, RL, G, h12, q0, q1, hl, k⟩ := h
    have hr1 := hr.mono (by decide : 1 ≤ 2)
    have hr2 := hr
    refine ⟨_, pss_cons (ps_set (i := 3) scLLa.nd rfl (.inl rfl) (pe_cal Si hr1 (pa_cons (pv 0) (pa_cons (pe_lst (pa_cons (pv 1) pa_nil)) pa_nil))))
      (pss_cons (ps_for PassesOwn.never rfl (pi_str (pv 2)) (pg_name (i := 4) scLLa.nd rfl (.inl rfl))
        (pss_one (ps_set (i := 3) scLLa.nd rfl (.inl rfl) (pe_cal St hr2 (pa_cons (pv 0) (pa_cons (pv 3) (pa_cons (pv 4) pa_nil)))))))
      (pss_one (ps_ret (pv 3)))), ?_⟩
    refine ⟨_, rfl, _, rfl, by show 1 ≤ sizeLine; decide, fun T hT => ?_⟩
    have e0 : Same H (upd H T (.lst [.int q])) := same_new hT
    refine ⟨a, T, [q], rows, rfl, RL.mono e0, G, h12, List.pairwise_singleton _ _, fun s hs => ?_, .inl upd_same, fun p H1 hp e1 h1 => ?_⟩
    · rw [List.mem_singleton.mp hs]; exact ⟨q0, q1⟩
    have e01 := e0.trans e1
    have hpH : H p = none := e0.free hp
    have hz : (txt t).cps.size = t.length := by simp [txt]
    refine ⟨_, rfl, _, rfl, for_it walk_str (fun i σ H' => Same H H' ∧ ∃ (pf : Addr) (a4 : Option V), σ = [some (.ref a), some (.int q), some (txtV t), some (.ref pf), a4] ∧ H pf = none ∧ H' pf = some (.lst ((lastL rows q ((t.take i).map fun c => [c])).map .int))) ⟨e01, p, none, rfl, hpH, h1⟩ (fun _ _ _ _ _ => trivial) ?_ ?_⟩
    · rintro i v σ H2 H2' hi ⟨e2, pf, b4, rfl, hpf, h2⟩ ⟨rfl, c, hc, rfl⟩
      have hc' : t[i]? = some c := by simpa [txt] using hc
      refine ⟨_, rfl, _, rfl, _, rfl, a, pf, _, [c], rows, rfl, RL.mono e2, G, h12, fun s hs => lastL_rg hs, h2, fun p3 H3 hp3 e3 h3 => ?_⟩
      refine ⟨e2.trans e3, p3, _, rfl, e2.free hp3, ?_⟩
      rw [h3, List.take_add_one, hc', List.map_append]
      show some (HO.lst _) = some (HO.lst ((lastL rows q (_ ++ [[c]])).map .int))
      rw [lastL_snoc]
    · rintro σ H2 ⟨e2, pf, b4, rfl, hpf, h2⟩
      rw [hz, List.take_length] at h2
      exact ⟨_, rfl, k pf H2 hpf e2 h2⟩
/-! ### meets, is_writable -/
abbrev sMee : Stmt := top 34
abbrev nMee : List Str := ["states", "others", "state"]
abbrev psMee : List Str := ["states", "others"]
theorem scMee : FnScope nMee psMee (defScope sMee) := ⟨rfl, rfl, rfl, by decide +kernel, rfl, by decide +kernel, by decide +kernel⟩
def spMee : Sp := fun vs H Q _ => ∃ (a b : Addr) (S T : List Int), vs = [.ref a, .ref b] ∧ S.length ≤ 1000 ∧ H a = some (.tup (S.map .int)) ∧ H b = some (.tup (T.map .int)) ∧ ∀ H', Same H H' → Q (.bl (decide (∃ s ∈ S, s ∈ T))) H'
theorem ok_mee {f : Addr} {fd : FuncData} (F : Fun K "meets" "meets" sMee f fd) (B : Bl mg) : FnOk P w K mg base CX0 1 f fd psMee spMee := by
  refine F.ok scMee (fun vs H Q E h => ?_) (fun cdv A outer s H vs Q E hr h => ?_)
  · obtain ⟨a, b, S, T, rfl, _⟩ := h
    rfl
  · obtain ⟨a, b, S, T, rfl, hl, hS, hT, k⟩ := h
    refine ⟨_, pss_one (ps_ret (pe_callB (cr_any rfl) (by rfl) B.any (by decide +kernel) (pa_cons (pe_lc (own := [("state", 2)]) (g := gName 2) (tt := tYes) (te := tOp (rIn K false) (tVar 2) (tVar 1)) rfl scMee.nd (pi_tup (pv 0)) (blkOk_by (by kernel_rfl)) (fun _ _ _ _ _ => pg_name (i := 2) scMee.nd rfl (.inl rfl)) (fun _ _ _ _ _ => pts_nil) (fun _ _ _ _ _ => pe_cmpR op_in_seq (pv 2) (pv 1) (by rfl))) pa_nil))), ?_⟩
    refine ⟨_, rfl, a, rfl, ⟨_, SqT.of hS⟩, fun D hD => lc_S (walk_tup (K := K) (a := a) (xs := S.map V.int)) hD (by rw [List.length_map]; omega) (fun i acc _ => acc = ((S.take i).map fun s => decide (s ∈ T)).map V.bl) (fun _ _ _ _ _ _ _ h => h) rfl (fun H' e' => SqT.of (e' _ _ hS)) ?_ ?_⟩
    · rintro i v H3 H3' acc Qt Qf hi e3 hd rfl ⟨rfl, hv⟩ kt kf
      rw [List.getElem?_map] at hv
      obtain ⟨q, hq, rfl⟩ := Option.map_eq_some_iff.mp hv
      refine ⟨rfl, _, rfl, _, rfl, b, _, rfl, .inr (SqT.of (e3 _ _ hT)), rfl, flat_ints _, kt _ _ (Same.refl _) ?_⟩
      rw [List.take_add_one, hq, List.map_append, List.map_append]
      show _ ++ [V.bl (inV (.int q) (T.map .int))] = _
      rw [inV_ints]
      rfl
    rintro H1 acc e1 hd rfl
    rw [List.length_map, List.take_length] at hd
    refine ⟨D, _, rfl, SqL.of hd, ?_⟩
    rw [any_map]
    exact k _ e1
abbrev sWri : Stmt := top 36
abbrev nWri : List Str := ["door", "text"]
abbrev psWri : List Str := ["door", "text"]
theorem scWri : FnScope nWri psWri (defScope sWri) := ⟨rfl, rfl, rfl, by decide +kernel, rfl, by decide +kernel, by decide +kernel⟩
def spWri (C D : Addr) : Sp := fun vs H Q _ => ∃ (g x l : Addr) (q : Int) (S : List Int) (t : List Nat) (rows : List Rw) (ends : List Int) (start : Int), vs = [.ref g, txtV t] ∧ DoorAt D H g x l q S ∧ RdAt C H x rows ends start ∧ rows.length ≤ 12 ∧ Good rows ∧ 0 ≤ q ∧ q < (rows.length : Int) ∧ Lets t ∧ t.length ≤ 1000 ∧
  ∀ H', Same H H' → Q (.bl (decide (∃ s ∈ lastL rows q (t.map fun c => [c]), s ∈ S))) H'
theorem ok_wri {f C D : Addr} {fd : FuncData} (F : Fun K "is_writable" "is_writable" sWri f fd) (B : Bl mg) (T : DTx K mg D) (Rw' : Cal P w K mg base "require_word" 2 psRqw spRqw) (Ls : Cal P w K mg base "last_of" 3 psLst (spLst C)) (Me : Cal P w K mg base "meets" 1 psMee spMee) : FnOk P w K mg base CX0 4 f fd psWri (spWri C D) := by
  refine F.ok scWri (fun vs H Q E h => ?_) (fun cdv A outer s H vs Q E hr h => ?_)
  · obtain ⟨g, x, l, q, S, t, rows, ends, start, rfl, _⟩ := h
    rfl
  · obtain ⟨g, x, l, q, S, t, rows, ends, start, rfl, G, R, h12, Go, q0, q1, lt', hl, k⟩ := h
    have hr1 := hr.mono (by decide : 1 ≤ 3)
    have hr2 := hr.mono (by decide : 2 ≤ 3)
    have hr3 := hr
    refine ⟨_, pss_cons (ps_expr (pe_cal Rw' hr2 (pa_cons (pv 1) pa_nil)))
      (pss_one (ps_ret (pe_cal Me hr1 (pa_cons (pe_cal Ls hr3 (pa_cons (pe_fld (pv 0) rfl) (pa_cons (pe_fld (pv 0) rfl) (pa_cons (pv 1) pa_nil)))) (pa_cons (pe_fld (pv 0) rfl) pa_nil))))), ?_⟩
    obtain ⟨dx, pb, fs, h1, h2, h3, h4, h5, h6, h7⟩ := G.ex
    refine ⟨_, rfl, t, rfl, lt', hl, fun H1 e1 => ?_⟩
    refine ⟨_, rfl, g, D, dx, _, _, rfl, e1 _ _ h1, T.cl, T.nR, h2, _, rfl, g, D, dx, _, _, rfl, e1 _ _ h1, T.cl, T.nS, h3, _, rfl, x, q, t, rows, ends, start, rfl, R.mono e1, h12, Go, q0, q1, hl, fun p H2 hp e2 hp2 => ?_⟩
    have e12 := e1.trans e2
    have ll : (lastL rows q (t.map fun c => [c])).length ≤ rows.length := nodup_len _ _ (lastL_nd _ _ _) fun s hs => lastL_rg hs
    refine ⟨_, rfl, g, D, dx, _, _, rfl, e12 _ _ h1, T.cl, T.nB, h4, p, pb, _, S, rfl, by omega, hp2, e12 _ _ h7, fun H3 e3 => k _ (e12.trans e3)⟩
/-! ### _law_compared -/
abbrev sCmp : Stmt := top 71
abbrev nCmp : List Str := ["_law_one", "_law_other", "_law_due"]
abbrev psCmp : List Str := ["_law_one", "_law_other", "_law_due"]
theorem scCmp : FnScope nCmp psCmp (defScope sCmp) := ⟨rfl, rfl, rfl, by decide +kernel, rfl, by decide +kernel, by decide +kernel⟩
def spCmp (C L D : Addr) : Sp := fun vs H Q _ => ∃ (g : Addr) (v : V) (b : Bool) (q : Int) (S : List Int) (R : List Rw) (E : List Int) (n : Int) (cs : List Nat) (r : List (List Int)) (en : List Int), vs = [.ref g, v, .bl b] ∧ DoorF C L D H g q S R E n cs r en ∧ (∀ H', Same H H' → Q (.bl true) H') ∧
  ((∃ T, SR.Odd H v T ∧ b = false) ∨ ∃ (g2 : Addr) (q2 : Int) (S2 : List Int) (R2 : List Rw) (E2 : List Int) (n2 : Int) (cs2 : List Nat) (r2 : List (List Int)) (en2 : List Int), v = .ref g2 ∧ DoorF C L D H g2 q2 S2 R2 E2 n2 cs2 r2 en2 ∧
    b = decide ((q = q2 ∧ S = S2) ∧ (R = R2 ∧ E = E2 ∧ n = n2) ∧ (cs = cs2 ∧ en = en2 ∧ r = r2)))
theorem ok_cmp {f C L D fq : Addr} {fd fdq : FuncData} (F : Fun K "_law_compared" "_law_compared" sCmp f fd) (B : Bl mg) (O : OddC K D) (M : EqO P w K mg base D 3 psDEq (spDEq C L D) fq fdq) : FnG P w K mg base 5 f fd psCmp (spCmp C L D) := by
  refine okG F scCmp (fun vs H Q E h => ?_) (fun cdv A outer s H vs Q E hr hgd h => ?_)
  · obtain ⟨g, v, b, q, S, R, E', n, cs, r, en, rfl, _⟩ := h
    rfl
  · obtain ⟨g, v, b, q, S, R, E', n, cs, r, en, rfl, G, k, h⟩ := h
    have hr3 := hr.mono (by decide : 3 ≤ 4)
    have hr4 := hr
    refine ⟨_, pss_one (ps_ret (pe_cmpR (op_eqD hr.units) (pe_lst (pa_cons (pe_cmpR (op_or (op_eqOwn M.eq.ok hr3 hgd M.eq.at_ M.eq.isf M.eq.bnd) (op_eqFwd O M.eq.ok hr3 hgd M.eq.at_ M.eq.isf M.eq.bnd)) (pv 0) (pv 1) (nomark _)) (pa_cons (pe_cmpR (op_or (op_neOwn M.eq.ok hr4 hgd M.ne M.sub M.eq.at_ M.eq.isf M.eq.bnd) (op_neFwd O M.eq.ok hr4 hgd M.ne M.sub M.eq.at_ M.eq.isf M.eq.bnd)) (pv 0) (pv 1) (nomark _)) (pa_cons (pe_cmpR (op_or (op_eqOwn M.eq.ok hr3 hgd M.eq.at_ M.eq.isf M.eq.bnd) (op_eqBack O M.eq.ok hr3 hgd M.eq.at_ M.eq.isf M.eq.bnd)) (pv 1) (pv 0) (nomark _)) pa_nil)))) (pe_lst (pa_cons (pv 2) (pa_cons (pe_not (pv 2)) (pa_cons (pv 2) pa_nil)))) (nomark _))), ?_⟩
    obtain ⟨x, l, ns, G1, _, _⟩ := G.ex
    obtain ⟨dx, pb, fs, h1, _⟩ := G1.ex
    -- what is told, whatever it is
    have fin : ∀ H3, Same H H3 → ∀ p5, H3 p5 = none → ∀ H5, H5 = upd H3 p5 (.lst [V.bl b, V.bl (!b), V.bl b]) → ∀ p6, H5 p6 = none → ∀ Q', (∀ H', Same H H' → Q' (.bl true) H') → rEqD K (.ref p5) (.ref p6) (upd H5 p6 (.lst [V.bl b, V.bl (!b), V.bl b])) Q' := by
      intro H3 e3 p5 n5 H5 eH5 p6 n6 Q' k'
      have e5 : Same H3 H5 := eH5 ▸ same_new n5
      have h5 : H5 p5 = some (.lst [V.bl b, V.bl (!b), V.bl b]) := eH5 ▸ upd_same
      have e6 := same_new (o := .lst [V.bl b, V.bl (!b), V.bl b]) n6
      refine ⟨cmpD b, cmpD b, .lst (SqL.of (e6 _ _ h5)) (.cons (.bl _) (.cons (.bl _) (.cons (.bl _) .nil))), .lst (SqL.of upd_same) (.cons (.bl _) (.cons (.bl _) (.cons (.bl _) .nil))), cmpD_ok b, cmpD_ok b, ?_⟩
      rw [SeqAt.eqv_refl _ (SeqAt.canLay_of_shaped (cmpD_ok b))]
      exact k' _ ((e3.trans e5).trans e6)
    rcases h with ⟨T, o, rfl⟩ | ⟨g2, q2, S2, R2, E2, n2, cs2, r2, en2, rfl, G', hb⟩
    · refine ⟨_, rfl, _, rfl, .inr ⟨g, dx, fs, T, rfl, h1, o, g, v, q, S, R, E', n, cs, r, en, rfl, G, .inl ⟨T, o, fun H1 e1 => ⟨_, rfl, ?_⟩⟩⟩⟩
      have o1 : SR.Odd H1 v T := o.mono e1
      refine ⟨_, rfl, _, rfl, .inr ⟨g, dx, fs, T, rfl, e1 _ _ h1, o1, g, v, q, S, R, E', n, cs, r, en, rfl, G.mono e1, .inl ⟨T, o1, fun H2 e2 => ⟨_, rfl, ?_⟩⟩⟩⟩
      have e12 := e1.trans e2
      have o2 : SR.Odd H2 v T := o.mono e12
      refine ⟨_, rfl, _, rfl, .inr ⟨g, dx, fs, T, rfl, e12 _ _ h1, o2, g, v, q, S, R, E', n, cs, r, en, rfl, G.mono e12, .inl ⟨T, o2, fun H3 e3 => ⟨_, rfl, by show 3 ≤ sizeLine; decide, fun p5 n5 => ?_⟩⟩⟩⟩
      exact ⟨_, rfl, _, rfl, _, rfl, _, rfl, by show 3 ≤ sizeLine; decide, fun p6 n6 => fin H3 (e12.trans e3) p5 n5 _ rfl p6 n6 _ k⟩
    · obtain ⟨x2, l2, ns2, G2, _, _⟩ := G'.ex
      obtain ⟨dy, pb2, gs, g1, _⟩ := G2.ex
      have hb' : b = decide ((q2 = q ∧ S2 = S) ∧ (R2 = R ∧ E2 = E' ∧ n2 = n) ∧ (cs2 = cs ∧ en2 = en ∧ r2 = r)) := by
        rw [hb, decide_eq_decide]
        constructor <;> (rintro ⟨⟨h1, h2⟩, ⟨h3, h4, h5⟩, h6, h7, h8⟩; exact ⟨⟨h1.symm, h2.symm⟩, ⟨h3.symm, h4.symm, h5.symm⟩, h6.symm, h7.symm, h8.symm⟩)
      refine ⟨_, rfl, _, rfl, .inl ⟨g, g2, dx, dy, fs, gs, rfl, rfl, h1, g1, g, .ref g2, q, S, R, E', n, cs, r, en, rfl, G, .inr ⟨g2, q2, S2, R2, E2, n2, cs2, r2, en2, rfl, G', fun H1 e1 => ⟨_, rfl, ?_⟩⟩⟩⟩
      rw [← hb]
      refine ⟨_, rfl, _, rfl, .inl ⟨g, g2, dx, dy, fs, gs, rfl, rfl, e1 _ _ h1, e1 _ _ g1, g, .ref g2, q, S, R, E', n, cs, r, en, rfl, G.mono e1, .inr ⟨g2, q2, S2, R2, E2, n2, cs2, r2, en2, rfl, G'.mono e1, fun H2 e2 => ⟨_, rfl, ?_⟩⟩⟩⟩
      rw [← hb]
      have e12 := e1.trans e2
      refine ⟨_, rfl, _, rfl, .inl ⟨g2, g, dy, dx, gs, fs, rfl, rfl, e12 _ _ g1, e12 _ _ h1, g2, .ref g, q2, S2, R2, E2, n2, cs2, r2, en2, rfl, G'.mono e12, .inr ⟨g, q, S, R, E', n, cs, r, en, rfl, G.mono e12, fun H3 e3 => ⟨_, rfl, ?_⟩⟩⟩⟩
      rw [← hb']
      clear hb hb'
      refine ⟨by show 3 ≤ sizeLine; decide, fun p5 n5 => ?_⟩
      exact ⟨_, rfl, _, rfl, _, rfl, _, rfl, by show 3 ≤ sizeLine; decide, fun p6 n6 => fin H3 (e12.trans e3) p5 n5 _ rfl p6 n6 _ k⟩
end
end SS

set_option maxRecDepth 100000
set_option maxHeartbeats 4000000
set_option pp.maxSteps 1500
namespace SS
open PySem L2 SR TL ZA
def twoB (b : Bool) : PyData := .list [.bool b, .bool b]
theorem twoB_ok (b : Bool) : (twoB b).showable = true ∧ (twoB b).hasDict = false ∧ (twoB b).depth ≤ 64 ∧ (twoB b).shown.length ≤ sizeLine := by
  cases b <;> decide +kernel
theorem dp_two {K : PySem.W.Frag} {H : Hp} {p : Addr} {b : Bool} (h : H p = some (.lst [.bl b, .bl b])) : Dp K H (.ref p) (twoB b) := .lst (SqL.of h) (.cons (.bl _) (.cons (.bl _) .nil))
/-- a text is writable from q into A -/
noncomputable def wrt (rows : List Rw) (q : Int) (A : List Int) (z : List Nat) : Bool := decide (∃ s ∈ lastL rows q (z.map fun c => [c]), s ∈ A)
/-- what the law has been told of texts -/
structure Kb (rows : List Rw) (q : Int) (A : List Int) (kvs : List (Key × V)) (n : Nat) : Prop where
  few : kvs.length ≤ n
  at' : ∀ (z : List Nat) (v : V), valV kvs (Sum.inr (txt z)) = some v → v = .bl (wrt rows q A z)
theorem Kb.put {rows : List Rw} {q : Int} {A : List Int} {kvs : List (Key × V)} {n : Nat} {z : List Nat} (h : Kb rows q A kvs n) : Kb rows q A (putK kvs (Sum.inr (txt z)) (.bl (wrt rows q A z))) (n + 1) := by
  refine ⟨Nat.le_trans (DSub.putK_len _ _ _) (Nat.succ_le_succ h.few), fun y v hv => ?_⟩
  rw [valV_put] at hv
  by_cases hy : (Sum.inr (txt y) : Key) = Sum.inr (txt z)
  · rw [if_pos hy] at hv
    cases hv
    have : y = z := txt_inj (Sum.inr.inj hy)
    rw [this]
  · rw [if_neg hy] at hv
    exact h.at' y v hv
theorem wrt_sort {rows : List Rw} {q : Int} {A : List Int} {z : List Nat} : decide (∃ s ∈ lastL (rows.map sortR) q (z.map fun c => [c]), s ∈ sortI A) = wrt rows q A z := by
  unfold wrt
  rw [lastL_sort]
  exact decide_eq_decide.mpr (exists_congr fun s => and_congr_right fun _ => (sortI_perm A).mem_iff)
section
variable {P : Program} {w : World} {K : PySem.W.Frag} {mg : Str → Option Value} {base : Heap}
/-! ### _law_door_right -/
abbrev sDor : Stmt := top 70
abbrev nDor : List Str := ["_law_gate", "_law_rows", "_law_spot", "_law_after", "_law_paths", "_law_notes", "_law_told", "_law_note", "_law_due", "_law_one", "_law_path", "_law_found", "_law_thing"]
abbrev psDor : List Str := ["_law_gate", "_law_rows", "_law_spot", "_law_after", "_law_paths", "_law_notes"]
theorem scDor : FnScope nDor psDor (defScope sDor) := ⟨rfl, rfl, rfl, by decide +kernel, rfl, by decide +kernel, by decide +kernel⟩
def spDor (C D : Addr) : Sp := fun vs H Q _ => ∃ (g a af pp nn x l : Addr) (q : Int) (A : List Int) (ps ns : List (List Nat)) (rows : List Rw) (ends : List Int) (start : Int), vs = [.ref g, .ref a, .int q, .ref af, .ref pp, .ref nn] ∧
  DoorAt D H g x l q (sortI A) ∧ RdAt C H x (rows.map sortR) ends start ∧ RwsL H a rows ∧ Good rows ∧ rows.length ≤ 12 ∧ (∀ row ∈ rows, ∀ e ∈ row, ∀ y, e.2.2 = some y → Name y) ∧ 0 ≤ q ∧ q < (rows.length : Int) ∧
  H af = some (.lst (A.map .int)) ∧ H pp = some (.lst (ps.map txtV)) ∧ (∀ z ∈ ps, z.length ≤ 100) ∧ H nn = some (.lst (ns.map txtV)) ∧ (∀ z ∈ ns, Lets z ∧ z.length ≤ 100) ∧ ns.length ≤ 1000 ∧ ∀ H', Same H H' → Q (.bl true) H'
theorem ok_dor {f C D : Addr} {fd : FuncData} (F : Fun K "_law_door_right" "_law_door_right" sDor f fd) (B : Bl mg) (Wr : Cal P w K mg base "is_writable" 4 psWri (spWri C D)) (WrW : CalW P w K mg base "is_writable" 4 ["text", "door"] gW2 (spWri C D)) (La : Cal P w K mg base "_law_last" 3 psLLa spLLa) (Ru : Cal P w K mg base "_law_run" 1 psRun spRun) : FnG P w K mg base 5 f fd psDor (spDor C D) := by
  refine okG F scDor (fun vs H Q E h => ?_) (fun cdv A outer s H vs Q E hr hgd h => ?_)
  · obtain ⟨g, a, af, pp, nn, x, l, q, A, ps, ns, rows, ends, start, rfl, _⟩ := h
    rfl
  · obtain ⟨g, a, af, pp, nn, x, l, q, Af, ps, ns, rows, ends, start, rfl, DG, R, RL, G, h12, nm, q0, q1, hA, hP, pl, hN, nl, n1000, k⟩ := h
    have hr1 := hr.mono (by decide : 1 ≤ 4)
    have hr3 := hr.mono (by decide : 3 ≤ 4)
    have hr4 := hr
    have hu := hu_of hr
    refine ⟨_, pss_cons (ps_set (i := 6) scDor.nd rfl (.inl rfl) pe_dnewK)
      (pss_cons (ps_for PassesOwn.never rfl (pi_list (pv 5)) (pg_name (i := 7) scDor.nd rfl (.inl rfl))
        (pss_cons (ps_dput hu (pv 6) (pv 7) (pe_cal Wr hr4 (pa_cons (pv 0) (pa_cons (pv 7) pa_nil))) rfl)
      (pss_cons (ps_set (i := 8) scDor.nd rfl (.inl rfl) (pe_callB (cr_any rfl) (by rfl) B.any (by decide +kernel) (pa_cons (pe_lc (own := [("_law_one", 9)]) (g := gName 9) (tt := tYes) (te := tOp (rIn K false) (tVar 9) (tVar 3)) rfl scDor.nd (pi_list (pe_cal La hr3 (pa_cons (pv 1) (pa_cons (pv 2) (pa_cons (pv 7) pa_nil))))) (blkOk_by (by kernel_rfl)) (fun _ _ _ _ _ => pg_name (i := 9) scDor.nd rfl (.inl rfl)) (fun _ _ _ _ _ => pts_nil) (fun _ _ _ _ _ => pe_cmpR op_in_seq (pv 9) (pv 3) (by rfl))) pa_nil)))
      (pss_one (ps_if (pt_cmpR op_ne (pe_callB (call_reprD hgd (Nat.lt_of_succ_lt (u66 hr))) (by rfl) B.repr (by decide +kernel) (pa_cons (pe_lst (pa_cons (pe_dget hu (pv 6) (pv 7) (fun _ _ => rfl)) (pa_cons (pe_calW WrW hr4 (pk_cons (pv 7) (pk_cons (pv 0) pk_nil))) pa_nil))) pa_nil)) (pe_callB (call_reprD hgd (Nat.lt_of_succ_lt (u66 hr))) (by rfl) B.repr (by decide +kernel) (pa_cons (pe_lst (pa_cons (pv 8) (pa_cons (pv 8) pa_nil))) pa_nil)) (nomark _))
        (pss_one (ps_ret pe_bl)) pss_nil)))))
      (pss_cons (ps_for PassesOwn.never rfl (pi_list (pv 4)) (pg_name (i := 10) scDor.nd rfl (.inl rfl))
        (pss_cons (ps_set (i := 11) scDor.nd rfl (.inl rfl) (pe_cal Ru hr1 (pa_cons (pv 1) (pa_cons (pv 2) (pa_cons (pv 10) pa_nil)))))
      (pss_one (ps_if (PW.pt (pw_and (pt_cmpR op_notN (pv 11) pe_non (nomark _)) (pw_and (pt_cmpR op_in_seq (pe_ix ix_tup (pv 11) pe_int (fun _ _ => rfl)) (pv 3) (by rfl)) (pw_and1 (pt_val (pe_callB (cr_all rfl) (by rfl) B.all (by decide +kernel) (pa_cons (pe_lc (own := [("_law_thing", 12)]) (g := gName 12) (tt := tYes) (te := tOp (rEq) (tCB (fun xs H Q => ∃ z, xs = [.str z] ∧ z.length ≤ sizeLine ∧ Q (.int z.length) H) (tCons (tVar 12) tNil)) (tC (.int 1))) rfl scDor.nd (pi_list (pe_ix ix_tup (pv 11) pe_int (fun _ _ => rfl))) (blkOk_by (by kernel_rfl)) (fun _ _ _ _ _ => pg_name (i := 12) scDor.nd rfl (.inl rfl)) (fun _ _ _ _ _ => pts_nil) (fun _ _ _ _ _ => pe_cmpR op_eq (pe_callB call_len_str (by rfl) B.len boot_len (pa_cons (pv 12) pa_nil)) pe_int (nomark _))) pa_nil)))))))
        (pss_one (ps_if (pt_not (pt_val (pe_dget2 hu (pv 6) (pe_join pe_str (pe_ix ix_tup (pv 11) pe_int (fun _ _ => rfl))) pe_bl ⟨by rfl, by rfl, by rfl, by rfl⟩)))
        (pss_one (ps_ret pe_bl)) pss_nil)) pss_nil))))
      (pss_one (ps_ret pe_bl)))), ?_⟩
    have hlr : (rows.map sortR).length = rows.length := List.length_map _
    intro pk hpk
    have e0 : Same H (upd H pk (.dK [])) := same_new hpk
    have hk0 : (upd H pk (.dK [])) pk = some (.dK []) := upd_same
    generalize (upd H pk (.dK [])) = H0 at e0 hk0 ⊢
    have npk : ∀ {b : Addr} {o : HO}, H b = some o → b ≠ pk := fun {b o} hb => ne_of_none hb hpk
    refine ⟨_, rfl, nn, rfl, ⟨_, SqL.of (e0 _ _ hN)⟩, for_it (walk_list (K := K) (a := nn) (xs := ns.map txtV)) (fun j σ H' => Same H H' ∧ ∃ (kvs : List (Key × V)) (a7 a8 a9 a10 a11 a12 : Option V), σ = [some (.ref g), some (.ref a), some (.int q), some (.ref af), some (.ref pp), some (.ref nn), some (.ref pk), a7, a8, a9, a10, a11, a12] ∧ H' pk = some (.dK kvs) ∧ Kb rows q Af kvs j) ⟨e0, [], none, none, none, none, none, none, rfl, hk0, ⟨Nat.zero_le _, fun z v hv => by cases hv⟩⟩ (fun j σ H' _ p => SqL.of (p.1 _ _ hN)) ?_ ?_⟩
    · rintro j v σ Ha Ha' hj ⟨ea, kvs, b7, b8, b9, b10, b11, b12, rfl, hka, kn⟩ ⟨rfl, hv⟩
      rw [List.getElem?_map] at hv
      obtain ⟨z, hz, rfl⟩ := Option.map_eq_some_iff.mp hv
      rw [List.length_map] at hj
      obtain ⟨zl, z3⟩ := nl z (List.mem_of_getElem? hz)
      refine ⟨_, rfl, _, rfl, g, x, l, q, _, z, _, ends, start, rfl, DG.mono ea, R.mono ea, by rw [hlr]; exact h12, G.sort, q0, by rw [hlr]; exact q1, zl, by omega, fun Hb eb => ?_⟩
      rw [wrt_sort]
      have eab := ea.trans eb
      have hkb := eb _ _ hka
      refine ⟨_, rfl, _, rfl, pk, _, rfl, DPut.k (k := Sum.inr (txt z)) hkb (by have := kn.few; rw [sizeLine_eq]; omega), ?_⟩
      have kn2 := kn.put (z := z)
      have hkc : (upd Hb pk (.dK (putK kvs (Sum.inr (txt z)) (.bl (wrt rows q Af z))))) pk = some (.dK (putK kvs (Sum.inr (txt z)) (.bl (wrt rows q Af z)))) := upd_same
      have ec : Same H (upd Hb pk (.dK (putK kvs (Sum.inr (txt z)) (.bl (wrt rows q Af z))))) := fun b o hb => by
        rw [upd_ne (npk hb)]
        exact eab _ _ hb
      generalize (upd Hb pk (.dK (putK kvs (Sum.inr (txt z)) (.bl (wrt rows q Af z))))) = Hc at hkc ec ⊢
      have hvk : valV (putK kvs (Sum.inr (txt z)) (.bl (wrt rows q Af z))) (Sum.inr (txt z)) = some (.bl (wrt rows q Af z)) := by rw [valV_put, if_pos rfl]
      generalize putK kvs (Sum.inr (txt z)) (.bl (wrt rows q Af z)) = kvs2 at hkc kn2 hvk ⊢
      obtain ⟨wb, hwb⟩ : ∃ wb, wb = wrt rows q Af z := ⟨_, rfl⟩
      rw [← hwb] at hvk
      have ll : (lastL rows q (z.map fun c => [c])).length ≤ rows.length := nodup_len _ _ (lastL_nd _ _ _) fun s hs => lastL_rg hs
      refine ⟨_, rfl, _, rfl, _, rfl, a, q, z, rows, rfl, RL.mono ec, G, h12, q0, q1, by omega, fun pl Hd npl ed hpl => ?_⟩
      refine ⟨pl, rfl, ⟨_, SqL.of hpl⟩, fun D9 hD9 => lc_S (walk_list (K := K) (a := pl) (xs := (lastL rows q (z.map fun c => [c])).map V.int)) hD9 (by rw [List.length_map]; omega) (fun i acc _ => acc = (((lastL rows q (z.map fun c => [c])).take i).map fun s => decide (s ∈ Af)).map V.bl) (fun _ _ _ _ _ _ _ h => h) rfl (fun H' e' => SqL.of (e' _ _ hpl)) ?_ ?_⟩
      · rintro i v H9 H9' acc Qt Qf hi e9 hd9 rfl ⟨rfl, hv9⟩ kt kf
        rw [List.getElem?_map] at hv9
        obtain ⟨s, hs, rfl⟩ := Option.map_eq_some_iff.mp hv9
        refine ⟨rfl, _, rfl, _, rfl, af, _, rfl, .inl (SqL.of ((ec.trans (ed.trans e9)) _ _ hA)), rfl, flat_ints _, kt _ _ (Same.refl _) ?_⟩
        rw [List.take_add_one, hs, List.map_append, List.map_append]
        show _ ++ [V.bl (inV (.int s) (Af.map .int))] = _
        rw [inV_ints]
        rfl
      rintro H9 acc e9 hd9 rfl
      rw [List.length_map, List.take_length] at hd9
      refine ⟨D9, _, rfl, SqL.of hd9, ?_⟩
      rw [any_map, show decide (∃ s ∈ lastL rows q (z.map fun c => [c]), s ∈ Af) = wrt rows q Af z from rfl, ← hwb]
      have e2 := ed.trans e9
      have e12 := ec.trans e2
      refine ⟨_, rfl, _, rfl, pk, .bl wb, rfl, ?_, ?_⟩
      · rw [← hvk]; exact DGet.k (k := Sum.inr (txt z)) (e2 _ _ hkc)
      refine ⟨_, rfl, _, rfl, rfl, g, x, l, q, _, z, _, ends, start, rfl, DG.mono e12, R.mono e12, by rw [hlr]; exact h12, G.sort, q0, by rw [hlr]; exact q1, zl, by omega, fun He ee => ?_⟩
      rw [wrt_sort, ← hwb]
      refine ⟨by show 2 ≤ sizeLine; decide, fun p5 n5 => ?_⟩
      have e5 := same_new (o := .lst [V.bl wb, V.bl wb]) n5
      have h5 := upd_same (H := He) (a := p5) (o := .lst [V.bl wb, V.bl wb])
      obtain ⟨o1, o2, o3, o4⟩ := twoB_ok wb
      refine ⟨p5, twoB wb, rfl, dp_two h5, o1, o2, o3, o4, ?_⟩
      refine ⟨_, rfl, _, rfl, by show 2 ≤ sizeLine; decide, fun p6 n6 => ?_⟩
      have e6 := same_new (o := .lst [V.bl wb, V.bl wb]) n6
      refine ⟨p6, twoB wb, rfl, dp_two upd_same, o1, o2, o3, o4, rfl, _, rfl, ?_⟩
      rw [decide_eq_true rfl]
      have e26 := e2.trans (ee.trans (e5.trans e6))
      exact iteF ⟨ec.trans e26, kvs2, _, _, _, _, _, _, rfl, e26 _ _ hkc, kn2⟩
    · rintro σ Ha ⟨ea, kvs, b7, b8, b9, b10, b11, b12, rfl, hka, kn⟩
      refine ⟨_, rfl, pp, rfl, ⟨_, SqL.of (ea _ _ hP)⟩, for_it (walk_list (K := K) (a := pp) (xs := ps.map txtV)) (fun j σ H' => Same Ha H' ∧ ∃ (a7 a8 a9 a10 a11 a12 : Option V), σ = [some (.ref g), some (.ref a), some (.int q), some (.ref af), some (.ref pp), some (.ref nn), some (.ref pk), a7, a8, a9, a10, a11, a12]) ⟨Same.refl _, _, _, _, _, _, _, rfl⟩ (fun j σ H' _ p => SqL.of (p.1 _ _ (ea _ _ hP))) ?_ ?_⟩
      · rintro j v σ Hb Hb' hj ⟨eb, c7, c8, c9, c10, c11, c12, rfl⟩ ⟨rfl, hv⟩
        rw [List.getElem?_map] at hv
        obtain ⟨z, hz, rfl⟩ := Option.map_eq_some_iff.mp hv
        have z4 := pl z (List.mem_of_getElem? hz)
        have eab := ea.trans eb
        refine ⟨_, rfl, _, rfl, _, rfl, a, q, z, rows, rfl, RL.mono eab, G, q0, q1, by omega, fun hn Hc ec => ?_, fun f tt p pf Hc hrun ec hpc hfc => ?_⟩
        · exact ⟨_, rfl, rfl, _, rfl, iteF ⟨eb.trans ec, _, _, _, _, _, _, rfl⟩⟩
        · have nmz := run_names _ _ rfl _ _ hrun
          have nm8 : ∀ y ∈ f, Name y := fun y hy => by
            obtain ⟨row, hr', e, he, hx⟩ := nmz y hy
            exact nm row hr' e he y hx
          have fl := run_len _ _ rfl _ _ hrun
          have ebc := eb.trans ec
          refine ⟨_, rfl, rfl, _, rfl, iteT ?_⟩
          refine ⟨_, rfl, p, _, _, .int tt, rfl, rfl, SqT.of hpc, rfl, _, rfl, af, _, rfl, .inl (SqL.of ((ea.trans ebc) _ _ hA)), rfl, flat_ints _, _, rfl, ?_⟩
          rw [inV_ints]
          by_cases hta : tt ∈ Af
          · rw [decide_eq_true hta]
            refine iteT ?_
            refine ⟨_, rfl, p, _, _, .ref pf, rfl, rfl, SqT.of hpc, rfl, pf, rfl, ⟨_, SqL.of hfc⟩, fun D9 hD9 => lc_S (walk_list (K := K) (a := pf) (xs := f.map txtV)) hD9 (by rw [List.length_map]; omega) (fun m acc _ => acc = ((f.take m).map fun y => decide (y.length = 1)).map V.bl) (fun _ _ _ _ _ _ _ h => h) rfl (fun H' e' => SqL.of (e' _ _ hfc)) ?_ ?_⟩
            · rintro m v H9 H9' acc Qt Qf hm e9' hd9 rfl ⟨rfl, hv9⟩ kt kf
              rw [List.getElem?_map] at hv9
              obtain ⟨y, hy, rfl⟩ := Option.map_eq_some_iff.mp hv9
              have := (nm8 y (List.mem_of_getElem? hy)).2.2
              refine ⟨rfl, _, rfl, _, rfl, by rw [txt_len, sizeLine_eq]; omega, rfl, ?_⟩
              rw [show decide (V.int ((txt y).length : Nat) = V.int 1) = decide (y.length = 1) by
                rw [txt_len, decide_eq_decide]
                exact ⟨fun h => by have := V.int.inj h; omega, fun h => by rw [h]; rfl⟩]
              refine kt _ _ (Same.refl _) ?_
              rw [List.take_add_one, hy, List.map_append, List.map_append]
              rfl
            rintro H9 acc e9' hd9 rfl
            rw [List.length_map, List.take_length] at hd9
            refine ⟨D9, _, rfl, SqL.of hd9, _, rfl, ite2 (fun hall => ?_) (fun _ => ⟨ebc.trans e9', _, _, _, _, _, _, rfl⟩)⟩
            have ones : ∀ y ∈ f, y.length = 1 := fun y hy => by
              rw [List.all_eq_true] at hall
              exact of_decide_eq_true (hall _ (List.mem_map.mpr ⟨y, hy, rfl⟩))
            have hk9 := (ebc.trans e9') _ _ hka
            have ht := run_last G ⟨q0, q1⟩ _ z rfl f tt hrun
            refine ⟨_, rfl, pk, rfl, .inl ⟨_, .inl hk9⟩, ?_⟩
            refine ⟨⟨_, rfl⟩, _, rfl, p, _, _, .ref pf, rfl, rfl, SqT.of (e9' _ _ hpc), rfl, _, pf, f.map txt, rfl, rfl, .inl (SqL.of (by rw [List.map_map]; exact e9' _ _ hfc)), ?_, ?_⟩
            · have := sum_txts (f := f) (b := 8) fun y hy => (nm8 y hy).2.2
              rw [List.length_map]
              show _ + f.length * 0 ≤ 16777216
              omega
            rw [join_txts]
            refine ⟨_, DGet.k (k := Sum.inr (txt f.flatten)) hk9, ?_⟩
            have hval : (valV kvs (Sum.inr (txt f.flatten))).getD (V.bl true) = V.bl true := by
              cases hv : valV kvs (Sum.inr (txt f.flatten)) with
              | none => rfl
              | some vv =>
                rw [kn.at' _ _ hv]
                show V.bl (wrt rows q Af f.flatten) = V.bl true
                unfold wrt
                rw [← flat_ones ones, decide_eq_true ⟨tt, ht, hta⟩]
            rw [hval]
            exact ⟨_, rfl, iteF ⟨ebc.trans e9', _, _, _, _, _, _, rfl⟩⟩
          · rw [decide_eq_false hta]
            exact iteF ⟨ebc, _, _, _, _, _, _, rfl⟩
      · rintro σ Hb ⟨eb, c7, c8, c9, c10, c11, c12, rfl⟩
        exact k _ (ea.trans eb)
end
end SS

set_option maxRecDepth 100000
set_option maxHeartbeats 4000000
set_option pp.maxSteps 1500
namespace SS
open PySem L2 SR TL ZA
/-- a reader just made -/
def NewR (C : Addr) (H H' : Hp) (x : Addr) (rows : List Rw) (ends : List Int) (start : Int) : Prop :=
  H x = none ∧ Same H H' ∧ ∀ H'' : Hp, (∀ b o, (H b = none ∨ ∃ xs, o = .tup xs) → H' b = some o → H'' b = some o) → RdAt C H'' x (rows.map sortR) (sortI ends) start
theorem NewR.mono {C : Addr} {H1 H2 H' : Hp} {x : Addr} {rows : List Rw} {ends : List Int} {start : Int} (e : Same H1 H2) (h : NewR C H2 H' x rows ends start) : NewR C H1 H' x rows ends start :=
  ⟨e.free h.1, e.trans h.2.1, fun H'' z => h.2.2 H'' fun b o hb => z b o (hb.imp e.free id)⟩
theorem NewR.at {C : Addr} {H H' : Hp} {x : Addr} {rows : List Rw} {ends : List Int} {start : Int} (h : NewR C H H' x rows ends start) : RdAt C H' x (rows.map sortR) (sortI ends) start := h.2.2 H' fun _ _ _ z => z
theorem ini_mk {K : PySem.W.Frag} {C x dx a e : Addr} {H : Hp} {Q : Hp → Prop} {cs ts : List Nat} {ms : List (List Nat)} {rows : List Rw} {ends : List Int} {start : Int} (nx : H x = none) (ndx : H dx = none) (PA : Pal cs ts ms) (W : WfR cs ts ms rows ends start) (hR : RowsL H a rows) (hE : LoQ K H e (ends.map .int))
    (k : ∀ H', NewR C H H' x rows ends start → Q H') : spIni K C [.ref x, .ref a, .ref e, .int start] (upd (upd H dx (.own x)) x (.ins C dx [])) (fun v H3 => v = .non ∧ Q H3) E0 := by
  have en : Same H (upd (upd H dx (.own x)) x (.ins C dx [])) := same_upd (same_new ndx) nx
  refine ⟨x, dx, a, e, cs, ts, ms, rows, ends, start, rfl, upd_same, PA, W, hR.mono en, hE.mono en, fun H5 ext sb => ⟨rfl, ?_⟩⟩
  have e45 : Same H H5 := fun b o hb => sb b o (ne_of_none hb nx) (en b o hb)
  refine k H5 ⟨nx, e45, fun H'' z => ext H'' fun b o hb => z b o ?_⟩
  rcases hb with hb | rfl | hb
  · exact .inl (en.free hb)
  · exact .inl nx
  · exact .inr hb
def tupI (l : List Int) : PyData := .tuple (l.map .int)
theorem shw_tupI {l : List Int} {m : Nat} (h : ∀ t ∈ l, 0 ≤ t ∧ t < 40) (hm : l.length ≤ m) : Shw (m * 1) 1 (tupI l) := Shw.tup (n := 0) (k := 0) (fun d hd => by
  obtain ⟨i, hi, rfl⟩ := List.mem_map.mp hd
  exact Shw.int (h i hi).1 (h i hi).2) (by rw [List.length_map]; exact hm)
theorem nd_tupI (l : List Int) : (tupI l).hasDict = false := by
  unfold tupI
  simp only [PyData.hasDict]
  exact noDicts fun d hd => by
    obtain ⟨i, _, rfl⟩ := List.mem_map.mp hd
    simp only [PyData.hasDict]
theorem dp_tupI {K : PySem.W.Frag} {H : Hp} {p : Addr} {l : List Int} (h : SqT K H p (l.map .int)) : Dp K H (.ref p) (tupI l) := .tup h (dp_map (fun i => .int i) l)
/-- a door just made -/
def NewD (D : Addr) (H H' : Hp) (g x l : Addr) (q : Int) (S : List Int) : Prop :=
  H g = none ∧ Same H H' ∧ ∀ H'' : Hp, (∀ b o, H b = none → H' b = some o → H'' b = some o) → DoorAt D H'' g x l q S
theorem NewD.at {D : Addr} {H H' : Hp} {g x l : Addr} {q : Int} {S : List Int} (h : NewD D H H' g x l q S) : DoorAt D H' g x l q S := h.2.2 H' fun _ _ _ z => z
theorem door_mk {C D g dx x a l : Addr} {H : Hp} {Q : Hp → Prop} {q : Int} {S : List Int} {rows : List Rw} {ends : List Int} {start : Int} (nx : H g = none) (ndx : H dx = none) (R : RdAt C H x rows ends start) (h12 : rows.length ≤ 12) (q0 : 0 ≤ q) (q1 : q < (rows.length : Int)) (nd : S.Nodup) (rg : ∀ s ∈ S, 0 ≤ s ∧ s < (rows.length : Int)) (hS : LoT H a (S.map .int))
    (k : ∀ H', NewD D H H' g x l q (sortI S) → Q H') : spDIn C D [.ref g, .ref x, .int q, .ref a, .ref l] (upd (upd H dx (.own g)) g (.ins D dx [])) (fun v H3 => v = .non ∧ Q H3) E0 := by
  have en : Same H (upd (upd H dx (.own g)) g (.ins D dx [])) := same_upd (same_new ndx) nx
  refine ⟨g, dx, x, a, l, q, S, rows, ends, start, rfl, upd_same, R.mono en, h12, q0, q1, nd, rg, hS.mono en, fun H5 ext sb => ⟨rfl, ?_⟩⟩
  have e45 : Same H H5 := fun b o hb => sb b o (ne_of_none hb nx) (en b o hb)
  refine k H5 ⟨nx, e45, fun H'' z => ext H'' fun b o hb => z b o ?_⟩
  rcases hb with hb | rfl
  · exact en.free hb
  · exact nx
theorem cover_small {m : Nat} {cs : List Nat} {rows : List (List Int)} {ends fd : List Int} (h : rows.length ≤ m) (O : SG.Order cs rows fd) : SG.Cover m cs rows ends fd :=
  ⟨fd, Nat.le_trans (nodup_len _ _ O.nd O.rg) h, fun s hs => hs, fun p hp => ⟨p, hp, fun n x _ _ => Iff.rfl⟩⟩
theorem lang_mk {L y dx a e : Addr} {H : Hp} {Q : Hp → Prop} {cs : List Nat} {rows : List (List Int)} {ends : List Int} (nx : H y = none) (ndx : H dx = none) (ha : Abc cs) (W : SG.WfM cs rows ends) (h6 : rows.length ≤ 6) (G : SG.Given H cs a e rows ends)
    (k : ∀ H', SG.LangAt rows.length L H' y cs rows ends → Same H H' → Q H') : SG.spInit L [.ref y, .str (txt cs), .ref a, .ref e] (upd (upd H dx (.own y)) y (.ins L dx [])) (fun v H3 => v = .non ∧ Q H3) E0 := by
  have en : Same H (upd (upd H dx (.own y)) y (.ins L dx [])) := same_upd (same_new ndx) nx
  exact ⟨y, dx, cs, a, e, rows, ends, rows.length, rfl, h6, upd_same, ha, W, fun fd O => cover_small (Nat.le_refl _) O, G.mono en, fun H6 LA sb => ⟨rfl, k H6 (LA H6 fun _ _ _ h => h) fun b o hb => sb b o (ne_of_none hb nx) (en b o hb)⟩⟩
theorem LangR_nl {L : Addr} {H H' : Hp} {x : Addr} {cs : List Nat} {rw' : List (List Int)} {en' ns : List Int} (e : ∀ b o, H b = some o → (∀ xs, o ≠ HO.lst xs) → H' b = some o) (h : SG.LangR L H x cs rw' en' ns) : SG.LangR L H' x cs rw' en' ns := by
  obtain ⟨dx, pt, pm, pl, fs, h1, h2, h3, h4, h5, h6, ⟨⟨qs, t1, t2⟩, t3⟩, h8, h9⟩ := h.ex
  exact ⟨dx, pt, pm, pl, fs, e _ _ h1 nofun, h2, h3, h4, h5, h6, ⟨⟨qs, e _ _ t1 nofun, Paired.mono t2 fun p row g => e _ _ g nofun⟩, e _ _ t3 nofun⟩, e _ _ h8 nofun, h9⟩
theorem LangAt_nl {m : Nat} {L : Addr} {H H' : Hp} {x : Addr} {cs : List Nat} {rows : List (List Int)} {ends : List Int} (e : ∀ b o, H b = some o → (∀ xs, o ≠ HO.lst xs) → H' b = some o) (h : SG.LangAt m L H x cs rows ends) : SG.LangAt m L H' x cs rows ends := by
  obtain ⟨rw', en', ns, h1, h2⟩ := h.ex
  exact ⟨rw', en', ns, LangR_nl e h1, h2⟩
theorem asc_id {l : List Int} (h : l.Pairwise (· < ·)) : sortI l = l := (sortI_uniq (List.Perm.refl _) (h.imp fun z => Int.le_of_lt z)).symm
/-- the other states -/
def compl (n : Nat) (E : List Int) : List Int := ((List.range n).map fun k : Nat => (k : Int)).filter fun k => decide (k ∉ E)
theorem compl_mem {n : Nat} {E : List Int} {k : Int} : k ∈ compl n E ↔ (0 ≤ k ∧ k < (n : Int)) ∧ k ∉ E := by
  unfold compl
  rw [List.mem_filter, decide_eq_true_iff, List.mem_map]
  refine and_congr_left fun _ => ⟨fun ⟨m, hm, e⟩ => ?_, fun h => ⟨k.toNat, List.mem_range.mpr (by omega), by omega⟩⟩
  have := List.mem_range.mp hm
  omega
theorem compl_nd {n : Nat} {E : List Int} : (compl n E).Nodup := by
  unfold compl
  refine List.Pairwise.filter _ ?_
  exact List.Pairwise.map _ (fun a b (h : a ≠ b) e => h (by omega)) List.nodup_range
theorem compl_ne {n : Nat} (hn : 1 ≤ n) {E : List Int} : sortI E ≠ sortI (compl n E) := by
  intro e
  have h : ∀ k, k ∈ E ↔ k ∈ compl n E := fun k => by rw [← (sortI_perm E).mem_iff, e, (sortI_perm (compl n E)).mem_iff]
  have h0 := h 0
  rw [compl_mem] at h0
  by_cases z : (0 : Int) ∈ E
  · exact (h0.mp z).2 z
  · exact z (h0.mpr ⟨⟨by omega, by omega⟩, z⟩)
/-- [q, S, T] -/
def shoD (q : Int) (S T : List Int) : PyData := .list [.int q, tupI S, tupI T]
theorem shoD_ok {q : Int} {S T : List Int} (hq : 0 ≤ q ∧ q < 40) (hS : ∀ t ∈ S, 0 ≤ t ∧ t < 40) (lS : S.length ≤ 12) (hT : ∀ t ∈ T, 0 ≤ t ∧ t < 40) (lT : T.length ≤ 12) : (shoD q S T).showable = true ∧ (shoD q S T).hasDict = false ∧ (shoD q S T).depth ≤ 64 ∧ (shoD q S T).shown.length ≤ sizeLine := by
  have S' : Shw 39 2 (shoD q S T) := Shw.list (n := 12) (k := 1) (m := 3) (fun d hd => by
    simp only [List.mem_cons, List.not_mem_nil, or_false] at hd
    rcases hd with rfl | rfl | rfl
    · exact (Shw.int hq.1 hq.2).up (by decide) (by decide)
    · exact (shw_tupI hS lS).up (by decide) (by decide)
    · exact (shw_tupI hT lT).up (by decide) (by decide)) (Nat.le_refl _)
  refine ⟨S'.sh, ?_, Nat.le_trans S'.dp (by decide), Nat.le_trans S'.len (by decide)⟩
  unfold shoD
  simp only [PyData.hasDict]
  exact noDicts fun d hd => by
    simp only [List.mem_cons, List.not_mem_nil, or_false] at hd
    rcases hd with rfl | rfl | rfl
    · simp only [PyData.hasDict]
    · exact nd_tupI _
    · exact nd_tupI _
theorem dp_sho {K : PySem.W.Frag} {H : Hp} {p a b : Addr} {q : Int} {S T : List Int} (h : H p = some (.lst [.int q, .ref a, .ref b])) (h1 : H a = some (.tup (S.map .int))) (h2 : H b = some (.tup (T.map .int))) : Dp K H (.ref p) (shoD q S T) :=
  .lst (SqL.of h) (.cons (.int _) (.cons (dp_tupI (SqT.of h1)) (.cons (dp_tupI (SqT.of h2)) .nil)))
theorem eqvL (a b : List Int) : PyData.eqv (.list (a.map .int)) (.list (b.map .int)) = decide (a = b) := by
  rw [PyData.eqv]
  exact SG.eqv_ints a b
theorem shpL (l : List Int) : SeqAt.shaped (.list (l.map PyData.int)) = true := leaf_list fun d hd => by
  obtain ⟨i, _, rfl⟩ := List.mem_map.mp hd
  exact leaf_int i
end SS

set_option maxRecDepth 100000
set_option maxHeartbeats 4000000
set_option pp.maxSteps 1500
namespace SS
open PySem L2 SR TL ZA
/-- Door(language, behind, state, reader), by names -/
def gD4 {α : Type} : List α → List α → List α
  | [g], [l, b, s, r] => [g, r, s, b, l]
  | _, _ => []
theorem rows_ris {rows : List Rw} (nd : ∀ row ∈ rows, (row.map (·.1)).Nodup) : ∀ r ∈ rows.map sortR, Ris r := fun r h => by
  obtain ⟨r', h1, rfl⟩ := List.mem_map.mp h
  exact ris_sort (nd r' h1)
def upTo (n : Nat) : List Int := (List.range n).map fun k : Nat => (k : Int)
theorem mem_upTo {n : Nat} {t : Int} : t ∈ upTo n ↔ 0 ≤ t ∧ t < (n : Int) := by
  unfold upTo
  rw [List.mem_map]
  refine ⟨fun ⟨m, hm, e⟩ => ?_, fun h => ⟨t.toNat, List.mem_range.mpr (by omega), by omega⟩⟩
  have := List.mem_range.mp hm
  omega
theorem upTo_asc (n : Nat) : (upTo n).Pairwise (· < ·) := List.Pairwise.map _ (fun a b (h : a < b) => by omega) List.pairwise_lt_range
theorem rgV_upTo (n : Nat) : rgV 0 (n : Int) = (upTo n).map V.int := by
  unfold rgV upTo
  rw [List.map_map]
  simp [Function.comp_def]
/-- what the law asks of the classes -/
structure Dcl (P : Program) (w : World) (K : PySem.W.Frag) (mg : Str → Option Value) (base : Heap) (C L D : Addr) : Prop where
  tx : RTx K mg C
  tl : SG.LTx K mg L
  td : DTx K mg D
  srt : ∃ p f fd, FnOk P w K mg base CX0 1 f fd psSelf (spStart C) ∧ PropOf K C "start" p f ∧ Binds K fd psSelf []
  ens : ∃ f fd, FnOk P w K mg base CX0 1 f fd psSelf (spEnds C) ∧ Meth K C "ends" f ∧ Binds K fd psSelf []
  lng : ∃ f fd, Mk K L f ∧ FnOk P w K mg base CX0 4 f fd SG.psI (SG.spInit L) ∧ Binds K fd SG.psI []
  dor : ∃ f fd g, Mk K D f ∧ FnOk P w K mg base CX0 4 f fd psDIn (spDIn C D) ∧ Binds K fd psDIn [] ∧ KBn K fd psDIn 1 ["language", "behind", "state", "reader"] g gD4
  prR : ∃ p f fd, FnOk P w K mg base CX0 1 f fd psDRd (spDRd D) ∧ PropOf K D "reader" p f ∧ Binds K fd psDRd []
  prS : ∃ p f fd, FnOk P w K mg base CX0 1 f fd psDSt (spDSt D) ∧ PropOf K D "state" p f ∧ Binds K fd psDSt []
  prB : ∃ p f fd, FnOk P w K mg base CX0 1 f fd psDBe (spDBe D) ∧ PropOf K D "behind" p f ∧ Binds K fd psDBe []
  prL : ∃ p f fd, FnOk P w K mg base CX0 1 f fd psDLg (spDLg D) ∧ PropOf K D "language" p f ∧ Binds K fd psDLg []
section
variable {P : Program} {w : World} {K : PySem.W.Frag} {mg : Str → Option Value} {base : Heap}
/-! ### _law_doors_right -/
abbrev sDrs : Stmt := top 72
abbrev nDrs : List Str := ["_law_rng_here", "_law_den", "_law_rows", "_law_machines", "_law_paths", "_law_notes", "_law_tongue", "_law_other", "_law_machine", "_law_fresh", "_law_alien", "_law_spot", "_law_one", "_law_at", "_law_two", "_law_gate", "_law_twin", "_law_handed", "_law_second", "_law_further", "_law_shown", "_law_elsewhere"]
abbrev psDrs : List Str := ["_law_rng_here", "_law_den", "_law_rows", "_law_machines", "_law_paths", "_law_notes"]
theorem scDrs : FnScope nDrs psDrs (defScope sDrs) := ⟨rfl, rfl, rfl, by decide +kernel, rfl, by decide +kernel, by decide +kernel⟩
def spDrs (C : Addr) : Sp := fun vs H Q _ => ∃ (r x a mm pp nn t1 t2 : Addr) (cs ts : List Nat) (ms : List (List Nat)) (rows : List Rw) (ends : List Int) (start : Int) (as : List Nat) (m1 m2 : List (List Int)) (e1 e2 : List Int) (ps ns : List (List Nat)), vs = [.ref r, .ref x, .ref a, .ref mm, .ref pp, .ref nn] ∧
  H r = some (rngO r) ∧ RdAt C H x (rows.map sortR) (sortI ends) start ∧ Pal cs ts ms ∧ WfR cs ts ms rows ends start ∧ rows.length ≤ 5 ∧ RwsL H a rows ∧ H mm = some (.lst [.ref t1, .ref t2]) ∧ Abc as ∧ SG.Mach H as t1 m1 e1 ∧ SG.Mach H as t2 m2 e2 ∧ SG.WfM as m1 e1 ∧ SG.WfM as m2 e2 ∧ m1.length ≤ 3 ∧ m2.length ≤ 3 ∧
  H pp = some (.lst (ps.map txtV)) ∧ (∀ z ∈ ps, z.length ≤ 100) ∧ H nn = some (.lst (ns.map txtV)) ∧ (∀ z ∈ ns, Lets z ∧ z.length ≤ 100) ∧ ns.length ≤ 1000 ∧ ∀ H', Same H H' → Q (.bl true) H'
theorem ok_drs {f C L D fi e fr fl fq : Addr} {fd fdi fdr fdl fdq : FuncData} (F : Fun K "_law_doors_right" "_law_doors_right" sDrs f fd) (B : Bl mg) (I : RdK P w K mg base C fi fdi e) (M : Dcl P w K mg base C L D) (Er : EqO P w K mg base C 2 psEql (spEql C) fr fdr) (El : EqO P w K mg base L 2 ["self", "other"] (SG.spEqA L) fl fdl)
    (Dw : Cal P w K mg base "_law_draw" 1 ["_law_rng_here", "_law_many"] spDraw) (Ch : Cal P w K mg base "_law_choice" 2 ["_law_rng_here", "_law_some"] (spChoice K)) (Cm : CalG P w K mg base "_law_compared" 5 psCmp (spCmp C L D)) (Do : CalG P w K mg base "_law_door_right" 5 psDor (spDor C D)) : FnG P w K mg base 9 f fd psDrs (spDrs C) := by
  obtain ⟨pS, fS, dS, GS, mS, bS⟩ := M.srt
  obtain ⟨fE, dE, GE, mE, bE⟩ := M.ens
  obtain ⟨fL, dL, ML, GL, bL⟩ := M.lng
  obtain ⟨fD, dD, gD, MD, GD, bD, kD⟩ := M.dor
  obtain ⟨pr1, fr1, dr1, GDr, mDr, bDr⟩ := M.prR
  obtain ⟨pr2, fr2, dr2, GDs, mDs, bDs⟩ := M.prS
  obtain ⟨pr3, fr3, dr3, GDb, mDb, bDb⟩ := M.prB
  obtain ⟨pr4, fr4, dr4, GDl, mDl, bDl⟩ := M.prL
  obtain ⟨g3, kb3⟩ := I.k3
  have T := M.tx
  have TL := M.tl
  have TD := M.td
  refine okG F scDrs (fun vs H Q E h => ?_) (fun cdv A outer s H vs Q E hr hgd h => ?_)
  · obtain ⟨r, x, a, mm, pp, nn, t1, t2, cs, ts, ms, rows, ends, start, as, m1, m2, e1, e2, ps, ns, rfl, _⟩ := h
    rfl
  · obtain ⟨r, x, a, mm, pp, nn, t1, t2, cs, ts, ms, rows, ends, start, as, m1, m2, n1, n2, ps, ns, rfl, hR, R, PA, W, r5, RL, hM, ha, M1, M2', W1, W2, l1, l2, hP, pl, hN, nl, n1000, k⟩ := h
    have hr1 := hr.mono (by decide : 1 ≤ 8)
    have hr2 := hr.mono (by decide : 2 ≤ 8)
    have hr3 := hr.mono (by decide : 3 ≤ 8)
    have hr5 := hr.mono (by decide : 5 ≤ 8)
    have hr8 := hr
    have hu := hu_of hr
    refine ⟨_, pss_cons (ps_asg (pe_lc (own := [("_law_machine", 8)]) (g := gName 8) (tt := tYes) (te := tMake L (SG.spInit L) [] E0 (tCons (tOp (rIxT K) (tVar 8) (tC (.int 0))) (tCons (tOp (rIxT K) (tVar 8) (tC (.int 1))) (tCons (tOp (rIxT K) (tVar 8) (tC (.int 2))) tNil)))) rfl scDrs.nd (pi_list (pv 3)) (blkOk_by (by kernel_rfl)) (fun _ _ _ _ _ => pg_name (i := 8) scDrs.nd rfl (.inl rfl)) (fun _ _ _ _ _ => pts_nil) (fun _ _ _ _ _ => pe_make ML GL hr5 (by rfl) TL.mgC bL .nil pass0 (pa_cons (pe_ix ix_tup (pv 8) pe_int (fun _ _ => rfl)) (pa_cons (pe_ix ix_tup (pv 8) pe_int (fun _ _ => rfl)) (pa_cons (pe_ix ix_tup (pv 8) pe_int (fun _ _ => rfl)) pa_nil))))) (pg_unl rfl (pgs_cons (pg_name (i := 6) scDrs.nd rfl (.inl rfl)) (pgs_cons (pg_name (i := 7) scDrs.nd rfl (.inl rfl)) pgs_nil))))
      (pss_cons (ps_set (i := 9) scDrs.nd rfl (.inl rfl) (pe_makeN I.mak I.ok hr8 (by rfl) I.mgC kb3 pass0 (pa_cons (pv 2) (pa_cons (pe_meth0 (pv 1) T.cl mE GE hr1 bE .nil pass0) pa_nil)) (pk_cons (pe_prop (pv 1) T.cl mS GS hr2 bS .nil pass0 (by rfl)) pk_nil)))
      (pss_cons (ps_set (i := 10) scDrs.nd rfl (.inl rfl) (pe_makeN I.mak I.ok hr8 (by rfl) I.mgC kb3 pass0 (pa_cons (pv 2) (pa_cons (pe_lc (own := [("_law_spot", 11)]) (g := gName 11) (tt := tTest (tOp (rIn K true) (tVar 11) (tMeth C "ends" (spEnds C) [] E0 (tVar 1) tNil))) (te := tVar 11) rfl scDrs.nd (pi_range1 (by rfl) B.range (pa_cons (pe_callB call_len_seq (by rfl) B.len boot_len (pa_cons (pv 2) pa_nil)) pa_nil)) (blkOk_by (by kernel_rfl)) (fun _ _ _ _ _ => pg_name (i := 11) scDrs.nd rfl (.inl rfl)) (fun _ _ _ _ _ => pts_one (pt_cmpR op_notIn_seq (pv 11) (pe_meth0 (pv 1) T.cl mE GE hr1 bE .nil pass0) (by rfl))) (fun _ _ _ _ _ => pv 11)) pa_nil)) (pk_cons (pe_prop (pv 1) T.cl mS GS hr2 bS .nil pass0 (by rfl)) pk_nil)))
      (pss_cons (ps_for PassesOwn.never rfl (pi_range1 (by rfl) B.range (pa_cons (pe_callB call_len_seq (by rfl) B.len boot_len (pa_cons (pv 2) pa_nil)) pa_nil)) (pg_name (i := 11) scDrs.nd rfl (.inl rfl))
        (pss_cons (ps_setLc (i := 12) (own := [("_law_at", 13)]) (g := gName 13) (tt := tTest (tOp (rEq) (tCall spDraw [] E0 (tCons (tVar 0) (tCons (tC (.int 2)) tNil))) (tC (.int 0)))) (te := tVar 13) rfl scDrs.nd rfl rfl (sw_true rfl rfl rfl (by decide +kernel)) (pi_range1 (by rfl) B.range (pa_cons (pe_callB call_len_seq (by rfl) B.len boot_len (pa_cons (pv 2) pa_nil)) pa_nil)) (blkOk_by (by kernel_rfl)) (fun _ _ _ _ _ => pg_name (i := 13) scDrs.nd rfl (.inl rfl)) (fun _ _ _ _ _ => pts_one (pt_cmpR op_eq (pe_cal Dw hr1 (pa_cons (pv 0) (pa_cons pe_int pa_nil))) pe_int (nomark _))) (fun _ _ _ _ _ => pv 13))
      (pss_cons (ps_set (i := 14) scDrs.nd rfl (.inl rfl) (pe_revL (pe_cal Ch hr2 (pa_cons (pv 0) (pa_cons (pe_lst (pa_cons (pe_lst pa_nil) (pa_cons (pe_listRg rfl (by rfl) B.list (prg_1 (by rfl) B.range (pe_callB call_len_seq (by rfl) B.len boot_len (pa_cons (pv 2) pa_nil)))) (pa_cons (pv 12) pa_nil)))) pa_nil)))))
      (pss_cons (ps_par (i := 15) (j := 16) (by rfl) scDrs.nd rfl rfl (by decide) rfl rfl (pa_cons (pe_make MD GD hr5 (by rfl) TD.mgD bD .nil pass0 (pa_cons (pv 1) (pa_cons (pv 11) (pa_cons (pe_callTy call_tuple_of (by rfl) B.tuple (by decide +kernel) (pa_cons (pv 12) pa_nil)) (pa_cons (pv 6) pa_nil))))) (pa_cons (pe_make MD GD hr5 (by rfl) TD.mgD bD .nil pass0 (pa_cons (pv 1) (pa_cons (pv 11) (pa_cons (pe_revL (pv 12)) (pa_cons (pv 6) pa_nil))))) pa_nil)) (by rfl))
      (pss_cons (ps_set (i := 17) scDrs.nd rfl (.inl rfl) (pe_callTy call_list_of (by rfl) B.list (by decide +kernel) (pa_cons (pv 14) pa_nil)))
      (pss_cons (ps_par (i := 18) (j := 19) (by rfl) scDrs.nd rfl rfl (by decide) rfl rfl (pa_cons (pe_makeN0 MD GD hr5 (by rfl) TD.mgD kD pass0 (pk_cons (pv 6) (pk_cons (pv 17) (pk_cons (pv 11) (pk_cons (pv 1) pk_nil))))) (pa_cons (pe_make MD GD hr5 (by rfl) TD.mgD bD .nil pass0 (pa_cons (pv 1) (pa_cons (pv 11) (pa_cons (pv 12) (pa_cons (pv 7) pa_nil))))) pa_nil)) (by rfl))
      (pss_cons (ps_expr (pe_bm0 PySem.F.plainAttrs_list PySem.F.slot_list_clear PySem.F.type_list_clear mt_clear (pv 17)))
      (pss_cons (ps_set (i := 20) scDrs.nd rfl (.inl rfl) (pe_callB (call_reprD hgd (Nat.lt_of_succ_lt (u66 hr))) (by rfl) B.repr (by decide +kernel) (pa_cons (pe_lst (pa_cons (pe_prop (pv 15) TD.cl mDs GDs hr2 bDs .nil pass0 (by rfl)) (pa_cons (pe_prop (pv 15) TD.cl mDb GDb hr2 bDb .nil pass0 (by rfl)) (pa_cons (pe_prop (pv 18) TD.cl mDb GDb hr2 bDb .nil pass0 (by rfl)) pa_nil)))) pa_nil)))
      (pss_cons (ps_if (PW.pt (pw_or (pt_cmpR op_ne (pv 20) (pe_callB (call_reprD hgd (Nat.lt_of_succ_lt (u66 hr))) (by rfl) B.repr (by decide +kernel) (pa_cons (pe_lst (pa_cons (pv 11) (pa_cons (pe_callTy call_tuple_of (by rfl) B.tuple (by decide +kernel) (pa_cons (pv 12) pa_nil)) (pa_cons (pe_callTy call_tuple_of (by rfl) B.tuple (by decide +kernel) (pa_cons (pe_callB cr_sortedLT (by rfl) B.sorted (by decide +kernel) (pa_cons (pv 14) pa_nil)) pa_nil)) pa_nil)))) pa_nil)) (nomark _)) (pw_or (pt_cmpR (op_neOwn Er.eq.ok hr3 hgd Er.ne Er.sub Er.eq.at_ Er.eq.isf Er.eq.bnd) (pe_prop (pv 15) TD.cl mDr GDr hr2 bDr .nil pass0 (by rfl)) (pv 1) (nomark _)) (pw_or1 (pt_cmpR (op_neOwn El.eq.ok hr3 hgd El.ne El.sub El.eq.at_ El.eq.isf El.eq.bnd) (pe_prop (pv 15) TD.cl mDl GDl hr2 bDl .nil pass0 (by rfl)) (pv 6) (nomark _))))))
        (pss_one (ps_ret pe_bl)) pss_nil)
      (pss_cons (ps_if (PW.pt (pw_or (pt_not (pt_val (pe_calG Cm hr5 hgd (pa_cons (pv 15) (pa_cons (pv 16) (pa_cons pe_bl pa_nil)))))) (pw_or1 (pt_not (pt_val (pe_calG Cm hr5 hgd (pa_cons (pv 15) (pa_cons (pv 11) (pa_cons pe_bl pa_nil)))))))))
        (pss_one (ps_ret pe_bl)) pss_nil)
      (pss_cons (ps_if (PW.pt (pw_or (pt_not (pt_val (pe_calG Cm hr5 hgd (pa_cons (pv 15) (pa_cons (pv 18) (pa_cons (pe_cmpR (op_eqD hr.units) (pe_callB cr_sortedLT (by rfl) B.sorted (by decide +kernel) (pa_cons (pv 14) pa_nil)) (pv 12) (nomark _)) pa_nil)))))) (pw_or1 (pt_not (pt_val (pe_calG Cm hr5 hgd (pa_cons (pv 15) (pa_cons (pv 19) (pa_cons (pe_cmpR (op_eqOwn El.eq.ok hr2 hgd El.eq.at_ El.eq.isf El.eq.bnd) (pv 6) (pv 7) (nomark _)) pa_nil)))))))))
        (pss_one (ps_ret pe_bl)) pss_nil)
      (pss_cons (ps_if (pt_not (pt_val (pe_calG Cm hr5 hgd (pa_cons (pv 15) (pa_cons (pe_make MD GD hr5 (by rfl) TD.mgD bD .nil pass0 (pa_cons (pv 9) (pa_cons (pv 11) (pa_cons (pv 12) (pa_cons (pv 6) pa_nil))))) (pa_cons pe_bl pa_nil))))))
        (pss_one (ps_ret pe_bl)) pss_nil)
      (pss_cons (ps_if (pt_not (pt_val (pe_calG Cm hr5 hgd (pa_cons (pv 15) (pa_cons (pe_make MD GD hr5 (by rfl) TD.mgD bD .nil pass0 (pa_cons (pv 10) (pa_cons (pv 11) (pa_cons (pv 12) (pa_cons (pv 6) pa_nil))))) (pa_cons pe_bl pa_nil))))))
        (pss_one (ps_ret pe_bl)) pss_nil)
      (pss_cons (ps_set (i := 21) scDrs.nd rfl (.inl rfl) (pe_make MD GD hr5 (by rfl) TD.mgD bD .nil pass0 (pa_cons (pv 1) (pa_cons (pe_op op_mod (pe_callTy call_int1 (by rfl) B.int (by decide +kernel) (pa_cons (pe_op op_add (pv 11) pe_int) pa_nil)) (pe_callB call_len_seq (by rfl) B.len boot_len (pa_cons (pv 2) pa_nil))) (pa_cons (pv 12) (pa_cons (pv 6) pa_nil))))))
      (pss_cons (ps_if (pt_not (pt_val (pe_calG Cm hr5 hgd (pa_cons (pv 15) (pa_cons (pv 21) (pa_cons (pe_cmpR op_eq (pe_callB call_len_seq (by rfl) B.len boot_len (pa_cons (pv 2) pa_nil)) pe_int (nomark _)) pa_nil))))))
        (pss_one (ps_ret pe_bl)) pss_nil)
      (pss_cons (ps_if (pt_not (pt_val (pe_calG Do hr5 hgd (pa_cons (pv 15) (pa_cons (pv 2) (pa_cons (pv 11) (pa_cons (pv 12) (pa_cons (pv 4) (pa_cons (pv 5) pa_nil)))))))))
        (pss_one (ps_ret pe_bl)) pss_nil)
      (pss_one (ps_if (pt_not (pt_val (pe_calG Do hr5 hgd (pa_cons (pv 18) (pa_cons (pv 2) (pa_cons (pv 11) (pa_cons (pv 14) (pa_cons (pv 4) (pa_cons (pv 5) pa_nil)))))))))
        (pss_one (ps_ret pe_bl)) pss_nil))))))))))))))))))
      (pss_one (ps_ret pe_bl))))), ?_⟩
    obtain ⟨mcs, hmcs⟩ : ∃ mcs : List (Addr × List (List Int) × List Int), mcs = [(t1, m1, n1), (t2, m2, n2)] := ⟨_, rfl⟩
    have hmm : H mm = some (.lst (mcs.map fun t => V.ref t.1)) := by rw [hM, hmcs]; rfl
    have hml : mcs.length = 2 := by rw [hmcs]; rfl
    have hmw : ∀ t ∈ mcs, SG.Mach H as t.1 t.2.1 t.2.2 ∧ SG.WfM as t.2.1 t.2.2 ∧ t.2.1.length ≤ 3 := by
      intro t ht
      rw [hmcs] at ht
      simp only [List.mem_cons, List.not_mem_nil, or_false] at ht
      rcases ht with rfl | rfl
      · exact ⟨M1, W1, l1⟩
      · exact ⟨M2', W2, l2⟩
    refine ⟨_, rfl, mm, rfl, ⟨_, SqL.of hmm⟩, fun Dl hDl => lc_S (walk_list (K := K) (a := mm) (xs := mcs.map fun t => V.ref t.1)) hDl (by rw [List.length_map, hml]; decide) (fun i acc H' => ∃ ys : List Addr, acc = ys.map .ref ∧ Paired (fun y (t : Addr × List (List Int) × List Int) => SG.LangAt t.2.1.length L H' y as t.2.1 t.2.2) ys (mcs.take i)) ?_ ⟨[], rfl, .nil⟩ (fun H' e' => SqL.of (e' _ _ hmm)) ?_ ?_⟩
    · rintro i acc acc' H2 H3 hd ee ⟨ys, p1, p2⟩
      exact ⟨ys, p1, Paired.mono p2 fun a b h => LangAt_nl (fun c o hc no => ee _ _ (fun z => by rw [z, hd] at hc; cases hc; exact no _ rfl) hc) h⟩
    · rintro i v H2 H2' acc Qt Qf hi e2 hd ⟨ys, rfl, hq⟩ ⟨rfl, hv⟩ kt kf
      rw [List.getElem?_map] at hv
      obtain ⟨t, ht, rfl⟩ := Option.map_eq_some_iff.mp hv
      obtain ⟨Mt, Wt, lt3⟩ := hmw t (List.mem_of_getElem? ht)
      obtain ⟨pr, pe, qs, q1, q2, q3, q4⟩ := (Mt.mono e2).ex
      refine ⟨rfl, _, rfl, t.1, _, _, _, rfl, rfl, SqT.of q1, rfl, _, rfl, t.1, _, _, _, rfl, rfl, SqT.of q1, rfl, _, rfl, t.1, _, _, _, rfl, rfl, SqT.of q1, rfl, fun y dy ny ndy ney => ?_⟩
      refine lang_mk ny ndy ha Wt (by omega) (SG.Given.mk ⟨qs, .inl q2, q3⟩ (.inl q4)) fun H5 LA e5 => kt _ _ e5 ⟨ys ++ [y], by simp, ?_⟩
      rw [List.take_add_one, ht]
      exact paired_snoc (Paired.mono hq fun a b h => h.mono e5) LA
    rintro H1 acc e01 hd1 ⟨ys, rfl, hys⟩
    obtain ⟨y1, y2, rfl, LA1, LA2⟩ : ∃ y1 y2, ys = [y1, y2] ∧ SG.LangAt m1.length L H1 y1 as m1 n1 ∧ SG.LangAt m2.length L H1 y2 as m2 n2 := by
      rw [List.length_map, hmcs] at hys
      match ys, hys with
      | [a, b], .cons h1 (.cons h2 .nil) => exact ⟨a, b, rfl, h1, h2⟩
    clear hmcs hmm hml hmw hys
    refine ⟨Dl, _, rfl, SqL.of hd1, rfl, _, _, rfl, _, _, rfl, rfl, ?_⟩
    clear hd1 hDl
    obtain ⟨dx, _, pe0, fs, _, d1, _, _, _, d5, _⟩ := id R.ex
    have lE := d5 "ends" (by decide +kernel) (by decide +kernel) (by decide +kernel)
    have WE : WfR cs ts ms rows (sortI ends) start := ⟨W.one, W.most, W.nd, W.key, W.goal, W.told, fun s hs => W.end0 s ((sortI_perm _).mem_iff.mp hs), (sortI_perm _).nodup_iff.mpr W.endN, W.st0, W.st1⟩
    have WC : WfR cs ts ms rows (compl rows.length (sortI ends)) start := ⟨W.one, W.most, W.nd, W.key, W.goal, W.told, fun s hs => (compl_mem.mp hs).1, compl_nd, W.st0, W.st1⟩
    obtain ⟨qs, r1, r2⟩ := id RL
    have hql : qs.length = rows.length := Paired.length r2
    have RwL : RowsL H a rows := ⟨qs, .inl r1, r2⟩
    -- the same reader anew
    refine ⟨_, rfl, _, rfl, x, dx, fs, rfl, e01 _ _ d1, lE, x, _, _, _, rfl, R.mono e01, fun pe hpe => ⟨_, rfl, x, dx, fs, rfl, e01 _ _ d1, x, _, _, _, rfl, R.mono e01, rfl, rfl, fun x2 dx2 nx2 ndx2 nex2 => ini_mk nx2 ndx2 PA WE (RwL.mono e01) (.inl (.inr hpe)) fun H2 N2 => ?_⟩⟩
    have e12 := N2.2.1
    have R2 := N2.at
    have sid : sortI (sortI ends) = sortI ends := (sortI_uniq (List.Perm.refl _) (sortI_ord ends)).symm
    rw [sid] at R2
    have e02 := e01.trans e12
    clear N2 nx2 ndx2 nex2 hpe
    -- one of other ends
    refine ⟨_, rfl, _, rfl, a, _, rfl, .inl (SqL.of (e02 _ _ r1)), _, rfl, by rw [List.length_map]; omega, by rw [List.length_map]; omega, ?_⟩
    rw [List.length_map, hql, Int.toNat_natCast]
    refine fun Da hDa => lc_S (walk_range (lo := 0) (n := rows.length)) hDa (by omega) (fun i acc _ => acc = (((List.range i).map fun k : Nat => (k : Int)).filter fun k => decide (k ∉ sortI ends)).map V.int) (fun _ _ _ _ _ _ _ h => h) rfl (fun _ _ => trivial) ?_ ?_
    · rintro i v H3 H3' acc Qt Qf hi e3 hd rfl ⟨rfl, hv0⟩ kt kf
      have hv1 : v = V.int (i : Nat) := hv0.trans (congrArg V.int (Int.zero_add _))
      subst hv1
      have e03 := e02.trans e3
      have et : ∀ b : Bool, decide (((i : Nat) : Int) ∉ sortI ends) = b → ((((List.range (i + 1)).map fun k : Nat => (k : Int)).filter fun k => decide (k ∉ sortI ends)).map V.int) = ((((List.range i).map fun k : Nat => (k : Int)).filter fun k => decide (k ∉ sortI ends)).map V.int) ++ (if b = true then [V.int (i : Nat)] else []) := fun b hb => by
        rw [List.range_succ, List.map_append, List.filter_append, List.map_append]
        congr 1
        show (List.filter _ [((i : Nat) : Int)]).map V.int = _
        rw [List.filter_cons, List.filter_nil, hb]
        cases b <;> rfl
      refine ⟨rfl, _, rfl, _, rfl, x, dx, fs, rfl, e03 _ _ d1, lE, x, _, _, _, rfl, R.mono e03, fun pe hpe => ⟨pe, _, rfl, .inr (SqT.of hpe), rfl, flat_ints _, _, rfl, ?_⟩⟩
      rw [if_pos rfl, inV_ints]
      by_cases hm : ((i : Nat) : Int) ∈ sortI ends
      · rw [decide_eq_true hm]
        exact iteF (kf _ (Same.refl _) ((et false (decide_eq_false fun h => h hm)).trans (List.append_nil _)).symm)
      · rw [decide_eq_false hm]
        exact iteT ⟨_, rfl, kt _ _ (Same.refl _) (et true (decide_eq_true hm)).symm⟩
    rintro H3 acc e23 hd3 rfl
    have hd3' : H3 Da = some (.lst ((compl rows.length (sortI ends)).map V.int)) := hd3
    have e03 := e02.trans e23
    refine ⟨_, rfl, x, dx, fs, rfl, e03 _ _ d1, x, _, _, _, rfl, R.mono e03, rfl, rfl, fun x3 dx3 nx3 ndx3 nex3 => ini_mk nx3 ndx3 PA WC (RwL.mono e03) (.inl (.inl hd3')) fun H4 N3 => ?_⟩
    have e34 := N3.2.1
    have R3 := N3.at
    have e04 := e03.trans e34
    have R2b := R2.mono (e23.trans e34)
    have LA1b := LA1.mono ((e12.trans e23).trans e34)
    have LA2b := LA2.mono ((e12.trans e23).trans e34)
    clear N3 nx3 ndx3 nex3 hd3 hd3' hDa R2 LA1 LA2
    obtain ⟨u1, c1, k1, LR1, LW1, _⟩ := id LA1b.ex
    obtain ⟨u2, c2, k2, LR2, LW2, _⟩ := id LA2b.ex
    have rA := rows_ris W.nd
    -- each state
    refine ⟨_, rfl, a, _, rfl, .inl (SqL.of (e04 _ _ r1)), _, rfl, by rw [List.length_map]; omega, by rw [List.length_map]; omega, ?_⟩
    rw [List.length_map, hql, Int.toNat_natCast]
    refine for_it (walk_range (lo := 0) (n := rows.length)) (fun i σ H' => Same H4 H' ∧ ∃ (a8 a11 a12 a13 a14 a15 a16 a17 a18 a19 a20 a21 : Option V), σ = [some (.ref r), some (.ref x), some (.ref a), some (.ref mm), some (.ref pp), some (.ref nn), some (.ref y1), some (.ref y2), a8, some (.ref x2), some (.ref x3), a11, a12, a13, a14, a15, a16, a17, a18, a19, a20, a21]) ⟨Same.refl _, _, _, _, _, _, _, _, _, _, _, _, _, rfl⟩ (fun _ _ _ _ _ => trivial) ?_ ?_
    · rintro i v σ H5 H5' hi ⟨e45, a8, a11, a12, a13, a14, a15, a16, a17, a18, a19, a20, a21, rfl⟩ ⟨rfl, rfl⟩
      show gName 11 (V.int ((0 : Int) + (i : Nat))) _ _ _
      rw [Int.zero_add]
      have i0 : (0 : Int) ≤ (i : Nat) := by omega
      have i1 : ((i : Nat) : Int) < (rows.length : Int) := by omega
      have e05 := e04.trans e45
      refine ⟨_, rfl, a, _, rfl, .inl (SqL.of (e05 _ _ r1)), _, rfl, by rw [List.length_map]; omega, by rw [List.length_map]; omega, ?_⟩
      rw [List.length_map, hql, Int.toNat_natCast]
      refine fun D1 hD1 => lc_S (walk_range (lo := 0) (n := rows.length)) hD1 (by omega) (fun i acc _ => ∃ es : List Int, acc = es.map .int ∧ es.Pairwise (· < ·) ∧ ∀ e ∈ es, 0 ≤ e ∧ e < (i : Int)) (fun _ _ _ _ _ _ _ h => h) ⟨[], rfl, List.Pairwise.nil, (fun _ h => nomatch h)⟩ (fun _ _ => trivial) ?_ ?_
      · rintro j v H6 H6' acc Qt Qf hj e6 hd ⟨es, rfl, q1, q2⟩ ⟨rfl, rfl⟩ kt kf
        refine ⟨rfl, _, rfl, r, _, rfl, by decide, by decide, (e05.trans e6) _ _ hR, fun d H7 d0 d1' e7 => ⟨rfl, _, rfl, ite2 (fun _ => ?_) (fun _ => ?_)⟩⟩
        · refine ⟨_, rfl, kt _ _ e7 ⟨es ++ [(0 + (j : Int))], by simp, ?_, ?_⟩⟩
          · rw [List.pairwise_append]
            exact ⟨q1, List.pairwise_singleton _ _, fun a ha b hb => by rw [List.mem_singleton.mp hb]; have := q2 a ha; omega⟩
          · intro e he
            rcases List.mem_append.mp he with z | z
            · have := q2 e z; omega
            · rw [List.mem_singleton] at z; omega
        · exact kf _ e7 ⟨es, rfl, q1, fun e he => by have := q2 e he; omega⟩
      rintro H6 acc e56 hd6 ⟨A, rfl, A1, A2⟩
      have e06 := e05.trans e56
      have And : A.Nodup := A1.imp fun h e => by omega
      have A12 : A.length ≤ 12 := by have := nodup_len _ _ And A2; omega
      have Aid : sortI A = A := asc_id A1
      -- the other set
      refine ⟨_, rfl, by show 0 ≤ sizeLine; decide, fun p1 np1 => ?_⟩
      have q1 := same_new (o := .lst []) np1
      have h1 := upd_same (H := H6) (a := p1) (o := .lst [])
      generalize (upd H6 p1 (.lst [])) = H7 at q1 h1 ⊢
      refine ⟨_, rfl, a, _, rfl, .inl (SqL.of ((e06.trans q1) _ _ r1)), _, rfl, RgOk.of_le (by omega) (by rw [List.length_map]; omega) (by omega) (by omega), fun p2 np2 => ⟨_, rfl, by show 3 ≤ sizeLine; decide, fun p3 np3 => ?_⟩⟩
      rw [List.length_map, hql, rgV_upTo] at *
      have q2 := same_new (o := .lst ((upTo rows.length).map V.int)) np2
      have h2 := upd_same (H := H7) (a := p2) (o := .lst ((upTo rows.length).map V.int))
      generalize (upd H7 p2 (.lst ((upTo rows.length).map V.int))) = H8 at q2 h2 np3 ⊢
      have q3 := same_new (o := .lst [V.ref p1, .ref p2, .ref D1]) np3
      have h3 := upd_same (H := H8) (a := p3) (o := .lst [V.ref p1, .ref p2, .ref D1])
      generalize (upd H8 p3 (.lst [V.ref p1, .ref p2, .ref D1])) = H9 at q3 h3 ⊢
      have q13 := q1.trans (q2.trans q3)
      have hD9 := q13 _ _ hd6
      have hT : ∀ v ∈ [V.ref p1, V.ref p2, V.ref D1], ∃ (b : Addr) (T : List Int), v = .ref b ∧ H9 b = some (.lst (T.map V.int)) ∧ T.Pairwise (· < ·) ∧ ∀ e ∈ T, 0 ≤ e ∧ e < (rows.length : Int) := by
        intro v hv
        simp only [List.mem_cons, List.not_mem_nil, or_false] at hv
        rcases hv with rfl | rfl | rfl
        · exact ⟨p1, [], rfl, (q2.trans q3) _ _ h1, List.Pairwise.nil, fun _ h => nomatch h⟩
        · exact ⟨p2, upTo rows.length, rfl, q3 _ _ h2, upTo_asc _, fun e he => mem_upTo.mp he⟩
        · exact ⟨D1, A, rfl, hD9, A1, A2⟩
      have e09 := e06.trans q13
      refine .inl ⟨r, p3, _, rfl, e09 _ _ hR, SqL.of h3, by show 0 < 3; decide, by show 3 < 1000; decide, fun v H10 hv e910 => ?_⟩
      obtain ⟨b, B, rfl, hb, B1, B2⟩ := hT v hv
      have e010 := e09.trans e910
      refine ⟨b, _, rfl, SqL.of (e910 _ _ hb), fun pB npB => ?_⟩
      rw [← List.map_reverse] at *
      have q4 := same_new (o := .lst (B.reverse.map V.int)) npB
      have hB := upd_same (H := H10) (a := pB) (o := .lst (B.reverse.map V.int))
      generalize (upd H10 pB (.lst (B.reverse.map V.int))) = H11 at q4 hB ⊢
      have Brn : B.reverse.Nodup := (List.reverse_perm B).nodup_iff.mpr (B1.imp fun h e => by omega)
      have Brg : ∀ e ∈ B.reverse, 0 ≤ e ∧ e < (rows.length : Int) := fun e he => B2 e (List.mem_reverse.mp he)
      generalize B.reverse = Z at hB Brn Brg ⊢
      have Z12 : Z.length ≤ 12 := by have := nodup_len _ _ Brn Brg; omega
      clear hT hb B1 B2 h1 h2 h3
      have e611 := q13.trans (e910.trans q4)
      have e011 := e06.trans e611
      have hA := e611 _ _ hd6
      have hRl : (rows.map sortR).length = rows.length := List.length_map _
      have R11 := R.mono e011
      have ArL : ∀ e ∈ A, 0 ≤ e ∧ e < ((rows.map sortR).length : Int) := fun e he => by rw [hRl]; exact A2 e he
      have ZrL : ∀ e ∈ Z, 0 ≤ e ∧ e < ((rows.map sortR).length : Int) := fun e he => by rw [hRl]; exact Brg e he
      have i1L : ((i : Nat) : Int) < ((rows.map sortR).length : Int) := by rw [hRl]; exact i1
      have h12L : (rows.map sortR).length ≤ 12 := by rw [hRl]; omega
      have ArR : ∀ e ∈ A.reverse, 0 ≤ e ∧ e < ((rows.map sortR).length : Int) := fun e he => ArL e (List.mem_reverse.mp he)
      have AnR : A.reverse.Nodup := (List.reverse_perm A).nodup_iff.mpr And
      have AsR : sortI A.reverse = A := ((sortI_uniq ((List.reverse_perm A).symm.trans (List.Perm.refl _)) (A1.imp fun z => Int.le_of_lt z))).symm
      -- the first door
      refine ⟨_, rfl, _, rfl, _, rfl, D1, _, rfl, .inl ⟨SqL.of hA, fun pt npt => ⟨_, rfl, fun g dg ng ndg neg => ?_⟩⟩⟩
      have q5 := same_new (o := .tup (A.map V.int)) npt
      have h5 := upd_same (H := H11) (a := pt) (o := .tup (A.map V.int))
      generalize (upd H11 pt (.tup (A.map V.int))) = H12 at q5 h5 ng ndg ⊢
      refine door_mk ng ndg (R11.mono q5) h12L i0 i1L And ArL (.inr h5) fun H13 N1 => ?_
      have q6 := N1.2.1
      have G1 := N1.at
      rw [Aid] at G1
      have q56 := q5.trans q6
      -- the second one, of the same
      refine ⟨_, rfl, _, rfl, _, rfl, D1, _, rfl, SqL.of (q56 _ _ hA), fun pr npr => ⟨_, rfl, fun g' dg' ng' ndg' neg' => ?_⟩⟩
      rw [← List.map_reverse] at *
      have q7 := same_new (o := .lst (A.reverse.map V.int)) npr
      have h7 := upd_same (H := H13) (a := pr) (o := .lst (A.reverse.map V.int))
      generalize (upd H13 pr (.lst (A.reverse.map V.int))) = H14 at q7 h7 ng' ndg' ⊢
      refine door_mk ng' ndg' ((R11.mono q56).mono q7) h12L i0 i1L AnR ArR (.inl h7) fun H15 N2 => ?_
      have q8 := N2.2.1
      have G2 := N2.at
      rw [AsR] at G2
      refine ⟨_, _, rfl, ?_⟩
      have q78 := q7.trans q8
      have G1b := G1.mono q78
      have q58 := q56.trans q78
      clear N1 N2 G1
      -- handed
      have hB15 := q58 _ _ hB
      refine ⟨_, rfl, pB, _, rfl, .inl (SqL.of hB15), fun ph nph => ?_⟩
      have q9 := same_new (o := .lst (Z.map V.int)) nph
      have h9 := upd_same (H := H15) (a := ph) (o := .lst (Z.map V.int))
      have nph15 := nph
      generalize (upd H15 ph (.lst (Z.map V.int))) = H16 at q9 h9 ⊢
      have q59 := q58.trans q9
      refine ⟨_, rfl, _, rfl, _, rfl, _, rfl, rfl, fun g2 dg2 ng2 ndg2 neg2 => ?_⟩
      refine door_mk ng2 ndg2 (R11.mono q59) h12L i0 i1L Brn ZrL (.inl h9) fun H17 N3 => ?_
      have q10 := N3.2.1
      refine ⟨_, rfl, _, rfl, _, rfl, _, rfl, fun g3 dg3 ng3 ndg3 neg3 => ?_⟩
      have q510 := q59.trans q10
      refine door_mk ng3 ndg3 (R11.mono q510) h12L i0 i1L And ArL (.inl (q510 _ _ hA)) fun H18 N4 => ?_
      have q11 := N4.2.1
      refine ⟨_, _, rfl, ?_⟩
      have h18 := q11 _ _ (q10 _ _ h9)
      -- cleared
      refine ⟨_, rfl, .inl ⟨rfl, _, SqL.of h18⟩, ph, _, rfl, rfl, h18, ?_⟩
      have q1518 : Same H15 H18 := q9.trans (q10.trans q11)
      have qc : Same H15 (upd H18 ph (.lst [])) := same_upd q1518 nph15
      have G3 : DoorAt D (upd H18 ph (.lst [])) g2 x y1 (i : Nat) (sortI Z) := N3.2.2 _ fun b o hb h => by
        rw [upd_ne (fun z => by rw [z, h9] at hb; cases hb)]
        exact q11 _ _ h
      have G4 : DoorAt D (upd H18 ph (.lst [])) g3 x y2 (i : Nat) (sortI A) := N4.2.2 _ fun b o hb h => by
        rw [upd_ne (fun z => by rw [z, q10 _ _ h9] at hb; cases hb)]
        exact h
      rw [Aid] at G4
      generalize (upd H18 ph (.lst [])) = H19 at qc G3 G4 ⊢
      have e1119 := q58.trans qc
      have e019 := e011.trans e1119
      have e419 : Same H4 H19 := (e45.trans e56).trans (e611.trans e1119)
      have G1c := G1b.mono qc
      have G2c := G2.mono qc
      have hA19 := e1119 _ _ hA
      have hB19 := qc _ _ hB15
      clear N3 N4 G1b G2 ng2 ndg2 neg2 ng3 ndg3 neg3 ng' ndg' neg' ng ndg neg h18 h9 h7 h5 hB15 npt npr nph nph15
      have R19 := R.mono e019
      have R2c := R2b.mono e419
      have R3c := R3.mono e419
      have LRa := LR1.mono e419
      have LRb := LR2.mono e419
      obtain ⟨dxg, pbg, fsg, dg1, _⟩ := id G1c.ex
      obtain ⟨dx2', pb2', fs2', dg2, _⟩ := id G3.ex
      have A40 : ∀ e ∈ A, 0 ≤ e ∧ e < 40 := fun e he => by have := A2 e he; omega
      have Z40 : ∀ e ∈ sortI Z, 0 ≤ e ∧ e < 40 := fun e he => by have := Brg e ((sortI_perm Z).mem_iff.mp he); omega
      have sZ12 : (sortI Z).length ≤ 12 := by rw [(sortI_perm Z).length_eq]; exact Z12
      obtain ⟨o1, o2, o3, o4⟩ := shoD_ok (q := (i : Nat)) ⟨i0, by omega⟩ A40 A12 Z40 sZ12
      -- what is shown
      refine ⟨_, rfl, g, dxg, fsg, rfl, dg1, g, x, y1, _, _, rfl, G1c, _, rfl, g, dxg, fsg, rfl, dg1, g, x, y1, _, _, rfl, G1c, fun pb hpb => ⟨_, rfl, g2, dx2', fs2', rfl, dg2, g2, x, y1, _, _, rfl, G3, fun pb2 hpb2 => ⟨by show 3 ≤ sizeLine; decide, fun ps1 nps1 => ?_⟩⟩⟩
      have s1 := same_new (o := .lst [V.int (i : Nat), .ref pb, .ref pb2]) nps1
      have hs1 := upd_same (H := H19) (a := ps1) (o := .lst [V.int (i : Nat), .ref pb, .ref pb2])
      generalize (upd H19 ps1 (.lst [V.int (i : Nat), .ref pb, .ref pb2])) = H20 at s1 hs1 ⊢
      refine ⟨ps1, shoD _ _ _, rfl, dp_sho hs1 (s1 _ _ hpb) (s1 _ _ hpb2), o1, o2, o3, o4, ?_⟩
      refine ⟨_, rfl, _, rfl, _, rfl, D1, _, rfl, .inl ⟨SqL.of (s1 _ _ hA19), fun pt1 npt1 => ⟨_, rfl, pB, Z, rfl, .inl (SqL.of ((s1.trans (same_new npt1)) _ _ hB19)), by omega, fun es pes pm so npes => ?_⟩⟩⟩
      have ees := sortI_uniq pm so
      rw [ees] at *
      refine ⟨pes, _, rfl, .inl ⟨SqL.of upd_same, fun pt2 npt2 => ⟨by show 3 ≤ sizeLine; decide, fun ps2 nps2 => ?_⟩⟩⟩
      have s2 := same_new (o := .tup (A.map V.int)) npt1
      have h2 := upd_same (H := H20) (a := pt1) (o := .tup (A.map V.int))
      generalize (upd H20 pt1 (.tup (A.map V.int))) = H21 at s2 h2 npes npt2 nps2 ⊢
      have s3 := same_new (o := .lst ((sortI Z).map V.int)) npes
      generalize (upd H21 pes (.lst ((sortI Z).map V.int))) = H22 at s3 npt2 nps2 ⊢
      have s4 := same_new (o := .tup ((sortI Z).map V.int)) npt2
      have h4 := upd_same (H := H22) (a := pt2) (o := .tup ((sortI Z).map V.int))
      generalize (upd H22 pt2 (.tup ((sortI Z).map V.int))) = H23 at s4 h4 nps2 ⊢
      have s5 := same_new (o := .lst [V.int (i : Nat), .ref pt1, .ref pt2]) nps2
      have h5 := upd_same (H := H23) (a := ps2) (o := .lst [V.int (i : Nat), .ref pt1, .ref pt2])
      generalize (upd H23 ps2 (.lst [V.int (i : Nat), .ref pt1, .ref pt2])) = H24 at s5 h5 ⊢
      refine ⟨ps2, shoD (i : Nat) A (sortI Z), rfl, dp_sho h5 ((s3.trans (s4.trans s5)) _ _ h2) (s5 _ _ h4), o1, o2, o3, o4, rfl, _, rfl, ?_⟩
      rw [decide_eq_true rfl]
      refine iteF ?_
      have s15 := s1.trans (s2.trans (s3.trans (s4.trans s5)))
      have z24 := e1119.trans s15
      clear npt1 npes npt2 nps2 hs1 h2 h4 h5 hpb hpb2 nps1
      have e024 := e019.trans s15
      have d24 := s15 _ _ dg1
      have dx24 := e024 _ _ d1
      refine ⟨_, rfl, g, dxg, fsg, rfl, d24, g, x, y1, _, _, rfl, G1c.mono s15, _, rfl, x, x, dx, dx, fs, fs, rfl, rfl, dx24, dx24, .inl ⟨x, x, _, _, _, _, _, _, rfl, R19.mono s15, R19.mono s15, rA, rA, fun H25 e25 => ⟨_, rfl, ?_⟩⟩⟩
      rw [decide_eq_true (⟨rfl, rfl, rfl⟩ : rows.map sortR = rows.map sortR ∧ sortI ends = sortI ends ∧ start = start)]
      refine ⟨_, rfl, iteF ?_⟩
      have s25 := s15.trans e25
      obtain ⟨dy1, _, _, _, fy1, hy1, _⟩ := id LRa.ex
      obtain ⟨dy2, _, _, _, fy2, hy2, _⟩ := id LRb.ex
      have hy25 := s25 _ _ hy1
      refine ⟨_, rfl, g, dxg, fsg, rfl, s25 _ _ dg1, g, x, y1, _, _, rfl, G1c.mono s25, _, rfl, y1, y1, dy1, dy1, fy1, fy1, rfl, rfl, hy25, hy25, y1, .ref y1, as, u1, c1, k1, rfl, ha, LRa.mono s25, LW1, .inr ⟨y1, as, u1, c1, k1, rfl, LRa.mono s25, LW1, fun H26 e26 => ⟨_, rfl, ?_⟩⟩⟩
      rw [decide_eq_true (⟨rfl, rfl, rfl⟩ : as = as ∧ c1 = c1 ∧ u1 = u1)]
      refine ⟨_, rfl, iteF ?_⟩
      have s26 := s25.trans e26
      -- compared
      have fG1 : DoorF C L D H19 g (i : Nat) A (rows.map sortR) (sortI ends) start as u1 c1 := ⟨⟨x, y1, k1, G1c, R19, LRa⟩, rA, ha, LW1⟩
      have fG2 : DoorF C L D H19 g' (i : Nat) A (rows.map sortR) (sortI ends) start as u1 c1 := ⟨⟨x, y1, k1, G2c, R19, LRa⟩, rA, ha, LW1⟩
      have fG3 : DoorF C L D H19 g2 (i : Nat) (sortI Z) (rows.map sortR) (sortI ends) start as u1 c1 := ⟨⟨x, y1, k1, G3, R19, LRa⟩, rA, ha, LW1⟩
      have fG4 : DoorF C L D H19 g3 (i : Nat) A (rows.map sortR) (sortI ends) start as u2 c2 := ⟨⟨x, y2, k2, G4, R19, LRb⟩, rA, ha, LW2⟩
      have yes : ∀ {p : Prop} [Decidable p], p → true = decide p := fun h => (decide_eq_true h).symm
      have no : ∀ {p : Prop} [Decidable p], ¬ p → false = decide p := fun h => (decide_eq_false h).symm
      refine ⟨_, rfl, _, rfl, g, .ref g', true, _, _, _, _, _, _, _, _, rfl, fG1.mono s26, fun H27 e27 => ⟨_, rfl, iteF ?_⟩, .inr ⟨g', _, _, _, _, _, _, _, _, rfl, fG2.mono s26, yes ⟨⟨rfl, rfl⟩, ⟨rfl, rfl, rfl⟩, rfl, rfl, rfl⟩⟩⟩
      have s27 := s26.trans e27
      refine ⟨_, rfl, _, rfl, g, .int (i : Nat), false, _, _, _, _, _, _, _, _, rfl, fG1.mono s27, fun H28 e28 => ⟨_, rfl, iteF ?_⟩, .inl ⟨_, .int _, rfl⟩⟩
      have s28 := s27.trans e28
      refine ⟨_, rfl, _, rfl, _, rfl, pB, Z, rfl, .inl (SqL.of (s28 _ _ hB19)), by omega, fun es2 pes2 pm2 so2 npes2 => ?_⟩
      have ees2 := sortI_uniq pm2 so2
      rw [ees2] at *
      have s29 := s28.trans (same_new (o := .lst ((sortI Z).map V.int)) npes2)
      have h29 := upd_same (H := H28) (a := pes2) (o := .lst ((sortI Z).map V.int))
      generalize (upd H28 pes2 (.lst ((sortI Z).map V.int))) = H29 at s29 h29 ⊢
      refine ⟨_, rfl, _, _, .lst (SqL.of h29) (dp_map (fun i => .int i) _), .lst (SqL.of (s29 _ _ hA19)) (dp_map (fun i => .int i) _), shpL _, shpL _, ?_⟩
      rw [eqvL]
      refine ⟨g, .ref g2, _, _, _, _, _, _, _, _, _, rfl, fG1.mono s29, fun H30 e30 => ⟨_, rfl, iteF ?_⟩, .inr ⟨g2, _, _, _, _, _, _, _, _, rfl, fG3.mono s29, decide_eq_decide.mpr ⟨fun h => ⟨⟨rfl, h.symm⟩, ⟨rfl, rfl, rfl⟩, rfl, rfl, rfl⟩, fun h => h.1.2.symm⟩⟩⟩
      have s30 := s29.trans e30
      refine ⟨_, rfl, _, rfl, _, rfl, _, rfl, y1, y2, dy1, dy2, fy1, fy2, rfl, rfl, s30 _ _ hy1, s30 _ _ hy2, y1, .ref y2, as, u1, c1, k1, rfl, ha, LRa.mono s30, LW1, .inr ⟨y2, as, u2, c2, k2, rfl, LRb.mono s30, LW2, fun H31 e31 => ⟨_, rfl, ?_⟩⟩⟩
      have s31 := s30.trans e31
      refine ⟨g, .ref g3, _, _, _, _, _, _, _, _, _, rfl, fG1.mono s31, fun H32 e32 => ⟨_, rfl, iteF ?_⟩, .inr ⟨g3, _, _, _, _, _, _, _, _, rfl, fG4.mono s31, decide_eq_decide.mpr ⟨fun h => ⟨⟨rfl, rfl⟩, ⟨rfl, rfl, rfl⟩, h⟩, fun h => h.2.2⟩⟩⟩
      have s32 := s31.trans e32
      -- a reader made anew
      refine ⟨_, rfl, _, rfl, _, rfl, _, rfl, _, rfl, fun ga dga nga ndga nega => ?_⟩
      refine door_mk nga ndga (R2c.mono s32) h12L i0 i1L And ArL (.inl (s32 _ _ hA19)) fun H33 N5 => ?_
      have s33 := s32.trans N5.2.1
      have G5 := N5.at
      rw [Aid] at G5
      clear N5 nga ndga nega
      refine ⟨g, .ref ga, true, _, _, _, _, _, _, _, _, rfl, fG1.mono s33, fun H34 e34' => ⟨_, rfl, iteF ?_⟩, .inr ⟨ga, (i : Nat), A, rows.map sortR, sortI ends, start, as, u1, c1, rfl, ⟨⟨x2, y1, k1, G5, R2c.mono s33, LRa.mono s33⟩, rA, ha, LW1⟩, yes ⟨⟨rfl, rfl⟩, ⟨rfl, rfl, rfl⟩, rfl, rfl, rfl⟩⟩⟩
      have s34 := s33.trans e34'
      -- another one
      have hne : ¬ (sortI ends = sortI (compl rows.length (sortI ends))) := fun h => by
        have z := compl_ne (n := rows.length) (by omega) (E := sortI ends)
        rw [sid] at z
        exact z h
      refine ⟨_, rfl, _, rfl, _, rfl, _, rfl, _, rfl, fun gb dgb ngb ndgb negb => ?_⟩
      refine door_mk ngb ndgb (R3c.mono s34) h12L i0 i1L And ArL (.inl (s34 _ _ hA19)) fun H35 N6 => ?_
      have s35 := s34.trans N6.2.1
      have G6 := N6.at
      rw [Aid] at G6
      clear N6 ngb ndgb negb
      refine ⟨g, .ref gb, false, _, _, _, _, _, _, _, _, rfl, fG1.mono s35, fun H36 e36 => ⟨_, rfl, iteF ?_⟩, .inr ⟨gb, (i : Nat), A, rows.map sortR, sortI (compl rows.length (sortI ends)), start, as, u1, c1, rfl, ⟨⟨x3, y1, k1, G6, R3c.mono s35, LRa.mono s35⟩, rA, ha, LW1⟩, no fun h => hne h.2.1.2.1⟩⟩
      have s36 := s35.trans e36
      -- elsewhere
      have hn0 : (0 : Int) < (rows.length : Int) := by omega
      have hql : qs.length = rows.length := Paired.length r2
      refine ⟨_, rfl, _, rfl, _, _, rfl, rfl, .inl ⟨_, rfl, _, rfl, a, _, rfl, .inl (SqL.of ((e019.trans s36) _ _ r1)), _, _, rfl, rfl, by rw [List.length_map, hql]; exact hn0, _, rfl, _, rfl, fun gc dgc ngc ndgc negc => ?_⟩⟩
      rw [List.length_map, hql]
      have j0 : 0 ≤ (((i : Nat) : Int) + 1) % (rows.length : Int) := Int.emod_nonneg _ (by omega)
      have j1 : (((i : Nat) : Int) + 1) % (rows.length : Int) < ((rows.map sortR).length : Int) := by rw [hRl]; exact Int.emod_lt_of_pos _ hn0
      have hj : ((i : Nat) : Int) = (((i : Nat) : Int) + 1) % (rows.length : Int) ↔ rows.length = 1 := by
        constructor
        · intro h
          by_cases z : ((i : Nat) : Int) + 1 < (rows.length : Int)
          · rw [Int.emod_eq_of_lt (by omega) z] at h
            omega
          · have z' : ((i : Nat) : Int) + 1 = (rows.length : Int) := by omega
            rw [z', Int.emod_self] at h
            omega
        · intro h
          rw [h]
          omega
      refine door_mk ngc ndgc (R19.mono s36) h12L j0 j1 And ArL (.inl (s36 _ _ hA19)) fun H37 N7 => ?_
      have s37 := s36.trans N7.2.1
      have G7 := N7.at
      rw [Aid] at G7
      clear N7 ngc ndgc negc
      refine ⟨_, rfl, _, rfl, _, rfl, a, _, rfl, .inl (SqL.of ((e019.trans s37) _ _ r1)), rfl, ?_⟩
      rw [List.length_map, hql]
      refine ⟨g, .ref gc, _, _, _, _, _, _, _, _, _, rfl, fG1.mono s37, fun H38 e38 => ⟨_, rfl, iteF ?_⟩, .inr ⟨gc, (((i : Nat) : Int) + 1) % (rows.length : Int), A, rows.map sortR, sortI ends, start, as, u1, c1, rfl, ⟨⟨x, y1, k1, G7, R19.mono s37, LRa.mono s37⟩, rA, ha, LW1⟩, decide_eq_decide.mpr ⟨fun h => ⟨⟨hj.mpr (by have := V.int.inj h; omega), rfl⟩, ⟨rfl, rfl, rfl⟩, rfl, rfl, rfl⟩, fun h => by rw [hj.mp h.1.1]; rfl⟩⟩⟩
      have s38 := s37.trans e38
      -- what is writable
      have nmr : ∀ row ∈ rows, ∀ e ∈ row, ∀ y, e.2.2 = some y → Name y := fun row h e he y hy => PA.name (W.told row h e he y hy)
      have e038 := e019.trans s38
      refine ⟨_, rfl, _, rfl, _, rfl, _, rfl, _, rfl, _, rfl, g, a, D1, pp, nn, x, y1, (i : Nat), A, ps, ns, rows, sortI ends, start, rfl, by rw [Aid]; exact G1c.mono s38, R19.mono s38, RL.mono e038, W.good, by omega, nmr, i0, i1, s38 _ _ hA19, e038 _ _ hP, pl, e038 _ _ hN, nl, n1000, fun H39 e39 => ⟨_, rfl, iteF ?_⟩⟩
      have s39 := s38.trans e39
      have e039 := e038.trans e39
      refine ⟨_, rfl, _, rfl, _, rfl, _, rfl, _, rfl, _, rfl, g2, a, pB, pp, nn, x, y1, (i : Nat), Z, ps, ns, rows, sortI ends, start, rfl, G3.mono s39, R19.mono s39, RL.mono e039, W.good, by omega, nmr, i0, i1, s39 _ _ hB19, e039 _ _ hP, pl, e039 _ _ hN, nl, n1000, fun H40 e40 => ⟨_, rfl, iteF ?_⟩⟩
      exact ⟨e419.trans (s39.trans e40), _, _, _, _, _, _, _, _, _, _, _, _, rfl⟩
    · rintro σ H5 ⟨e45, a8, a11, a12, a13, a14, a15, a16, a17, a18, a19, a20, a21, rfl⟩
      exact k _ (e04.trans e45)
end
end SS

set_option maxRecDepth 100000
set_option maxHeartbeats 4000000
set_option pp.maxSteps 1500
namespace SS
open PySem L2 SR TL ZA
section
variable {P : Program} {w : World} {K : PySem.W.Frag} {mg : Str → Option Value} {base : Heap}
/-! ### _law_right -/
abbrev sRgt : Stmt := top 73
abbrev nRgt : List Str := ["_law_rng_here", "_law_paper", "_law_tells", "_law_marks_here", "_law_rows", "_law_stops", "_law_begin", "_law_den", "_law_abc", "_law_machines", "_law_notes"]
abbrev psRgt : List Str := ["_law_rng_here"]
theorem scRgt : FnScope nRgt psRgt (defScope sRgt) := ⟨rfl, rfl, rfl, by decide +kernel, rfl, by decide +kernel, by decide +kernel⟩
def spRgt : Sp := fun vs H Q _ => ∃ (r : Addr), vs = [.ref r] ∧ H r = some (rngO r) ∧ ∀ H', Same H H' → Q (.bl true) H'
structure Law (P : Program) (w : World) (K : PySem.W.Frag) (mg : Str → Option Value) (base : Heap) (C : Addr) : Prop where
  le : Cal P w K mg base "_law_letters" 2 ["_law_rng_here", "_law_many"] spLetters
  ma : Cal P w K mg base "_law_marks" 2 psMarks spMarks
  fo : Cal P w K mg base "_law_format" 4 psFmt spFmt
  ch : Cal P w K mg base "_law_choice" 2 ["_law_rng_here", "_law_some"] (spChoice K)
  cl : Cal P w K mg base "_law_class" 2 ["_law_rng_here", "_law_cap", "_law_abc"] SG.spClass
  te : Cal P w K mg base "_law_texts" 1 psTex spTex
  dr : CalG P w K mg base "_law_doors_right" 9 psDrs (spDrs C)
theorem ok_rgt {f C fi e : Addr} {fd fdi : FuncData} (F : Fun K "_law_right" "_law_right" sRgt f fd) (B : Bl mg) (I : RdK P w K mg base C fi fdi e) (M : Law P w K mg base C) : FnG P w K mg base 10 f fd ["_law_rng_here"] spRgt := by
  obtain ⟨g3, kb3⟩ := I.k3
  refine okG F scRgt (fun vs H Q E h => ?_) (fun cdv A outer s H vs Q E hr hgd h => ?_)
  · obtain ⟨r, rfl, _⟩ := h
    rfl
  · obtain ⟨r, rfl, hR, k⟩ := h
    have hr1 := hr.mono (by decide : 1 ≤ 9)
    have hr2 := hr.mono (by decide : 2 ≤ 9)
    have hr4 := hr.mono (by decide : 4 ≤ 9)
    have hr8 := hr.mono (by decide : 8 ≤ 9)
    have hr9 := hr
    refine ⟨_, pss_cons (ps_par3 (i := 1) (j := 2) (l := 3) (by rfl) scRgt.nd rfl rfl rfl (by decide) (by decide) (by decide) rfl rfl rfl (pa_cons (pe_cal M.le hr2 (pa_cons (pv 0) (pa_cons pe_int pa_nil))) (pa_cons (pe_cal M.le hr2 (pa_cons (pv 0) (pa_cons pe_int pa_nil))) (pa_cons (pe_cal M.ma hr2 (pa_cons (pv 0) (pa_cons pe_int pa_nil))) pa_nil))) (by rfl))
      (pss_cons (ps_asg (pe_cal M.fo hr4 (pa_cons (pv 0) (pa_cons pe_int (pa_cons (pv 1) (pa_cons (pv 2) (pa_cons (pv 3) pa_nil)))))) (pg_tup rfl (pgs_cons (pg_name (i := 4) scRgt.nd rfl (.inl rfl)) (pgs_cons (pg_name (i := 5) scRgt.nd rfl (.inl rfl)) (pgs_cons (pg_name (i := 6) scRgt.nd rfl (.inl rfl)) pgs_nil)))))
      (pss_cons (ps_set (i := 7) scRgt.nd rfl (.inl rfl) (pe_makeN I.mak I.ok hr8 (by rfl) I.mgC kb3 pass0 (pa_cons (pv 4) (pa_cons (pv 5) pa_nil)) (pk_cons (pv 6) pk_nil)))
      (pss_cons (ps_set (i := 8) scRgt.nd rfl (.inl rfl) (pe_join pe_str (pe_callB cr_sortedS (by rfl) B.sorted (by decide +kernel) (pa_cons (pv 2) pa_nil))))
      (pss_cons (ps_set (i := 9) scRgt.nd rfl (.inl rfl) (pe_lst (pa_cons (pe_cal M.cl hr2 (pa_cons (pv 0) (pa_cons pe_int (pa_cons (pv 8) pa_nil)))) (pa_cons (pe_cal M.cl hr2 (pa_cons (pv 0) (pa_cons pe_int (pa_cons (pv 8) pa_nil)))) pa_nil))))
      (pss_cons (ps_set (i := 10) scRgt.nd rfl (.inl rfl) (pe_op op_cat (pe_cal M.te hr1 (pa_cons (pe_op op_cat (pv 2) (pe_lst (pa_cons (pe_cal M.ch hr2 (pa_cons (pv 0) (pa_cons (pe_callTy (call_list_txt rfl) (by rfl) B.list (by decide +kernel) (pa_cons pe_str pa_nil)) pa_nil))) pa_nil))) (pa_cons pe_int pa_nil))) (pe_cal M.te hr1 (pa_cons (pv 2) (pa_cons pe_int pa_nil)))))
      (pss_one (ps_ret (pe_calG M.dr hr9 hgd (pa_cons (pv 0) (pa_cons (pv 7) (pa_cons (pv 4) (pa_cons (pv 9) (pa_cons (pe_cal M.te hr1 (pa_cons (pv 1) (pa_cons pe_int pa_nil))) (pa_cons (pv 10) pa_nil)))))))))))))), ?_⟩
    refine ⟨_, rfl, r, 3, rfl, by decide, hR, fun cs pc H1 cl cnd cab hpc e1 h1 => ?_⟩
    refine ⟨_, rfl, r, 2, rfl, by decide, e1 _ _ hR, fun ts pt H2 tl tnd tab hpt e2 h2 => ?_⟩
    refine ⟨_, rfl, r, 2, rfl, by decide, e2 _ _ (e1 _ _ hR), fun ms pm H3 ml mnd mab hpm e3 h3 => ?_⟩
    refine ⟨_, _, _, rfl, ?_⟩
    have PA' : Pal cs ts ms := ⟨cab, tab, mab, by omega, by omega, by omega⟩
    have e13 := (e1.trans e2).trans e3
    have hc := e3 _ _ (e2 _ _ h1)
    have ht := e3 _ _ h2
    refine ⟨_, rfl, _, rfl, _, rfl, _, rfl, r, pc, pt, pm, 5, cs, ts, ms, rfl, by decide, by decide, PA', cnd, by omega, by omega, by omega, e13 _ _ hR, hc, ht, h3, fun t rows ends start H4 W l5 e4 Md => ?_⟩
    obtain ⟨pr, pe, qs, m1, m2, m3, m4⟩ := Md.ex
    refine ⟨t, _, rfl, SqT.of m1, rfl, _, _, rfl, _, _, rfl, _, _, rfl, rfl, ?_⟩
    have e04 := e13.trans e4
    have RwL : RowsL H4 pr rows := ⟨qs, .inl m2, m3⟩
    -- the reader
    refine ⟨_, rfl, _, rfl, _, rfl, rfl, rfl, fun x dx nx ndx nex => ini_mk nx ndx PA' W RwL (.inl (.inl m4)) fun H5 N => ?_⟩
    have e45 := N.2.1
    have D := N.at
    have e05 := e04.trans e45
    have RL : RwsL H5 pr rows := RwsL.mono e45 ⟨qs, m2, m3⟩
    clear N nx ndx nex
    have ht5 := e45 _ _ (e4 _ _ ht)
    have hc5 := e45 _ _ (e4 _ _ hc)
    -- the signs of the languages
    refine ⟨⟨_, rfl⟩, _, rfl, pt, ts.map lt, rfl, SqL.of (by rw [List.map_map]; exact ht5), by rw [List.length_map]; omega, fun yl p3 pm3 so hp3 => ?_⟩
    obtain ⟨as, rfl, pd⟩ := perm_lt pm3
    have hal := pd.length_eq
    have ha : Abc as := ⟨lt_of_nodup as (sorted_lt as so) (pd.nodup_iff.mpr tnd), fun c hc => tab c (pd.mem_iff.mp hc), by omega, by omega⟩
    refine ⟨_, p3, as.map lt, rfl, rfl, .inl (SqL.of upd_same), ?_, ?_⟩
    · rw [sum_lt, List.length_map]
      show as.length + as.length * 0 ≤ 16777216
      omega
    rw [join_lt]
    have e56 : Same H5 (upd H5 p3 (.lst ((as.map lt).map V.str))) := same_new hp3
    generalize (upd H5 p3 (.lst ((as.map lt).map V.str))) = H6 at e56 ⊢
    have e06 := e05.trans e56
    have hR6 := e06 _ _ hR
    refine ⟨_, rfl, _, rfl, r, 3, as, rfl, ha, by decide, by decide, hR6, fun u1 r1 n1 H7 W1 l1 nu1 e67 M1 => ?_⟩
    refine ⟨_, rfl, _, rfl, r, 3, as, rfl, ha, by decide, by decide, e67 _ _ hR6, fun u2 r2 n2 H8 W2 l2 nu2 e78 M2 => ⟨by show 2 ≤ sizeLine; decide, fun pm2 npm2 => ?_⟩⟩
    have e89 := same_new (o := .lst [V.ref u1, .ref u2]) npm2
    have h9 := upd_same (H := H8) (a := pm2) (o := .lst [V.ref u1, .ref u2])
    generalize (upd H8 pm2 (.lst [V.ref u1, .ref u2])) = H9 at e89 h9 ⊢
    have e59 := e56.trans (e67.trans (e78.trans e89))
    have e09 := e05.trans e59
    -- the texts
    refine ⟨_, rfl, _, rfl, _, rfl, (by decide +kernel), fun p4 np4 => ?_⟩
    have e910 := same_new (o := .lst ((Str.ofString "xyz").cps.toList.map ltV)) np4
    have h10 := upd_same (H := H9) (a := p4) (o := .lst ((Str.ofString "xyz").cps.toList.map ltV))
    generalize (upd H9 p4 (.lst ((Str.ofString "xyz").cps.toList.map ltV))) = H10 at e910 h10 ⊢
    have e010 := e09.trans e910
    have hx : (Str.ofString "xyz").cps.toList = [120, 121, 122] := by decide +kernel
    rw [hx] at h10
    refine .inl ⟨r, p4, _, rfl, e010 _ _ hR, SqL.of h10, by decide, by decide, fun v H11 hv e1011 => ⟨by show 1 ≤ sizeLine; decide, fun p5 np5 => ?_⟩⟩
    obtain ⟨c, hcm, rfl⟩ := List.mem_map.mp hv
    have c1 : 97 ≤ c ∧ c < 123 := by
      simp only [List.mem_cons, List.not_mem_nil, or_false] at hcm
      omega
    have e1112 := same_new (o := .lst [ltV c]) np5
    have h12 := upd_same (H := H11) (a := p5) (o := .lst [ltV c])
    generalize (upd H11 p5 (.lst [ltV c])) = H12 at e1112 h12 ⊢
    have e512 := e59.trans (e910.trans (e1011.trans e1112))
    refine ⟨pt, p5, _, _, rfl, rfl, e512 _ _ ht5, h12, by rw [List.length_map, sizeLine_eq]; show ts.length + 1 ≤ _; omega, fun p6 np6 => ?_⟩
    have e1213 := same_new (o := .lst (ts.map ltV ++ [ltV c])) np6
    have h13 : (upd H12 p6 (.lst (ts.map ltV ++ [ltV c]))) p6 = some (.lst ((ts ++ [c]).map ltV)) := by rw [upd_same, List.map_append]; rfl
    generalize (upd H12 p6 (.lst (ts.map ltV ++ [ltV c]))) = H13 at e1213 h13 ⊢
    refine ⟨p6, ts ++ [c], 2, rfl, by rw [List.length_append]; show ts.length + 1 ≤ 4; omega, by decide, h13, fun p7 H14 np7 e1314 h14 => ?_⟩
    have e514 := e512.trans (e1213.trans e1314)
    refine ⟨_, rfl, pt, ts, 3, rfl, by omega, by decide, e514 _ _ ht5, fun p8 H15 np8 e1415 h15 => ?_⟩
    have q1 := len_txs4 (cs := ts ++ [c]) (by rw [List.length_append]; show ts.length + 1 ≤ 4; omega) 2
    have q2 := len_txs4 (cs := ts) (by omega) 3
    refine ⟨p7, p8, _, _, rfl, rfl, e1415 _ _ h14, h15, by rw [List.length_map, List.length_map, sizeLine_eq]; omega, fun p9 np9 => ?_⟩
    have note : ∀ z ∈ txs (ts ++ [c]) 2 ++ txs ts 3, Lets z ∧ z.length ≤ 100 := fun z hz => by
      rcases List.mem_append.mp hz with h | h
      · obtain ⟨h1, h2⟩ := mem_txs.mp h
        exact ⟨fun d hd => (List.mem_append.mp (h1 d hd)).elim (tab d) (fun h => by rw [List.mem_singleton.mp h]; exact c1), by omega⟩
      · obtain ⟨h1, h2⟩ := mem_txs.mp h
        exact ⟨fun d hd => tab d (h1 d hd), by omega⟩
    have nl : (txs (ts ++ [c]) 2 ++ txs ts 3).length ≤ 1000 := by rw [List.length_append]; omega
    rw [← List.map_append] at *
    generalize txs (ts ++ [c]) 2 ++ txs ts 3 = ns at note nl np9 ⊢
    have e1516 := same_new (o := .lst (ns.map txtV)) np9
    have h16 := upd_same (H := H15) (a := p9) (o := .lst (ns.map txtV))
    generalize (upd H15 p9 (.lst (ns.map txtV))) = H16 at e1516 h16 ⊢
    have e516 := e514.trans (e1415.trans e1516)
    refine ⟨_, rfl, _, rfl, _, rfl, _, rfl, _, rfl, pc, cs, 3, rfl, by omega, by decide, e516 _ _ hc5, fun p10 H17 np10 e1617 h17 => ?_⟩
    have e517 := e516.trans e1617
    have e917 : Same H9 H17 := e910.trans (e1011.trans (e1112.trans (e1213.trans (e1314.trans (e1415.trans (e1516.trans e1617))))))
    have e717 : Same H7 H17 := e78.trans (e89.trans e917)
    have e817 : Same H8 H17 := e89.trans e917
    refine ⟨_, rfl, r, x, pr, pm2, p10, p9, u1, u2, cs, ts, ms, rows, ends, start, as, r1, r2, n1, n2, txs cs 3, ns, rfl, (e05.trans e517) _ _ hR, D.mono e517, PA', W, l5, RL.mono e517, e917 _ _ h9, ha, M1.mono e717, M2.mono e817, W1, W2, by omega, by omega, h17, fun z hz => by have := (mem_txs.mp hz).2; omega, e1617 _ _ h16, note, nl, fun H18 e18 => ?_⟩
    exact k _ ((e05.trans e517).trans e18)
/-! ### law -/
abbrev sLaw : Stmt := top 74
abbrev nLaw : List Str := ["_law_script", "_law_k"]
abbrev psLaw : List Str := ["_law_script"]
theorem scLaw : FnScope nLaw psLaw (defScope sLaw) := ⟨rfl, rfl, rfl, by decide +kernel, rfl, by decide +kernel, by decide +kernel⟩
def spLaw (K : PySem.W.Frag) : Sp := fun vs H Q _ => ∃ (a : Addr) (ns : List Int), vs = [.ref a] ∧ SqL K H a (ns.map V.int) ∧ ns.length ≤ 63 ∧ ∀ H', Q (.bl true) H'
theorem ok_law {f : Addr} {fd : FuncData} (F : Fun K "law" "law" sLaw f fd) (B : Bl mg) (Rn : Cal P w K mg base "_law_rng" 1 ["_law_script", "_law_k"] (spRng K)) (Ri : CalG P w K mg base "_law_right" 10 ["_law_rng_here"] spRgt) : FnG P w K mg base 11 f fd ["_law_script"] (spLaw K) := by
  refine okG F scLaw (fun vs H Q E h => ?_) (fun cdv A outer s H vs Q E hr hgd h => ?_)
  · obtain ⟨a, ns, rfl, _⟩ := h
    rfl
  · obtain ⟨a, ns, rfl, hS, hl, k⟩ := h
    have hr1 := hr.mono (by decide : 1 ≤ 10)
    refine ⟨_, pss_one (ps_ret (pe_callB (cr_all rfl) (by rfl) B.all (by decide +kernel) (pa_cons (pe_lc (own := [("_law_k", 1)]) (g := gName 1) (tt := tYes) (te := tCall spRgt [] E0 (tCons (tCall (spRng K) [] E0 (tCons (tVar 0) (tCons (tVar 1) tNil))) tNil)) rfl scLaw.nd
      (pi_range1 (by rfl) B.range (pa_cons (pe_callB (call_max2 rfl) (by rfl) B.max (by decide +kernel) (pa_cons pe_int (pa_cons (pe_callB (call_min2 rfl) (by rfl) B.min (by decide +kernel) (pa_cons (pe_callB call_len_seq (by rfl) B.len boot_len (pa_cons (pv 0) pa_nil)) (pa_cons pe_int pa_nil))) pa_nil))) pa_nil)) (blkOk_by (by kernel_rfl))
      (fun _ _ _ _ _ => pg_name (i := 1) scLaw.nd rfl (.inl rfl)) (fun _ _ _ _ _ => pts_nil) (fun _ _ _ _ _ => pe_calG Ri hr hgd (pa_cons (pe_cal Rn hr1 (pa_cons (pv 0) (pa_cons (pv 1) pa_nil))) pa_nil))) pa_nil))), ?_⟩
    refine ⟨_, rfl, a, _, rfl, .inl hS, _, _, rfl, _, _, rfl, ?_⟩
    have hb : ∀ n : Int, 0 ≤ n → ∃ m : Nat, (if (if (4 : Int) < n then 4 else n) > 1 then (if (4 : Int) < n then 4 else n) else 1) = (m : Int) ∧ m ≤ 4 := fun n hn => by
      by_cases h5 : (4 : Int) < n
      · exact ⟨4, by simp [h5], by decide⟩
      · by_cases h1 : n > 1
        · exact ⟨n.toNat, by simp [h5, h1]; omega, by omega⟩
        · exact ⟨1, by simp [h5, h1], by decide⟩
    obtain ⟨m, em, hm⟩ := hb ((ns.map V.int).length : Nat) (by omega)
    rw [em]
    refine ⟨_, rfl, by omega, by omega, fun D hD => lc_S (walk_range (lo := 0) (n := (m : Int).toNat)) hD (by omega) (fun i acc _ => acc = (List.replicate i true).map V.bl) (fun _ _ _ _ _ _ _ h => h) rfl (fun _ _ => trivial) ?_ ?_⟩
    · rintro i v H3 H3' acc Qt Qf hi e3 hd rfl ⟨rfl, rfl⟩ kt kf
      refine ⟨rfl, _, rfl, _, rfl, a, _, ns, rfl, e3.seq hS, by omega, by omega, fun p H4 hp e4 h4 => ⟨p, rfl, h4, fun H5 e5 => kt _ _ (e4.trans e5) ?_⟩⟩
      rw [List.replicate_succ', List.map_append]
      rfl
    · rintro H1 acc e1 hd rfl
      refine ⟨D, _, rfl, SqL.of hd, ?_⟩
      rw [all_true]
      exact k _

end
end SS

set_option maxRecDepth 100000
set_option maxHeartbeats 4000000
namespace SS
open PySem L2 SR
/-! ### what the top has written -/
def GF (K : PySem.W.Frag) (x : Str) (st : Stmt) : Prop := ∃ (f : Addr) (oc : Value) (od an : Option Addr) (sl : Array (Option Value)) (kV dc pm cd ct : Value), PySem.W.nsIn K mainGlobals x = some (some (.ref f)) ∧
  K.lookup f = some ⟨oc, od, .func (PySem.W.fnOf x x (defArgs st) (defBody st) (defScope st) .none kV dc pm an cd ct), sl⟩ ∧ PySem.W.codeIn K cd x = true ∧ PySem.W.keepIn K (.ref f) = true
theorem gf_mk {K : PySem.W.Frag} {x : Str} {st : Stmt} {f : Addr} {oc : Value} {od an : Option Addr} {sl : Array (Option Value)} {kV dc pm cd ct : Value} (a : PySem.W.nsIn K mainGlobals x = some (some (.ref f)))
    (l : K.lookup f = some ⟨oc, od, .func (PySem.W.fnOf x x (defArgs st) (defBody st) (defScope st) .none kV dc pm an cd ct), sl⟩) (c : PySem.W.codeIn K cd x = true) (k : PySem.W.keepIn K (.ref f) = true) : GF K x st := ⟨f, oc, od, an, sl, kV, dc, pm, cd, ct, a, l, c, k⟩
def ME (K : PySem.W.Frag) (C : Addr) (x qual : Str) (st : Stmt) : Prop := ∃ (f : Addr) (oc : Value) (od an : Option Addr) (sl : Array (Option Value)) (kV dc pm cd ct : Value), PySem.W.findIn K (.ref C) x = some (some (.ref f)) ∧ PySem.W.isFn K (.ref f) = true ∧
  K.lookup f = some ⟨oc, od, .func (PySem.W.fnOf x qual (defArgs st) (defBody st) (defScope st) .none kV dc pm an cd ct), sl⟩ ∧ PySem.W.codeIn K cd qual = true ∧ PySem.W.keepIn K (.ref f) = true
theorem me_mk {K : PySem.W.Frag} {C : Addr} {x qual : Str} {st : Stmt} {f : Addr} {oc : Value} {od an : Option Addr} {sl : Array (Option Value)} {kV dc pm cd ct : Value} (a : PySem.W.findIn K (.ref C) x = some (some (.ref f))) (i : PySem.W.isFn K (.ref f) = true)
    (l : K.lookup f = some ⟨oc, od, .func (PySem.W.fnOf x qual (defArgs st) (defBody st) (defScope st) .none kV dc pm an cd ct), sl⟩) (c : PySem.W.codeIn K cd qual = true) (k : PySem.W.keepIn K (.ref f) = true) : ME K C x qual st := ⟨f, oc, od, an, sl, kV, dc, pm, cd, ct, a, i, l, c, k⟩
/-- a method with one default, an object -/
def MD (K : PySem.W.Frag) (C : Addr) (x qual : Str) (st : Stmt) : Prop := ∃ (f T e : Addr) (oc : Value) (od an : Option Addr) (sl : Array (Option Value)) (kV dc pm cd ct : Value) (o : Obj) (n : Nat), PySem.W.findIn K (.ref C) x = some (some (.ref f)) ∧ PySem.W.isFn K (.ref f) = true ∧
  K.lookup f = some ⟨oc, od, .func (PySem.W.fnOf x qual (defArgs st) (defBody st) (defScope st) (.ref T) kV dc pm an cd ct), sl⟩ ∧ PySem.W.codeIn K cd qual = true ∧ PySem.W.keepIn K (.ref f) = true ∧ K.lookup T = some o ∧ o.data = .seq #[.ref e] n
theorem md_mk {K : PySem.W.Frag} {C : Addr} {x qual : Str} {st : Stmt} {f T e : Addr} {oc : Value} {od an : Option Addr} {sl : Array (Option Value)} {kV dc pm cd ct : Value} {o : Obj} {n : Nat} (a : PySem.W.findIn K (.ref C) x = some (some (.ref f))) (i : PySem.W.isFn K (.ref f) = true)
    (l : K.lookup f = some ⟨oc, od, .func (PySem.W.fnOf x qual (defArgs st) (defBody st) (defScope st) (.ref T) kV dc pm an cd ct), sl⟩) (c : PySem.W.codeIn K cd qual = true) (k : PySem.W.keepIn K (.ref f) = true) (t : K.lookup T = some o) (d : o.data = .seq #[.ref e] n) : MD K C x qual st := ⟨f, T, e, oc, od, an, sl, kV, dc, pm, cd, ct, o, n, a, i, l, c, k, t, d⟩
theorem MD.fun {K : PySem.W.Frag} {C : Addr} {x qual : Str} {st : Stmt} (m : MD K C x qual st) : ∃ (f : Addr) (fd : FuncData) (e : Addr), PySem.W.findIn K (.ref C) x = some (some (.ref f)) ∧ PySem.W.isFn K (.ref f) = true ∧ FunD K x qual (defArgs st) (defBody st) (defScope st) [.ref e] [] f fd := by
  obtain ⟨f, T, e, oc, od, an, sl, kV, dc, pm, cd, ct, o, n, a, i, l, c, k, t, d⟩ := m
  exact ⟨f, _, e, a, i, ⟨⟨oc, od, .ref T, kV, dc, pm, an, cd, ct, sl, rfl, l, c, .inr ⟨by simp, T, o, [.ref e], n, rfl, t, d, .cons rfl .nil⟩, .inl rfl⟩, k⟩⟩
def PR (K : PySem.W.Frag) (C : Addr) (x qual : Str) (st : Stmt) : Prop := ∃ (p f : Addr) (rest : List Value) (oc : Value) (od an : Option Addr) (sl : Array (Option Value)) (kV dc pm cd ct : Value), PySem.W.findIn K (.ref C) x = some (some (.ref p)) ∧
  PySem.W.specialIn K (.ref p) "__get__" = some (some (.builtin "property.__get__")) ∧ PySem.W.takesIn K (.ref p) = some true ∧ PySem.W.recIn K p "property" = some (.ref f :: rest) ∧
  K.lookup f = some ⟨oc, od, .func (PySem.W.fnOf x qual (defArgs st) (defBody st) (defScope st) .none kV dc pm an cd ct), sl⟩ ∧ PySem.W.codeIn K cd qual = true ∧ PySem.W.keepIn K (.ref f) = true
theorem pr_mk {K : PySem.W.Frag} {C : Addr} {x qual : Str} {st : Stmt} {p f : Addr} {rest : List Value} {oc : Value} {od an : Option Addr} {sl : Array (Option Value)} {kV dc pm cd ct : Value} (a : PySem.W.findIn K (.ref C) x = some (some (.ref p)))
    (g : PySem.W.specialIn K (.ref p) "__get__" = some (some (.builtin "property.__get__"))) (t : PySem.W.takesIn K (.ref p) = some true) (r : PySem.W.recIn K p "property" = some (.ref f :: rest))
    (l : K.lookup f = some ⟨oc, od, .func (PySem.W.fnOf x qual (defArgs st) (defBody st) (defScope st) .none kV dc pm an cd ct), sl⟩) (c : PySem.W.codeIn K cd qual = true) (k : PySem.W.keepIn K (.ref f) = true) : PR K C x qual st := ⟨p, f, rest, oc, od, an, sl, kV, dc, pm, cd, ct, a, g, t, r, l, c, k⟩
def CM (K : PySem.W.Frag) (C : Addr) (x qual : Str) (st : Stmt) : Prop := ∃ (p f : Addr) (rest : List Value) (oc : Value) (od an : Option Addr) (sl : Array (Option Value)) (kV dc pm cd ct : Value), PySem.W.findCls K (.ref C) (.type "type") x = some (.get (.builtin "classmethod.__get__") (.ref p) .none (.ref C)) ∧
  PySem.W.recIn K p "classmethod" = some (.ref f :: rest) ∧ PySem.W.fnIn K f = true ∧
  K.lookup f = some ⟨oc, od, .func (PySem.W.fnOf x qual (defArgs st) (defBody st) (defScope st) .none kV dc pm an cd ct), sl⟩ ∧ PySem.W.codeIn K cd qual = true ∧ PySem.W.keepIn K (.ref f) = true
theorem cm_mk {K : PySem.W.Frag} {C : Addr} {x qual : Str} {st : Stmt} {p f : Addr} {rest : List Value} {oc : Value} {od an : Option Addr} {sl : Array (Option Value)} {kV dc pm cd ct : Value} (a : PySem.W.findCls K (.ref C) (.type "type") x = some (.get (.builtin "classmethod.__get__") (.ref p) .none (.ref C)))
    (r : PySem.W.recIn K p "classmethod" = some (.ref f :: rest)) (n : PySem.W.fnIn K f = true)
    (l : K.lookup f = some ⟨oc, od, .func (PySem.W.fnOf x qual (defArgs st) (defBody st) (defScope st) .none kV dc pm an cd ct), sl⟩) (c : PySem.W.codeIn K cd qual = true) (k : PySem.W.keepIn K (.ref f) = true) : CM K C x qual st := ⟨p, f, rest, oc, od, an, sl, kV, dc, pm, cd, ct, a, r, n, l, c, k⟩
def CS (K : PySem.W.Frag) (x : Str) (z : V) : Prop := ∃ v, PySem.W.nsIn K mainGlobals x = some (some v) ∧ RelV z v
theorem cs_mk {K : PySem.W.Frag} {x : Str} {z : V} {v : Value} (a : PySem.W.nsIn K mainGlobals x = some (some v)) (r : RelV z v) : CS K x z := ⟨v, a, r⟩
def CV (K : PySem.W.Frag) (C : Addr) (x : Str) (z : V) : Prop := ∃ u, PySem.W.findCls K (.ref C) (.type "type") x = some (.val u) ∧ RelV z u
theorem cv_mk {K : PySem.W.Frag} {C : Addr} {x : Str} {z : V} {u : Value} (a : PySem.W.findCls K (.ref C) (.type "type") x = some (.val u)) (r : RelV z u) : CV K C x z := ⟨u, a, r⟩
structure CL (K : PySem.W.Frag) (C : Addr) : Prop where
  pg : PySem.W.plainGet K C Str.empty = true
  hd : PySem.W.hasDictIn K C = true
  po : PySem.W.plainOver K C = true
  sa : PySem.W.findIn K (.ref C) "__setattr__" = some (some (.builtin "object.__setattr__"))
  ma : PySem.W.makesIn K C = true
  kc : PySem.W.keepIn K (.ref C) = true
structure TY (K : PySem.W.Frag) (C : Addr) : Prop where
  cls : PySem.W.findIn K (.ref C) "__class__" = some (some (.builtin "object.__class__"))
  getc : PySem.W.specialIn K (.builtin "object.__class__") "__get__" = some (some (.builtin "getset_descriptor.__get__"))
  tak : PySem.W.takesIn K (.builtin "object.__class__") = some true
  mro : PySem.W.mroIn K C (.type "object") = some true
  ne : PySem.W.findIn K (.ref C) "__ne__" = some (some (.builtin "object.__ne__"))
  sub : PySem.W.subIn K (.ref C) (.type "object") = some true
  ic : PySem.W.isClsIn K C = true
  ty : PySem.W.typeIn K (.ref C) = some (.type "type")
  rd : PySem.W.readsIn K C (.type "type") = true
  ga : PySem.W.specialIn K (.ref C) "__getattribute__" = some (some (.builtin "type.__getattribute__"))
structure FR (K : PySem.W.Frag) : Prop where
  len : PySem.W.nsIn K mainGlobals "len" = some none
  range : PySem.W.nsIn K mainGlobals "range" = some none
  int : PySem.W.nsIn K mainGlobals "int" = some none
  list : PySem.W.nsIn K mainGlobals "list" = some none
  dict : PySem.W.nsIn K mainGlobals "dict" = some none
  tuple : PySem.W.nsIn K mainGlobals "tuple" = some none
  set : PySem.W.nsIn K mainGlobals "set" = some none
  sorted : PySem.W.nsIn K mainGlobals "sorted" = some none
  all : PySem.W.nsIn K mainGlobals "all" = some none
  any : PySem.W.nsIn K mainGlobals "any" = some none
  max : PySem.W.nsIn K mainGlobals "max" = some none
  min : PySem.W.nsIn K mainGlobals "min" = some none
  abs : PySem.W.nsIn K mainGlobals "abs" = some none
  divmod : PySem.W.nsIn K mainGlobals "divmod" = some none
  repr : PySem.W.nsIn K mainGlobals "repr" = some none
  isinstance : PySem.W.nsIn K mainGlobals "isinstance" = some none
  enumerate : PySem.W.nsIn K mainGlobals "enumerate" = some none
  str : PySem.W.nsIn K mainGlobals "str" = some none
  bool : PySem.W.nsIn K mainGlobals "bool" = some none
theorem FR.bl {K : PySem.W.Frag} {h : Heap} {mg : Str → Option Value} (fr : FR K) (X : K.In h) (G : h.Ns mainGlobals mg) : Bl mg := ⟨PySem.W.mg_none_of X G fr.len, PySem.W.mg_none_of X G fr.range, PySem.W.mg_none_of X G fr.int, PySem.W.mg_none_of X G fr.list, PySem.W.mg_none_of X G fr.dict, PySem.W.mg_none_of X G fr.tuple, PySem.W.mg_none_of X G fr.set, PySem.W.mg_none_of X G fr.sorted, PySem.W.mg_none_of X G fr.all, PySem.W.mg_none_of X G fr.any, PySem.W.mg_none_of X G fr.max, PySem.W.mg_none_of X G fr.min, PySem.W.mg_none_of X G fr.abs, PySem.W.mg_none_of X G fr.divmod, PySem.W.mg_none_of X G fr.repr, PySem.W.mg_none_of X G fr.isinstance, PySem.W.mg_none_of X G fr.enumerate, PySem.W.mg_none_of X G fr.str, PySem.W.mg_none_of X G fr.bool⟩
theorem GF.cal {P : Program} {w : World} {K : PySem.W.Frag} {h : Heap} {mg : Str → Option Value} {base : Heap} {x : Str} {st : Stmt} {k : Nat} {ps : List Str} {sp : Sp} (g : GF K x st) (X : K.In h) (G : h.Ns mainGlobals mg)
    (hb : ∀ (kV doc pm : Value) (an : Option Addr) (cdv ct : Value) (us : List Value), us.length = ps.length → bindArgs (PySem.W.fnOf x x (defArgs st) (defBody st) (defScope st) .none kV doc pm an cdv ct) ⟨us, []⟩ = pure (ps.zip us))
    (ok : ∀ f fd, Fun K x x st f fd → FnOk P w K mg base CX0 k f fd ps sp) : Cal P w K mg base x k ps sp := by
  obtain ⟨f, oc, od, an, sl, kV, dc, pm, cd, ct, a, l, c, kp⟩ := g
  have F := fun_mk (st := st) l c kp
  exact ⟨⟨f, _, ok f _ F, PySem.W.mg_of X G a, kp, F.binds hb⟩⟩
theorem GF.calG {P : Program} {w : World} {K : PySem.W.Frag} {h : Heap} {mg : Str → Option Value} {base : Heap} {x : Str} {st : Stmt} {k : Nat} {ps : List Str} {sp : Sp} (g : GF K x st) (X : K.In h) (G : h.Ns mainGlobals mg)
    (hb : ∀ (kV doc pm : Value) (an : Option Addr) (cdv ct : Value) (us : List Value), us.length = ps.length → bindArgs (PySem.W.fnOf x x (defArgs st) (defBody st) (defScope st) .none kV doc pm an cdv ct) ⟨us, []⟩ = pure (ps.zip us))
    (ok : ∀ f fd, Fun K x x st f fd → FnG P w K mg base k f fd ps sp) : CalG P w K mg base x k ps sp := by
  obtain ⟨f, oc, od, an, sl, kV, dc, pm, cd, ct, a, l, c, kp⟩ := g
  have F := fun_mk (st := st) l c kp
  exact ⟨⟨f, _, ok f _ F, PySem.W.mg_of X G a, kp, F.binds hb⟩⟩
theorem GF.fun {K : PySem.W.Frag} {h : Heap} {mg : Str → Option Value} {x : Str} {st : Stmt} (g : GF K x st) (X : K.In h) (G : h.Ns mainGlobals mg) : ∃ f fd, Fun K x x st f fd ∧ mg x = some (.ref f) ∧ PySem.W.keepIn K (.ref f) = true := by
  obtain ⟨f, oc, od, an, sl, kV, dc, pm, cd, ct, a, l, c, kp⟩ := g
  exact ⟨f, _, fun_mk (st := st) l c kp, PySem.W.mg_of X G a, kp⟩
theorem ME.fun {K : PySem.W.Frag} {C : Addr} {x qual : Str} {st : Stmt} (g : ME K C x qual st) : ∃ f fd, Fun K x qual st f fd ∧ PySem.W.findIn K (.ref C) x = some (some (.ref f)) ∧ PySem.W.isFn K (.ref f) = true ∧ PySem.W.keepIn K (.ref f) = true := by
  obtain ⟨f, oc, od, an, sl, kV, dc, pm, cd, ct, a, i, l, c, kp⟩ := g
  exact ⟨f, _, fun_mk (st := st) l c kp, a, i, kp⟩
theorem PR.fun {K : PySem.W.Frag} {C : Addr} {x qual : Str} {st : Stmt} (g : PR K C x qual st) : ∃ p f fd, Fun K x qual st f fd ∧ PropOf K C x p f := by
  obtain ⟨p, f, rest, oc, od, an, sl, kV, dc, pm, cd, ct, a, g, t, r, l, c, kp⟩ := g
  exact ⟨p, f, _, fun_mk (st := st) l c kp, ⟨a, g, t, ⟨rest, r⟩⟩⟩
theorem CS.at {K : PySem.W.Frag} {h : Heap} {mg : Str → Option Value} {x : Str} {z : V} (c : CS K x z) (X : K.In h) (G : h.Ns mainGlobals mg) : ∃ v, mg x = some v ∧ RelV z v := by
  obtain ⟨v, a, r⟩ := c
  exact ⟨v, PySem.W.mg_of X G a, r⟩
end SS

set_option maxRecDepth 100000
set_option maxHeartbeats 4000000
namespace SS
open PySem L2 SR TL ClX
/-! ### what the top has written, more -/
theorem ktup_mk {K : PySem.W.Frag} {e : Addr} {o : Obj} {n : Nat} (h : K.lookup e = some o) (c : o.cls = .type "tuple") (d : o.data = .seq #[] n) : KTup K e [] := ⟨o, #[], n, h, c, d, Nat.zero_le _, .nil⟩
/-- __init__(self, states, ends=(), *, start=0) -/
def MDK (K : PySem.W.Frag) (C : Addr) (x qual : Str) (st : Stmt) : Prop := ∃ (f T D e : Addr) (oc : Value) (od an : Option Addr) (sl : Array (Option Value)) (dc pm cd ct u : Value) (o : Obj) (n : Nat), PySem.W.findIn K (.ref C) x = some (some (.ref f)) ∧ PySem.W.isFn K (.ref f) = true ∧
  K.lookup f = some ⟨oc, od, .func (PySem.W.fnOf x qual (defArgs st) (defBody st) (defScope st) (.ref T) (.ref D) dc pm an cd ct), sl⟩ ∧ PySem.W.codeIn K cd qual = true ∧ PySem.W.keepIn K (.ref f) = true ∧ K.lookup T = some o ∧ o.data = .seq #[.ref e] n ∧ PySem.W.nsIn K D "start" = some (some u) ∧ RelV (.int 0) u ∧ KTup K e []
theorem mdk_mk {K : PySem.W.Frag} {C : Addr} {x qual : Str} {st : Stmt} {f T D e : Addr} {oc : Value} {od an : Option Addr} {sl : Array (Option Value)} {dc pm cd ct u : Value} {o oe : Obj} {n ne : Nat} (a : PySem.W.findIn K (.ref C) x = some (some (.ref f))) (i : PySem.W.isFn K (.ref f) = true)
    (l : K.lookup f = some ⟨oc, od, .func (PySem.W.fnOf x qual (defArgs st) (defBody st) (defScope st) (.ref T) (.ref D) dc pm an cd ct), sl⟩) (c : PySem.W.codeIn K cd qual = true) (k : PySem.W.keepIn K (.ref f) = true) (t : K.lookup T = some o) (d : o.data = .seq #[.ref e] n) (s : PySem.W.nsIn K D "start" = some (some u)) (r : RelV (.int 0) u)
    (e1 : K.lookup e = some oe) (e2 : oe.cls = .type "tuple") (e3 : oe.data = .seq #[] ne) : MDK K C x qual st := ⟨f, T, D, e, oc, od, an, sl, dc, pm, cd, ct, u, o, n, a, i, l, c, k, t, d, s, r, ktup_mk e1 e2 e3⟩
theorem MDK.fun {K : PySem.W.Frag} {C : Addr} {x qual : Str} {st : Stmt} (m : MDK K C x qual st) : ∃ (f : Addr) (fd : FuncData) (e : Addr), PySem.W.findIn K (.ref C) x = some (some (.ref f)) ∧ PySem.W.isFn K (.ref f) = true ∧ FunD K x qual (defArgs st) (defBody st) (defScope st) [.ref e] [("start", .int 0)] f fd ∧ KTup K e [] := by
  obtain ⟨f, T, D, e, oc, od, an, sl, dc, pm, cd, ct, u, o, n, a, i, l, c, k, t, d, s, r, kt⟩ := m
  refine ⟨f, _, e, a, i, ⟨⟨oc, od, .ref T, .ref D, dc, pm, an, cd, ct, sl, rfl, l, c, .inr ⟨by simp, T, o, [.ref e], n, rfl, t, d, .cons rfl .nil⟩, .inr ⟨D, rfl, fun q hq => ?_⟩⟩, k⟩, kt⟩
  rw [List.mem_singleton.mp hq]
  exact ⟨u, s, r⟩
theorem Fun.kbA {K : PySem.W.Frag} {x qual : Str} {st : Stmt} {f : Addr} {fd : FuncData} {ps ks : List Str} (F : Fun K x qual st f fd) (n : Nat)
    (h : ∀ (kV doc pm : Value) (an : Option Addr) (cdv ct : Value) (us ws : List Value), us.length = n → ws.length = ks.length → bindArgs (PySem.W.fnOf x qual (defArgs st) (defBody st) (defScope st) .none kV doc pm an cdv ct) ⟨us, ks.zip ws⟩ = pure (ps.zip (us ++ ws))) : KBn K fd ps n ks gA gA := by
  obtain ⟨oc, od, kV, doc, pm, an, cdv, ct, osl, rfl, lk, hcd⟩ := F.ex
  exact ⟨fun s us ws X l1 l2 => .of_eq (h kV doc pm an cdv ct us ws l1 l2), fun r1 r2 => r1.append r2⟩
structure OD (K : PySem.W.Frag) (C : Addr) : Prop where
  tNoneType : PySem.W.subIn K (.type "NoneType") (.ref C) = some false
  fNoneType : PySem.W.subIn K (.ref C) (.type "NoneType") = some false
  tint : PySem.W.subIn K (.type "int") (.ref C) = some false
  fint : PySem.W.subIn K (.ref C) (.type "int") = some false
  tstr : PySem.W.subIn K (.type "str") (.ref C) = some false
  fstr : PySem.W.subIn K (.ref C) (.type "str") = some false
  tlist : PySem.W.subIn K (.type "list") (.ref C) = some false
  flist : PySem.W.subIn K (.ref C) (.type "list") = some false
  ttuple : PySem.W.subIn K (.type "tuple") (.ref C) = some false
  ftuple : PySem.W.subIn K (.ref C) (.type "tuple") = some false
  tdict : PySem.W.subIn K (.type "dict") (.ref C) = some false
  fdict : PySem.W.subIn K (.ref C) (.type "dict") = some false
theorem OD.odd {K : PySem.W.Frag} {C : Addr} (o : OD K C) (t : TY K C) : OddC K C := by
  refine ⟨fun T h => ?_, fun T h => ?_, t.ic, t.ty⟩
  · simp only [List.mem_cons, List.not_mem_nil, or_false] at h
    rcases h with rfl | rfl | rfl | rfl | rfl | rfl
    · exact o.tNoneType
    · exact o.tint
    · exact o.tstr
    · exact o.tlist
    · exact o.ttuple
    · exact o.tdict
  · simp only [List.mem_cons, List.not_mem_nil, or_false] at h
    rcases h with rfl | rfl | rfl | rfl | rfl | rfl
    · exact o.fNoneType
    · exact o.fint
    · exact o.fstr
    · exact o.flist
    · exact o.ftuple
    · exact o.fdict
theorem OddC_ni {K : PySem.W.Frag} {C : Addr} (o : OddC K C) : PySem.W.kitOne K (.ref C) (.type "int") = some false := by
  unfold PySem.W.kitOne
  have nq : ¬ (Value.ref C == Value.type "int") = true := fun q => by
    have z : Value.ref C = Value.type "int" := beq_iff_eq.mp q
    cases z
  rw [if_neg nq]
  unfold PySem.W.kitCls
  show (if PySem.W.kitMeta "int" = true then PySem.W.subIn K (.ref C) (.type "int") else none) = some false
  rw [if_pos (by decide +kernel)]
  exact o.fro "int" (by decide)
end SS
namespace SS
open PySem L2 SR TL ClX
theorem gD4_rel {vs zs : List V} {us ws : List Value} (r1 : Vals vs us) (r2 : Vals zs ws) : Vals (gD4 vs zs) (gD4 us ws) := by
  rcases r1 with _ | ⟨x, r1⟩
  · exact .nil
  · rcases r1 with _ | ⟨y, r1⟩
    · rcases r2 with _ | ⟨a, r2⟩
      · exact .nil
      · rcases r2 with _ | ⟨b, r2⟩
        · exact .nil
        · rcases r2 with _ | ⟨c, r2⟩
          · exact .nil
          · rcases r2 with _ | ⟨d, r2⟩
            · exact .nil
            · rcases r2 with _ | ⟨e, r2⟩
              · exact .cons x (.cons d (.cons c (.cons b (.cons a .nil))))
              · exact .nil
    · exact .nil
theorem kbG {K : PySem.W.Frag} {f : Addr} {fd : FuncData} (F : Fun K "__init__" "Door.__init__" sDIn f fd) : KBn K fd psDIn 1 ["language", "behind", "state", "reader"] gD4 gD4 := by
  obtain ⟨oc, od, kV, doc, pm, an, cdv, ct, osl, rfl, lk, hcd⟩ := F.ex
  exact ⟨fun s us ws X l1 l2 => .of_eq (by
    match us, l1, ws, l2 with
    | [_], _, [_, _, _, _], _ => rfl), fun r1 r2 => gD4_rel r1 r2⟩
end SS

set_option maxRecDepth 100000
set_option maxHeartbeats 4000000
namespace SS
open PySem L2 SR TL ClX
theorem all_mk {l : PySem.W.OpenLaw} {w : World} {K : PySem.W.Frag} {h : Heap} {mg : Str → Option Value} {fa C L D : Addr} (X : K.In h) (G : h.Ns mainGlobals mg) (hfa : mg "law" = some (.ref fa))
    (aC : PySem.W.nsIn K mainGlobals "Reader" = some (some (.ref C)))
    (aL' : PySem.W.nsIn K mainGlobals "Language" = some (some (.ref L)))
    (aD : PySem.W.nsIn K mainGlobals "Door" = some (some (.ref D)))
    (clC : CL K C)
    (nC_rows : PySem.W.findIn K (.ref C) "rows" = some none)
    (nC_end_list : PySem.W.findIn K (.ref C) "end_list" = some none)
    (nC_own_start : PySem.W.findIn K (.ref C) "own_start" = some none)
    (tyC : TY K C)
    (rdC : PySem.W.readsIn K C (.type "type") = true)
    (gaC : PySem.W.specialIn K (.ref C) "__getattribute__" = some (some (.builtin "type.__getattribute__")))
    (mC_len : ME K C "__len__" "Reader.__len__" sRLen)
    (mC_contains : ME K C "__contains__" "Reader.__contains__" sRCon)
    (mC_eq : ME K C "__eq__" "Reader.__eq__" sEql)
    (mC_ends : ME K C "ends" "Reader.ends" sEns)
    (pC_start : PR K C "start" "Reader.start" sSrt)
    (vC_MAX_STATES : CV K C "MAX_STATES" (.int 12))
    (clL : CL K L)
    (nL_own_signs : PySem.W.findIn K (.ref L) "own_signs" = some none)
    (nL_goals : PySem.W.findIn K (.ref L) "goals" = some none)
    (nL_member_list : PySem.W.findIn K (.ref L) "member_list" = some none)
    (nL_live_list : PySem.W.findIn K (.ref L) "live_list" = some none)
    (tyL : TY K L)
    (mL_init : ME K L "__init__" "Language.__init__" SG.sInit)
    (mL_eq : ME K L "__eq__" "Language.__eq__" SG.sEql)
    (clD : CL K D)
    (nD_own_reader : PySem.W.findIn K (.ref D) "own_reader" = some none)
    (nD_own_state : PySem.W.findIn K (.ref D) "own_state" = some none)
    (nD_own_behind : PySem.W.findIn K (.ref D) "own_behind" = some none)
    (nD_own_language : PySem.W.findIn K (.ref D) "own_language" = some none)
    (tyD : TY K D)
    (mD_init : ME K D "__init__" "Door.__init__" sDIn)
    (mD_eq : ME K D "__eq__" "Door.__eq__" sDEq)
    (pD_reader : PR K D "reader" "Door.reader" sDRd)
    (pD_state : PR K D "state" "Door.state" sDSt)
    (pD_behind : PR K D "behind" "Door.behind" sDBe)
    (pD_language : PR K D "language" "Door.language" sDLg)
    (iC : MDK K C "__init__" "Reader.__init__" sIni)
    (oddC : OD K C)
    (oddL : OD K L)
    (oddD : OD K D)
    (fr : FR K)
    (g_is_word : GF K "is_word" sWord)
    (g_is_sign : GF K "is_sign" sSign)
    (g_is_mark : GF K "is_mark" sMark)
    (g_is_name : GF K "is_name" sName)
    (g_is_below : GF K "is_below" sNum)
    (g_are_different : GF K "are_different" sSta)
    (g_is_move : GF K "is_move" sMove)
    (g_is_state_dict : GF K "is_state_dict" sSdi)
    (g_told_in : GF K "told_in" sTol)
    (g_signs_in : GF K "signs_in" sSgi)
    (g_reader_problem : GF K "reader_problem" sPrb)
    (g_require_state : GF K "require_state" sRqs)
    (g_require_states : GF K "require_states" sRqz)
    (g_require_word : GF K "require_word" sRqw)
    (g_silent_of : GF K "silent_of" sSil)
    (g_step_of : GF K "step_of" sStp)
    (g_last_of : GF K "last_of" sLst)
    (g_meets : GF K "meets" sMee)
    (g_is_writable : GF K "is_writable" sWri)
    (g_are_signs : GF K "are_signs" SG.sSigns)
    (g_is_number_below : GF K "is_number_below" SG.sNum)
    (g_is_state_row : GF K "is_state_row" SG.sSrow)
    (g_are_states : GF K "are_states" SG.sSta)
    (g_check_machine : GF K "check_machine" SG.sChk)
    (g_reached : GF K "reached" SG.sRch)
    (g_refined : GF K "refined" SG.sRef)
    (g_least_kinds : GF K "least_kinds" SG.sLek)
    (g_least_machine : GF K "least_machine" SG.sLma)
    (g_live_states : GF K "live_states" SG.sLst)
    (g__law_rng : GF K "_law_rng" sRng)
    (g__law_draw : GF K "_law_draw" sDraw)
    (g__law_choice : GF K "_law_choice" sChoice)
    (g__law_letters : GF K "_law_letters" sLetters)
    (g__law_marks : GF K "_law_marks" sMarks)
    (g__law_any_format : GF K "_law_any_format" sAny)
    (g__law_family : GF K "_law_family" sFam)
    (g__law_bent : GF K "_law_bent" sBent)
    (g__law_format : GF K "_law_format" sFmt)
    (g__law_silent : GF K "_law_silent" sLSi)
    (g__law_step : GF K "_law_step" sLSt)
    (g__law_last : GF K "_law_last" sLLa)
    (g__law_class : GF K "_law_class" SG.sClass)
    (g__law_texts : GF K "_law_texts" sTex)
    (g__law_run : GF K "_law_run" sRun)
    (g__law_door_right : GF K "_law_door_right" sDor)
    (g__law_compared : GF K "_law_compared" sCmp)
    (g__law_doors_right : GF K "_law_doors_right" sDrs)
    (g__law_right : GF K "_law_right" sRgt)
    (g_law : GF K "law" sLaw)
    (c_LETTERS : CS K "LETTERS" (.str (Str.ofString "abcdefghijklmnopqrstuvwxyz")))
    (c_LONGEST_NAME : CS K "LONGEST_NAME" (.int 8))
    (c_MOST_PAGE_SIGNS : CS K "MOST_PAGE_SIGNS" (.int 6))
    (c_MOST_TEXT_SIGNS : CS K "MOST_TEXT_SIGNS" (.int 4))
    (c_MOST_MARKS : CS K "MOST_MARKS" (.int 6))
    (c_MOST_SIGNS : CS K "MOST_SIGNS" (.int 4))
    (c_MOST_GIVEN_STATES : CS K "MOST_GIVEN_STATES" (.int 40))
    (c_MOST_STATES : CS K "MOST_STATES" (.int 6))
    : ∃ fd : FuncData, (∀ (s : Shared) (v : Value), BindsTo s fd ⟨[v], []⟩ [("_law_script", v)]) ∧ ∀ base : Heap, K.In base → base.Ns mainGlobals mg → FnG l.prog w K mg base 11 fa fd ["_law_script"] (spLaw K) := by
  obtain ⟨fL, ocL, odL, anL, slL, kVL, dcL, pmL, cdL, ctL, aL, lL, cL, kL⟩ := g_law
  have e := hfa.symm.trans (PySem.W.mg_of X G aL)
  cases e
  have FL := fun_mk (st := sLaw) lL cL kL
  have aLc := aL'
  refine ⟨PySem.W.fnOf "law" "law" (defArgs sLaw) (defBody sLaw) (defScope sLaw) .none kVL dcL pmL anL cdL ctL, fun s v => .of_eq rfl, fun base _ _ => ?_⟩
  have B : Bl mg := fr.bl X G
  have Cc : SS.Cn mg := by
    obtain ⟨_, h1, t1, rfl⟩ := c_LETTERS
    obtain ⟨_, h2, t2, rfl⟩ := c_LONGEST_NAME
    obtain ⟨_, h3, t3, rfl⟩ := c_MOST_PAGE_SIGNS
    obtain ⟨_, h4, t4, rfl⟩ := c_MOST_TEXT_SIGNS
    obtain ⟨_, h5, t5, rfl⟩ := c_MOST_MARKS
    exact ⟨⟨t1, PySem.W.mg_of X G h1⟩, ⟨t2, PySem.W.mg_of X G h2⟩, ⟨t3, PySem.W.mg_of X G h3⟩, ⟨t4, PySem.W.mg_of X G h4⟩, ⟨t5, PySem.W.mg_of X G h5⟩⟩
  have Cg : SG.Cn mg := by
    obtain ⟨_, h1, t1, rfl⟩ := c_LETTERS
    obtain ⟨_, h2, t2, rfl⟩ := c_MOST_SIGNS
    obtain ⟨_, h3, t3, rfl⟩ := c_MOST_GIVEN_STATES
    obtain ⟨_, h4, t4, rfl⟩ := c_MOST_STATES
    exact ⟨⟨t1, PySem.W.mg_of X G h1⟩, ⟨t2, PySem.W.mg_of X G h2⟩, ⟨t3, PySem.W.mg_of X G h3⟩, ⟨t4, PySem.W.mg_of X G h4⟩⟩
  have mC := PySem.W.mg_of X G aC
  have T : RTx K mg C := ⟨⟨clC.pg, clC.hd, clC.po, clC.sa⟩, nC_rows, nC_end_list, nC_own_start, mC⟩
  have TG : SG.LTx K mg L := ⟨⟨clL.pg, clL.hd, clL.po, clL.sa⟩, nL_own_signs, nL_goals, nL_member_list, nL_live_list, PySem.W.mg_of X G aLc⟩
  have TD : DTx K mg D := ⟨⟨clD.pg, clD.hd, clD.po, clD.sa⟩, nD_own_reader, nD_own_state, nD_own_behind, nD_own_language, PySem.W.mg_of X G aD⟩
  have Gm : RdM K mg C := by
    obtain ⟨u, h6, h7⟩ := vC_MAX_STATES
    exact ⟨mC, .type "type", u, ⟨rdC, gaC⟩, ⟨h6, h7⟩⟩
  have Wd : Cal l.prog w K mg base "is_word" 1 ["value"] spWord := g_is_word.cal X G (fun _ _ _ _ _ _ us hl => match us, hl with | [_], _ => rfl) fun f fd F => ok_word F B Cc
  have Sg : Cal l.prog w K mg base "is_sign" 2 ["value"] spSign := g_is_sign.cal X G (fun _ _ _ _ _ _ us hl => match us, hl with | [_], _ => rfl) fun f fd F => ok_sign F B Wd
  have Mk : Cal l.prog w K mg base "is_mark" 2 ["value"] spMark := g_is_mark.cal X G (fun _ _ _ _ _ _ us hl => match us, hl with | [_], _ => rfl) fun f fd F => ok_mark F B Cc Wd
  have Nm : Cal l.prog w K mg base "is_name" 3 ["value"] spName := g_is_name.cal X G (fun _ _ _ _ _ _ us hl => match us, hl with | [_], _ => rfl) fun f fd F => ok_name F Sg Mk
  have Nu : Cal l.prog w K mg base "is_below" 1 ["value", "limit"] spNum := g_is_below.cal X G (fun _ _ _ _ _ _ us hl => match us, hl with | [_, _], _ => rfl) fun f fd F => ok_num F B
  have Sa : Cal l.prog w K mg base "are_different" 2 ["value", "limit"] (spSta K) := g_are_different.cal X G (fun _ _ _ _ _ _ us hl => match us, hl with | [_, _], _ => rfl) fun f fd F => ok_sta F B Nu
  have Mo : Cal l.prog w K mg base "is_move" 4 ["value", "many"] spMove := g_is_move.cal X G (fun _ _ _ _ _ _ us hl => match us, hl with | [_, _], _ => rfl) fun f fd F => ok_move F B Nu Nm
  have Sd : Cal l.prog w K mg base "is_state_dict" 5 ["value", "many"] spSdi := g_is_state_dict.cal X G (fun _ _ _ _ _ _ us hl => match us, hl with | [_, _], _ => rfl) fun f fd F => ok_sdi F B Sg Mo
  have To : Cal l.prog w K mg base "told_in" 1 ["rows"] spTol := g_told_in.cal X G (fun _ _ _ _ _ _ us hl => match us, hl with | [_], _ => rfl) fun f fd F => ok_tol F B
  have Si : Cal l.prog w K mg base "signs_in" 1 ["rows"] spSgi := g_signs_in.cal X G (fun _ _ _ _ _ _ us hl => match us, hl with | [_], _ => rfl) fun f fd F => ok_sgi F B
  have Pb : Cal l.prog w K mg base "reader_problem" 6 ["states", "ends", "start"] (spPrb K) := g_reader_problem.cal X G (fun _ _ _ _ _ _ us hl => match us, hl with | [_, _, _], _ => rfl) fun f fd F => ok_prb F B Cc Gm Sd Sa Nu Si To Sg Mk
  have gSg : Cal l.prog w K mg base "are_signs" 2 ["value"] SG.spSigns := g_are_signs.cal X G (fun _ _ _ _ _ _ us hl => match us, hl with | [_], _ => rfl) fun f fd F => SG.ok_signs F B Cg Wd
  have gNu : Cal l.prog w K mg base "is_number_below" 1 ["value", "limit"] spNum := g_is_number_below.cal X G (fun _ _ _ _ _ _ us hl => match us, hl with | [_, _], _ => rfl) fun f fd F => SG.ok_num F B
  have gSr : Cal l.prog w K mg base "is_state_row" 2 ["value", "signs", "many"] SG.spSrow := g_is_state_row.cal X G (fun _ _ _ _ _ _ us hl => match us, hl with | [_, _, _], _ => rfl) fun f fd F => SG.ok_srow F B gNu
  have gSa : Cal l.prog w K mg base "are_states" 2 ["value", "many"] SG.spSta := g_are_states.cal X G (fun _ _ _ _ _ _ us hl => match us, hl with | [_, _], _ => rfl) fun f fd F => SG.ok_sta F B gNu
  have gCk : Cal l.prog w K mg base "check_machine" 3 ["signs", "states", "member_states"] SG.spChk := g_check_machine.cal X G (fun _ _ _ _ _ _ us hl => match us, hl with | [_, _, _], _ => rfl) fun f fd F => SG.ok_chk F B Cg gSg gSr gSa
  have gRc : Cal l.prog w K mg base "reached" 1 ["signs", "rows"] SG.spRch := g_reached.cal X G (fun _ _ _ _ _ _ us hl => match us, hl with | [_, _], _ => rfl) fun f fd F => SG.ok_rch F B
  have gRf : Cal l.prog w K mg base "refined" 1 ["signs", "rows", "kinds"] SG.spRef := g_refined.cal X G (fun _ _ _ _ _ _ us hl => match us, hl with | [_, _, _], _ => rfl) fun f fd F => SG.ok_ref F B
  have gLk : Cal l.prog w K mg base "least_kinds" 2 ["signs", "rows", "kinds"] SG.spLek := g_least_kinds.cal X G (fun _ _ _ _ _ _ us hl => match us, hl with | [_, _, _], _ => rfl) fun f fd F => SG.ok_lek F B Cg gRf
  have gLm : Cal l.prog w K mg base "least_machine" 3 ["signs", "rows", "member_states"] SG.spLma := g_least_machine.cal X G (fun _ _ _ _ _ _ us hl => match us, hl with | [_, _, _], _ => rfl) fun f fd F => SG.ok_lma F B gRc gLk
  have gLs : Cal l.prog w K mg base "live_states" 1 ["table", "member_list"] SG.spLst := g_live_states.cal X G (fun _ _ _ _ _ _ us hl => match us, hl with | [_, _], _ => rfl) fun f fd F => SG.ok_lst F B
  obtain ⟨fI, fdI, eI, aI, iI, FI, em⟩ := iC.fun
  have I : RdK l.prog w K mg base C fI fdI eI := rdK_of FI ⟨clC.ma, aI, iI, clC.kc⟩ mC (ok_ini FI B T Pb) em
  obtain ⟨f1, fd1, F1, a1, i1, _⟩ := mC_len.fun
  obtain ⟨f2, fd2, F2, a2, i2, _⟩ := mC_contains.fun
  obtain ⟨f3, fd3, F3, a3, i3, k3⟩ := mC_ends.fun
  obtain ⟨f4, fd4, F4, a4, i4, k4⟩ := mC_eq.fun
  obtain ⟨pS, f5, fd5, F5, P5⟩ := pC_start.fun
  obtain ⟨f6, fd6, F6, a6, i6, _⟩ := mL_init.fun
  obtain ⟨f7, fd7, F7, a7, i7, _⟩ := mL_eq.fun
  obtain ⟨f8, fd8, F8, a8, i8, _⟩ := mD_init.fun
  obtain ⟨f9, fd9, F9, a9, i9, _⟩ := mD_eq.fun
  obtain ⟨pa, fa', fda, FA, PA⟩ := pD_reader.fun
  obtain ⟨pb, fb, fdb, FB, PB⟩ := pD_state.fun
  obtain ⟨pc, fc, fdc, FC, PC⟩ := pD_behind.fun
  obtain ⟨pd, fd', fdd, FD, PD⟩ := pD_language.fun
  have oC := oddC.odd tyC
  have oL := oddL.odd tyL
  have oD := oddD.odd tyD
  have YL : SG.LTy K L := ⟨tyL.cls, tyL.getc, tyL.tak, tyL.mro, if_pos (beq_self_eq_true _), tyL.ne, tyL.sub⟩
  have YD : RTy K D := ⟨tyD.cls, tyD.getc, tyD.tak, tyD.mro⟩
  have YC : RTy K C := ⟨tyC.cls, tyC.getc, tyC.tak, tyC.mro⟩
  have RO : RdO l.prog w K mg base C := ⟨T, ⟨f1, _, ok_rlen F1 B T, a1, i1, F1.binds (fun _ _ _ _ _ _ us hl => match us, hl with | [_], _ => rfl)⟩, ⟨f2, _, ok_rcon F2 B T Nu, a2, i2, F2.binds (fun _ _ _ _ _ _ us hl => match us, hl with | [_, _], _ => rfl)⟩⟩
  have Rs : Cal l.prog w K mg base "require_state" 3 ["reader", "value"] (spRqs C) := g_require_state.cal X G (fun _ _ _ _ _ _ us hl => match us, hl with | [_, _], _ => rfl) fun f fd F => ok_rqs F RO
  have Rz : Cal l.prog w K mg base "require_states" 3 ["reader", "value"] (spRqz C) := g_require_states.cal X G (fun _ _ _ _ _ _ us hl => match us, hl with | [_, _], _ => rfl) fun f fd F => ok_rqz F B RO Sa
  have Rw : Cal l.prog w K mg base "require_word" 2 ["value"] spRqw := g_require_word.cal X G (fun _ _ _ _ _ _ us hl => match us, hl with | [_], _ => rfl) fun f fd F => ok_rqw F Wd
  have Sil : Cal l.prog w K mg base "silent_of" 1 ["reader", "states"] (spSil C) := g_silent_of.cal X G (fun _ _ _ _ _ _ us hl => match us, hl with | [_, _], _ => rfl) fun f fd F => ok_sil F B T
  have Stp : Cal l.prog w K mg base "step_of" 2 ["reader", "states", "thing"] (spStp C) := g_step_of.cal X G (fun _ _ _ _ _ _ us hl => match us, hl with | [_, _, _], _ => rfl) fun f fd F => ok_stp F B T Sil
  have Lst : Cal l.prog w K mg base "last_of" 3 ["reader", "state", "row"] (spLst C) := g_last_of.cal X G (fun _ _ _ _ _ _ us hl => match us, hl with | [_, _, _], _ => rfl) fun f fd F => ok_lst F B Sil Stp
  have Mee : Cal l.prog w K mg base "meets" 1 ["states", "others"] spMee := g_meets.cal X G (fun _ _ _ _ _ _ us hl => match us, hl with | [_, _], _ => rfl) fun f fd F => ok_mee F B
  have Wri : Cal l.prog w K mg base "is_writable" 4 ["door", "text"] (spWri C D) := g_is_writable.cal X G (fun _ _ _ _ _ _ us hl => match us, hl with | [_, _], _ => rfl) fun f fd F => ok_wri F B TD Rw Lst Mee
  have WrW : CalW l.prog w K mg base "is_writable" 4 ["text", "door"] gW2 (spWri C D) := by
    obtain ⟨f, fd, F, m, kp⟩ := g_is_writable.fun X G
    exact ⟨⟨f, fd, _, _, ok_wri F B TD Rw Lst Mee, m, kp, SR.Fun.kb2 F rfl fun _ _ _ _ _ _ _ _ => rfl⟩⟩
  have Er : EqO l.prog w K mg base C 2 psEql (spEql C) f4 fd4 := ⟨⟨ok_eql F4 B T YC oC, a4, i4, F4.binds (fun _ _ _ _ _ _ us hl => match us, hl with | [_, _], _ => rfl)⟩, tyC.ne, tyC.sub⟩
  have El : EqO l.prog w K mg base L 2 ["self", "other"] (SG.spEqA L) f7 fd7 := ⟨⟨FnG.of (SG.ok_eqA F7 B TG YL oL), a7, i7, F7.binds (fun _ _ _ _ _ _ us hl => match us, hl with | [_, _], _ => rfl)⟩, tyL.ne, tyL.sub⟩
  have Ed : EqO l.prog w K mg base D 3 psDEq (spDEq C L D) f9 fd9 := ⟨⟨ok_deq F9 B TD YD oD Er.eq El.eq, a9, i9, F9.binds (fun _ _ _ _ _ _ us hl => match us, hl with | [_, _], _ => rfl)⟩, tyD.ne, tyD.sub⟩
  have M : Dcl l.prog w K mg base C L D := ⟨T, TG, TD, ⟨pS, f5, _, ok_start F5 T, P5, F5.binds (fun _ _ _ _ _ _ us hl => match us, hl with | [_], _ => rfl)⟩, ⟨f3, _, ok_ends F3 T, ⟨a3, i3, k3⟩, F3.binds (fun _ _ _ _ _ _ us hl => match us, hl with | [_], _ => rfl)⟩,
    ⟨f6, _, ⟨clL.ma, a6, i6, clL.kc⟩, SG.ok_init F6 TG gCk gLm gLs, F6.binds (fun _ _ _ _ _ _ us hl => match us, hl with | [_, _, _, _], _ => rfl)⟩,
    ⟨f8, _, _, ⟨clD.ma, a8, i8, clD.kc⟩, ok_din F8 B TD Rs Rz, F8.binds (fun _ _ _ _ _ _ us hl => match us, hl with | [_, _, _, _, _], _ => rfl), kbG F8⟩,
    ⟨pa, fa', _, ok_drd FA TD, PA, FA.binds (fun _ _ _ _ _ _ us hl => match us, hl with | [_], _ => rfl)⟩, ⟨pb, fb, _, ok_dst FB TD, PB, FB.binds (fun _ _ _ _ _ _ us hl => match us, hl with | [_], _ => rfl)⟩, ⟨pc, fc, _, ok_dbe FC TD, PC, FC.binds (fun _ _ _ _ _ _ us hl => match us, hl with | [_], _ => rfl)⟩, ⟨pd, fd', _, ok_dlg FD TD, PD, FD.binds (fun _ _ _ _ _ _ us hl => match us, hl with | [_], _ => rfl)⟩⟩
  have Rn : Cal l.prog w K mg base "_law_rng" 1 ["_law_script", "_law_k"] (spRng K) := g__law_rng.cal X G (fun _ _ _ _ _ _ us hl => match us, hl with | [_, _], _ => rfl) fun f fd F => ok_rng (ok_rng1 F B) rfl
  have Dr : Cal l.prog w K mg base "_law_draw" 1 ["_law_rng_here", "_law_many"] spDraw := g__law_draw.cal X G (fun _ _ _ _ _ _ us hl => match us, hl with | [_, _], _ => rfl) fun f fd F => ok_draw (ok_draw1 F B) rfl
  have Ch : Cal l.prog w K mg base "_law_choice" 2 ["_law_rng_here", "_law_some"] (spChoice K) := g__law_choice.cal X G (fun _ _ _ _ _ _ us hl => match us, hl with | [_, _], _ => rfl) fun f fd F => ok_choice F B Dr
  have Le : Cal l.prog w K mg base "_law_letters" 2 ["_law_rng_here", "_law_many"] spLetters := g__law_letters.cal X G (fun _ _ _ _ _ _ us hl => match us, hl with | [_, _], _ => rfl) fun f fd F => ok_letters F B Dr
  have Ma : Cal l.prog w K mg base "_law_marks" 2 ["_law_rng_here", "_law_many"] spMarks := g__law_marks.cal X G (fun _ _ _ _ _ _ us hl => match us, hl with | [_, _], _ => rfl) fun f fd F => ok_marks F B Dr
  have An : Cal l.prog w K mg base "_law_any_format" 3 ["_law_rng_here", "_law_cap", "_law_paper", "_law_tells", "_law_marks_here"] spAny := g__law_any_format.cal X G (fun _ _ _ _ _ _ us hl => match us, hl with | [_, _, _, _, _], _ => rfl) fun f fd F => ok_any F B Dr Ch
  have Fa : Cal l.prog w K mg base "_law_family" 1 ["_law_way", "_law_paper", "_law_tells", "_law_marks_here"] spFam := g__law_family.cal X G (fun _ _ _ _ _ _ us hl => match us, hl with | [_, _, _, _], _ => rfl) fun f fd F => ok_fam F B
  have Bt : Cal l.prog w K mg base "_law_bent" 3 ["_law_rng_here", "_law_model", "_law_paper", "_law_tells", "_law_marks_here"] spBent := g__law_bent.cal X G (fun _ _ _ _ _ _ us hl => match us, hl with | [_, _, _, _, _], _ => rfl) fun f fd F => ok_bent F B Dr Ch
  have Fo : Cal l.prog w K mg base "_law_format" 4 ["_law_rng_here", "_law_cap", "_law_paper", "_law_tells", "_law_marks_here"] spFmt := g__law_format.cal X G (fun _ _ _ _ _ _ us hl => match us, hl with | [_, _, _, _, _], _ => rfl) fun f fd F => ok_fmt F Dr An Fa Bt
  have lSi : Cal l.prog w K mg base "_law_silent" 1 ["_law_rows", "_law_some"] (spLSi K) := g__law_silent.cal X G (fun _ _ _ _ _ _ us hl => match us, hl with | [_, _], _ => rfl) fun f fd F => ok_lsi F B
  have lSt : Cal l.prog w K mg base "_law_step" 2 ["_law_rows", "_law_some", "_law_thing"] spLSt := g__law_step.cal X G (fun _ _ _ _ _ _ us hl => match us, hl with | [_, _, _], _ => rfl) fun f fd F => ok_lsp F B lSi
  have lLa : Cal l.prog w K mg base "_law_last" 3 ["_law_rows", "_law_spot", "_law_line"] spLLa := g__law_last.cal X G (fun _ _ _ _ _ _ us hl => match us, hl with | [_, _, _], _ => rfl) fun f fd F => ok_lla F B lSi lSt
  have Cs : Cal l.prog w K mg base "_law_class" 2 ["_law_rng_here", "_law_cap", "_law_abc"] SG.spClass := g__law_class.cal X G (fun _ _ _ _ _ _ us hl => match us, hl with | [_, _, _], _ => rfl) fun f fd F => SG.ok_class F B Dr
  have Te : Cal l.prog w K mg base "_law_texts" 1 ["_law_abc", "_law_cap"] spTex := g__law_texts.cal X G (fun _ _ _ _ _ _ us hl => match us, hl with | [_, _], _ => rfl) fun f fd F => ok_tex F B
  have Ru : Cal l.prog w K mg base "_law_run" 1 ["_law_rows", "_law_spot", "_law_path"] spRun := g__law_run.cal X G (fun _ _ _ _ _ _ us hl => match us, hl with | [_, _, _], _ => rfl) fun f fd F => ok_run F B
  have Do : CalG l.prog w K mg base "_law_door_right" 5 ["_law_gate", "_law_rows", "_law_spot", "_law_after", "_law_paths", "_law_notes"] (spDor C D) := g__law_door_right.calG X G (fun _ _ _ _ _ _ us hl => match us, hl with | [_, _, _, _, _, _], _ => rfl) fun f fd F => ok_dor F B Wri WrW lLa Ru
  have Cm : CalG l.prog w K mg base "_law_compared" 5 ["_law_one", "_law_other", "_law_due"] (spCmp C L D) := g__law_compared.calG X G (fun _ _ _ _ _ _ us hl => match us, hl with | [_, _, _], _ => rfl) fun f fd F => ok_cmp F B oD Ed
  have Ds : CalG l.prog w K mg base "_law_doors_right" 9 ["_law_rng_here", "_law_den", "_law_rows", "_law_machines", "_law_paths", "_law_notes"] (spDrs C) := g__law_doors_right.calG X G (fun _ _ _ _ _ _ us hl => match us, hl with | [_, _, _, _, _, _], _ => rfl) fun f fd F => ok_drs (fq := f9) (fdq := fd9) F B I M Er El Dr Ch Cm Do
  have Ri : CalG l.prog w K mg base "_law_right" 10 ["_law_rng_here"] spRgt := g__law_right.calG X G (fun _ _ _ _ _ _ us hl => match us, hl with | [_], _ => rfl) fun f fd F => ok_rgt F B I ⟨Le, Ma, Fo, Ch, Cs, Te, Ds⟩
  exact ok_law FL B Rn Ri
theorem walk {l : PySem.W.OpenLaw} {q : Program} {loose : List Str} {XP : (Str → Option Value) → Heap → Prop} {YP : World → Heap → Prop} {d : DefRec} {K : Params → PySem.W.Frag} (hn : l.most = some 63) (hdf : d.params.defaults = [])
    (hY : ∀ (w : World) (h : Heap), YP w h → (K w.params).In h)
    (F : ∀ (w : World) (mg : Str → Option Value) (fa : Addr) (h : Heap), (K w.params).In h → h.Ns mainGlobals mg → mg d.name = some (.ref fa) →
      ∃ fd : FuncData, (∀ (s : Shared) (u : Value), BindsTo s fd ⟨[u], []⟩ [("_law_script", u)]) ∧ ∀ base : Heap, (K w.params).In base → base.Ns mainGlobals mg → FnG l.prog w (K w.params) mg base 11 fa fd ["_law_script"] (spLaw (K w.params))) :
    PySem.W.WalkO q loose XP YP l.row.toRowW d [] (fun f vs => PySem.call f vs) :=
  SR.walk_ofG (n := 63) (k := 11) (x := "_law_script") (sp := fun w => spLaw (K w.params)) hn (by decide) hdf ⟨rfl, by decide, by decide⟩ hY F fun _ _ a ns hl hS => ⟨a, ns, rfl, hS, hl, fun _ => rfl⟩
end SS

set_option maxRecDepth 100000
open PySem PySem.W PyProof.Rows
set_option maxRecDepth 100000 in
set_option maxHeartbeats 0 in
theorem PySem.Challenge.cw_sealedslots_k32_writable_holds : PySem.Challenge.rw_sealedslots_k32_writable.Holds := by
  w_on; o_law; k_head; (case hw => w_witness2)
  k_fill
  refine SS.walk (l := PySem.Challenge.rw_sealedslots_k32_writable) rfl rfl (fun w h Y => PySem.W.kIn_of Y) ?F
  case F =>
    intro w mg fa h KX G hmg
    refine' SS.all_mk KX G hmg ?aC ?aL ?aD ?clC ?nC_rows ?nC_end_list ?nC_own_start ?tyC ?rdC ?gaC ?mC_len ?mC_contains ?mC_eq ?mC_ends ?pC_start ?vC_MAX_STATES ?clL ?nL_own_signs ?nL_goals ?nL_member_list ?nL_live_list ?tyL ?mL_init ?mL_eq ?clD ?nD_own_reader ?nD_own_state ?nD_own_behind ?nD_own_language ?tyD ?mD_init ?mD_eq ?pD_reader ?pD_state ?pD_behind ?pD_language ?iC ?oddC ?oddL ?oddD ?fr ?g_is_word ?g_is_sign ?g_is_mark ?g_is_name ?g_is_below ?g_are_different ?g_is_move ?g_is_state_dict ?g_told_in ?g_signs_in ?g_reader_problem ?g_require_state ?g_require_states ?g_require_word ?g_silent_of ?g_step_of ?g_last_of ?g_meets ?g_is_writable ?g_are_signs ?g_is_number_below ?g_is_state_row ?g_are_states ?g_check_machine ?g_reached ?g_refined ?g_least_kinds ?g_least_machine ?g_live_states ?g__law_rng ?g__law_draw ?g__law_choice ?g__law_letters ?g__law_marks ?g__law_any_format ?g__law_family ?g__law_bent ?g__law_format ?g__law_silent ?g__law_step ?g__law_last ?g__law_class ?g__law_texts ?g__law_run ?g__law_door_right ?g__law_compared ?g__law_doors_right ?g__law_right ?g_law ?c_LETTERS ?c_LONGEST_NAME ?c_MOST_PAGE_SIGNS ?c_MOST_TEXT_SIGNS ?c_MOST_MARKS ?c_MOST_SIGNS ?c_MOST_GIVEN_STATES ?c_MOST_STATES
    (case aC => k_is)
    (case aL => k_is)
    (case aD => k_is)
    (case clC => (refine' ⟨?_, ?_, ?_, ?_, ?_, ?_⟩ <;> k_is))
    (case nC_rows => k_is)
    (case nC_end_list => k_is)
    (case nC_own_start => k_is)
    (case tyC => (refine' ⟨?_, ?_, ?_, ?_, ?_, ?_, ?_, ?_, ?_, ?_⟩ <;> k_is))
    (case rdC => k_is)
    (case gaC => k_is)
    (case mC_len => (refine' SS.me_mk ?a ?i ?l ?c ?k; (case a => k_is); (case i => k_is); (case l => k_is); (case c => k_is); (case k => k_is)))
    (case mC_contains => (refine' SS.me_mk ?a ?i ?l ?c ?k; (case a => k_is); (case i => k_is); (case l => k_is); (case c => k_is); (case k => k_is)))
    (case mC_eq => (refine' SS.me_mk ?a ?i ?l ?c ?k; (case a => k_is); (case i => k_is); (case l => k_is); (case c => k_is); (case k => k_is)))
    (case mC_ends => (refine' SS.me_mk ?a ?i ?l ?c ?k; (case a => k_is); (case i => k_is); (case l => k_is); (case c => k_is); (case k => k_is)))
    (case pC_start => (refine' SS.pr_mk ?a ?g ?t ?r ?l ?c ?k; (case a => k_is); (case g => k_is); (case t => k_is); (case r => k_is); (case l => k_is); (case c => k_is); (case k => k_is)))
    (case vC_MAX_STATES => (refine' SS.cv_mk ?a ?r; (case a => k_is); (case r => exact ⟨_, rfl⟩)))
    (case clL => (refine' ⟨?_, ?_, ?_, ?_, ?_, ?_⟩ <;> k_is))
    (case nL_own_signs => k_is)
    (case nL_goals => k_is)
    (case nL_member_list => k_is)
    (case nL_live_list => k_is)
    (case tyL => (refine' ⟨?_, ?_, ?_, ?_, ?_, ?_, ?_, ?_, ?_, ?_⟩ <;> k_is))
    (case mL_init => (refine' SS.me_mk ?a ?i ?l ?c ?k; (case a => k_is); (case i => k_is); (case l => k_is); (case c => k_is); (case k => k_is)))
    (case mL_eq => (refine' SS.me_mk ?a ?i ?l ?c ?k; (case a => k_is); (case i => k_is); (case l => k_is); (case c => k_is); (case k => k_is)))
    (case clD => (refine' ⟨?_, ?_, ?_, ?_, ?_, ?_⟩ <;> k_is))
    (case nD_own_reader => k_is)
    (case nD_own_state => k_is)
    (case nD_own_behind => k_is)
    (case nD_own_language => k_is)
    (case tyD => (refine' ⟨?_, ?_, ?_, ?_, ?_, ?_, ?_, ?_, ?_, ?_⟩ <;> k_is))
    (case mD_init => (refine' SS.me_mk ?a ?i ?l ?c ?k; (case a => k_is); (case i => k_is); (case l => k_is); (case c => k_is); (case k => k_is)))
    (case mD_eq => (refine' SS.me_mk ?a ?i ?l ?c ?k; (case a => k_is); (case i => k_is); (case l => k_is); (case c => k_is); (case k => k_is)))
    (case pD_reader => (refine' SS.pr_mk ?a ?g ?t ?r ?l ?c ?k; (case a => k_is); (case g => k_is); (case t => k_is); (case r => k_is); (case l => k_is); (case c => k_is); (case k => k_is)))
    (case pD_state => (refine' SS.pr_mk ?a ?g ?t ?r ?l ?c ?k; (case a => k_is); (case g => k_is); (case t => k_is); (case r => k_is); (case l => k_is); (case c => k_is); (case k => k_is)))
    (case pD_behind => (refine' SS.pr_mk ?a ?g ?t ?r ?l ?c ?k; (case a => k_is); (case g => k_is); (case t => k_is); (case r => k_is); (case l => k_is); (case c => k_is); (case k => k_is)))
    (case pD_language => (refine' SS.pr_mk ?a ?g ?t ?r ?l ?c ?k; (case a => k_is); (case g => k_is); (case t => k_is); (case r => k_is); (case l => k_is); (case c => k_is); (case k => k_is)))
    (case iC => (refine' SS.mdk_mk ?a ?i ?l ?c ?k ?t ?d ?s ?r ?e1 ?e2 ?e3; (case a => k_is); (case i => k_is); (case l => k_is); (case c => k_is); (case k => k_is); (case t => k_is); (case d => rfl); (case s => k_is); (case r => exact ⟨_, rfl⟩); (case e1 => k_is); (case e2 => rfl); (case e3 => rfl)))
    (case oddC => (refine' ⟨?_, ?_, ?_, ?_, ?_, ?_, ?_, ?_, ?_, ?_, ?_, ?_⟩ <;> k_is))
    (case oddL => (refine' ⟨?_, ?_, ?_, ?_, ?_, ?_, ?_, ?_, ?_, ?_, ?_, ?_⟩ <;> k_is))
    (case oddD => (refine' ⟨?_, ?_, ?_, ?_, ?_, ?_, ?_, ?_, ?_, ?_, ?_, ?_⟩ <;> k_is))
    (case fr => (refine' ⟨?_, ?_, ?_, ?_, ?_, ?_, ?_, ?_, ?_, ?_, ?_, ?_, ?_, ?_, ?_, ?_, ?_, ?_, ?_⟩ <;> k_is))
    (case g_is_word => (refine' SS.gf_mk ?a ?l ?c ?k; (case a => k_is); (case l => k_is); (case c => k_is); (case k => k_is)))
    (case g_is_sign => (refine' SS.gf_mk ?a ?l ?c ?k; (case a => k_is); (case l => k_is); (case c => k_is); (case k => k_is)))
    (case g_is_mark => (refine' SS.gf_mk ?a ?l ?c ?k; (case a => k_is); (case l => k_is); (case c => k_is); (case k => k_is)))
    (case g_is_name => (refine' SS.gf_mk ?a ?l ?c ?k; (case a => k_is); (case l => k_is); (case c => k_is); (case k => k_is)))
    (case g_is_below => (refine' SS.gf_mk ?a ?l ?c ?k; (case a => k_is); (case l => k_is); (case c => k_is); (case k => k_is)))
    (case g_are_different => (refine' SS.gf_mk ?a ?l ?c ?k; (case a => k_is); (case l => k_is); (case c => k_is); (case k => k_is)))
    (case g_is_move => (refine' SS.gf_mk ?a ?l ?c ?k; (case a => k_is); (case l => k_is); (case c => k_is); (case k => k_is)))
    (case g_is_state_dict => (refine' SS.gf_mk ?a ?l ?c ?k; (case a => k_is); (case l => k_is); (case c => k_is); (case k => k_is)))
    (case g_told_in => (refine' SS.gf_mk ?a ?l ?c ?k; (case a => k_is); (case l => k_is); (case c => k_is); (case k => k_is)))
    (case g_signs_in => (refine' SS.gf_mk ?a ?l ?c ?k; (case a => k_is); (case l => k_is); (case c => k_is); (case k => k_is)))
    (case g_reader_problem => (refine' SS.gf_mk ?a ?l ?c ?k; (case a => k_is); (case l => k_is); (case c => k_is); (case k => k_is)))
    (case g_require_state => (refine' SS.gf_mk ?a ?l ?c ?k; (case a => k_is); (case l => k_is); (case c => k_is); (case k => k_is)))
    (case g_require_states => (refine' SS.gf_mk ?a ?l ?c ?k; (case a => k_is); (case l => k_is); (case c => k_is); (case k => k_is)))
    (case g_require_word => (refine' SS.gf_mk ?a ?l ?c ?k; (case a => k_is); (case l => k_is); (case c => k_is); (case k => k_is)))
    (case g_silent_of => (refine' SS.gf_mk ?a ?l ?c ?k; (case a => k_is); (case l => k_is); (case c => k_is); (case k => k_is)))
    (case g_step_of => (refine' SS.gf_mk ?a ?l ?c ?k; (case a => k_is); (case l => k_is); (case c => k_is); (case k => k_is)))
    (case g_last_of => (refine' SS.gf_mk ?a ?l ?c ?k; (case a => k_is); (case l => k_is); (case c => k_is); (case k => k_is)))
    (case g_meets => (refine' SS.gf_mk ?a ?l ?c ?k; (case a => k_is); (case l => k_is); (case c => k_is); (case k => k_is)))
    (case g_is_writable => (refine' SS.gf_mk ?a ?l ?c ?k; (case a => k_is); (case l => k_is); (case c => k_is); (case k => k_is)))
    (case g_are_signs => (refine' SS.gf_mk ?a ?l ?c ?k; (case a => k_is); (case l => k_is); (case c => k_is); (case k => k_is)))
    (case g_is_number_below => (refine' SS.gf_mk ?a ?l ?c ?k; (case a => k_is); (case l => k_is); (case c => k_is); (case k => k_is)))
    (case g_is_state_row => (refine' SS.gf_mk ?a ?l ?c ?k; (case a => k_is); (case l => k_is); (case c => k_is); (case k => k_is)))
    (case g_are_states => (refine' SS.gf_mk ?a ?l ?c ?k; (case a => k_is); (case l => k_is); (case c => k_is); (case k => k_is)))
    (case g_check_machine => (refine' SS.gf_mk ?a ?l ?c ?k; (case a => k_is); (case l => k_is); (case c => k_is); (case k => k_is)))
    (case g_reached => (refine' SS.gf_mk ?a ?l ?c ?k; (case a => k_is); (case l => k_is); (case c => k_is); (case k => k_is)))
    (case g_refined => (refine' SS.gf_mk ?a ?l ?c ?k; (case a => k_is); (case l => k_is); (case c => k_is); (case k => k_is)))
    (case g_least_kinds => (refine' SS.gf_mk ?a ?l ?c ?k; (case a => k_is); (case l => k_is); (case c => k_is); (case k => k_is)))
    (case g_least_machine => (refine' SS.gf_mk ?a ?l ?c ?k; (case a => k_is); (case l => k_is); (case c => k_is); (case k => k_is)))
    (case g_live_states => (refine' SS.gf_mk ?a ?l ?c ?k; (case a => k_is); (case l => k_is); (case c => k_is); (case k => k_is)))
    (case g__law_rng => (refine' SS.gf_mk ?a ?l ?c ?k; (case a => k_is); (case l => k_is); (case c => k_is); (case k => k_is)))
    (case g__law_draw => (refine' SS.gf_mk ?a ?l ?c ?k; (case a => k_is); (case l => k_is); (case c => k_is); (case k => k_is)))
    (case g__law_choice => (refine' SS.gf_mk ?a ?l ?c ?k; (case a => k_is); (case l => k_is); (case c => k_is); (case k => k_is)))
    (case g__law_letters => (refine' SS.gf_mk ?a ?l ?c ?k; (case a => k_is); (case l => k_is); (case c => k_is); (case k => k_is)))
    (case g__law_marks => (refine' SS.gf_mk ?a ?l ?c ?k; (case a => k_is); (case l => k_is); (case c => k_is); (case k => k_is)))
    (case g__law_any_format => (refine' SS.gf_mk ?a ?l ?c ?k; (case a => k_is); (case l => k_is); (case c => k_is); (case k => k_is)))
    (case g__law_family => (refine' SS.gf_mk ?a ?l ?c ?k; (case a => k_is); (case l => k_is); (case c => k_is); (case k => k_is)))
    (case g__law_bent => (refine' SS.gf_mk ?a ?l ?c ?k; (case a => k_is); (case l => k_is); (case c => k_is); (case k => k_is)))
    (case g__law_format => (refine' SS.gf_mk ?a ?l ?c ?k; (case a => k_is); (case l => k_is); (case c => k_is); (case k => k_is)))
    (case g__law_silent => (refine' SS.gf_mk ?a ?l ?c ?k; (case a => k_is); (case l => k_is); (case c => k_is); (case k => k_is)))
    (case g__law_step => (refine' SS.gf_mk ?a ?l ?c ?k; (case a => k_is); (case l => k_is); (case c => k_is); (case k => k_is)))
    (case g__law_last => (refine' SS.gf_mk ?a ?l ?c ?k; (case a => k_is); (case l => k_is); (case c => k_is); (case k => k_is)))
    (case g__law_class => (refine' SS.gf_mk ?a ?l ?c ?k; (case a => k_is); (case l => k_is); (case c => k_is); (case k => k_is)))
    (case g__law_texts => (refine' SS.gf_mk ?a ?l ?c ?k; (case a => k_is); (case l => k_is); (case c => k_is); (case k => k_is)))
    (case g__law_run => (refine' SS.gf_mk ?a ?l ?c ?k; (case a => k_is); (case l => k_is); (case c => k_is); (case k => k_is)))
    (case g__law_door_right => (refine' SS.gf_mk ?a ?l ?c ?k; (case a => k_is); (case l => k_is); (case c => k_is); (case k => k_is)))
    (case g__law_compared => (refine' SS.gf_mk ?a ?l ?c ?k; (case a => k_is); (case l => k_is); (case c => k_is); (case k => k_is)))
    (case g__law_doors_right => (refine' SS.gf_mk ?a ?l ?c ?k; (case a => k_is); (case l => k_is); (case c => k_is); (case k => k_is)))
    (case g__law_right => (refine' SS.gf_mk ?a ?l ?c ?k; (case a => k_is); (case l => k_is); (case c => k_is); (case k => k_is)))
    (case g_law => (refine' SS.gf_mk ?a ?l ?c ?k; (case a => k_is); (case l => k_is); (case c => k_is); (case k => k_is)))
    (case c_LETTERS => (refine' SS.cs_mk ?a ?r; (case a => k_is); (case r => exact ⟨_, rfl⟩)))
    (case c_LONGEST_NAME => (refine' SS.cs_mk ?a ?r; (case a => k_is); (case r => exact ⟨_, rfl⟩)))
    (case c_MOST_PAGE_SIGNS => (refine' SS.cs_mk ?a ?r; (case a => k_is); (case r => exact ⟨_, rfl⟩)))
    (case c_MOST_TEXT_SIGNS => (refine' SS.cs_mk ?a ?r; (case a => k_is); (case r => exact ⟨_, rfl⟩)))
    (case c_MOST_MARKS => (refine' SS.cs_mk ?a ?r; (case a => k_is); (case r => exact ⟨_, rfl⟩)))
    (case c_MOST_SIGNS => (refine' SS.cs_mk ?a ?r; (case a => k_is); (case r => exact ⟨_, rfl⟩)))
    (case c_MOST_GIVEN_STATES => (refine' SS.cs_mk ?a ?r; (case a => k_is); (case r => exact ⟨_, rfl⟩)))
    (case c_MOST_STATES => (refine' SS.cs_mk ?a ?r; (case a => k_is); (case r => exact ⟨_, rfl⟩)))

