import PyProof.Rows.All
import Wide.All
import OpenK.AllK
import Wide.FinOn
import HandS.ForMost
import HandS.Wide
import HandS.WideBits
import PyProof.Rows.ListStrD
import HandS.Set
import HandS.SetFor
import HandS.OwnEq
import PyProof.TupleKey
import PyProof.DictMoreH
import HandS.TupLen
import HandS.SetKeys
import HandS.Walk
import KE.GoesEnum
import KE.KDictWalk
import HandS.IsInst
import KE.KDictCopyH
import HandS.Finally
import PyProof.ReprRoads
import HandS.Ends
import HandS.ForExc
import HandS.ExcInit
import HandS.ExcField
import HandS.ExcIs
import KE.KExcInit
import HandS.FStr
import HandS.DeepEq
import HandS.MakeKwOnly
import OpenK.KOps
import PyProof.ReprBulk
import HandS.TryMany
import HandS.ClsMeth
import PySem.Challenge.RW_sealedslots_k14_steps_and_passed
import HandS.Defaults
import HandS.GenList
import KE.GoesComp2
import HandS.More
import HandS.Iter
import HandS.Comp
import HandS.ListItems
import HandS.DictTup
import HandS.SortOrd
import HandS.SortInts
import KE.KItemsList
import PyProof.Rows.SortKeyStr
import HandS.TryOnly
import PyProof.TupleOfSeq
import HandS.MakeKw
import HandS.Property
import HandS.Codes
import KE.GoesZip
import HandS.Conv
import HandS.RaiseMore
import HandS.Lambda
import HandS.Star
import HandS.Head0
import HandS.Head1
import HandS.Head2
import HandS.HeadHook1
import HandS.HeadHook2
import HandS.HeadNt
import HandS.HeadHook4
import HandS.EndTab
set_option Elab.async false
set_option linter.all false
set_option maxRecDepth 100000
set_option maxHeartbeats 4000000
namespace SR
open PySem PySem.Spec PyProof.Rows L2
def lt (c : Nat) : Str := ⟨#[c]⟩
def ltV (c : Nat) : V := .str (lt c)
section
variable {X : Cx}
/-- list(text) -/
theorem call_list_txt (hc : X.calm = true) : CallR X (.type "list") (fun xs H Q => ∃ z : Str, xs = [.str z] ∧ z.length ≤ sizeLine ∧ ∀ l, H l = none → Q (.ref l) (upd H l (.lst (z.cps.toList.map ltV)))) := by
  intro pins s σ H xs us Q I r h
  obtain ⟨z, rfl, hz, q⟩ := h
  obtain ⟨u, rfl, rx⟩ := vals1 r
  obtain ⟨t, rfl⟩ := rx
  refine call_list_str (I.ok.hd hc) z t (hn := hz) fun h' tk acc' c' hk hS' hacc => ?_
  have hv : Vals (z.cps.toList.map ltV) acc'.toList := by
    have h1 : acc'.size = z.cps.size := by simpa using hacc.1
    have key : ∀ (l : List Nat) (ys : List Value), ys.length = l.length → (∀ (j : Nat) v, ys[j]? = some v → ∃ c, l[j]? = some c ∧ ∃ u, v = Value.str (lt c) u) → Vals (l.map ltV) ys := by
      intro l
      induction l with
      | nil =>
        intro ys hl _
        have : ys = [] := List.length_eq_zero_iff.mp hl
        subst this
        exact .nil
      | cons c l ih =>
        intro ys hl hy
        cases ys with
        | nil => simp at hl
        | cons y ys =>
          obtain ⟨c', e, u, hu⟩ := hy 0 y rfl
          have e' : c = c' := by simpa using e
          subst e'
          refine .cons ⟨u, hu⟩ (ih ys (by simpa using hl) fun j v hv => hy (j + 1) v (by simpa using hv))
    refine key _ _ (by simp [h1]) fun j v hv => ?_
    obtain ⟨c, u, hc', e⟩ := hacc.2 j v (by simpa using hv)
    exact ⟨c, by simpa using hc', u, e⟩
  refine ⟨.ref s.heap.objs.size, _, I.laid (t' := tk) hk (Nat.le_refl _) (show ObjOk X.prog X.w _ h' _ (.lst (z.cps.toList.map ltV)) from ⟨by simpa [Str.length] using hz, acc'.toList, c', hv, by simpa using hS'⟩), rfl, q _ (I.hok.fresh (Nat.le_refl _))⟩
end
end SR

set_option maxRecDepth 100000
set_option maxHeartbeats 4000000
namespace SR
open PySem PySem.Spec PyProof.Rows L2
/-! Sets of ints and texts whose table can be walked: made of a list, a tuple or a text; len, sorted. -/
def kOf (v : Value) : Key := match v with
  | .int i _ => .inl i
  | .str x _ => .inr x
  | _ => .inl 0
theorem kOf_of {k : Key} {v : Value} (h : keyIs k v = true) : kOf v = k := by
  rcases keyIs_shape h with ⟨i, t, rfl, rfl⟩ | ⟨x, t, rfl, rfl⟩ <;> rfl
def GoodM (w : World) (e : Int × Value) : Prop := keyIs (kOf e.2) e.2 = true ∧ e.1 = keyH w (kOf e.2)
structure MData (w : World) (es : Array (Int × Value)) (t : SetTable) (l : List Key) : Prop where
  good : ∀ e ∈ es.toList, GoodM w e
  keys : es.toList.map (fun e => kOf e.2) = l
  nd : l.Nodup
  few : es.size < scanBound
  fit : t.fits es.size = true
  ris : Ris t.place.toList
  led : w.params.followText "set-order" = true ∨ t.led = true
def SetM (w : World) (h : Heap) (a : Addr) (l : List Key) : Prop := ∃ o es ep t, h.get? a = some o ∧ o.ExactSet ∧ o.data = .set es ep t ∧ MData w es t l
theorem SetM.at {w : World} {h h' : Heap} {a : Addr} {l : List Key} (R : SetM w h a l) (k : ∀ o, h.get? a = some o → h'.get? a = some o) : SetM w h' a l := by
  obtain ⟨o, es, ep, t, e, r⟩ := R
  exact ⟨o, es, ep, t, k o e, r⟩
section
variable {P : Program} {w : World} {A : Around} {E : Value → Shared → Prop} {s : Shared}
theorem MData.elems {es : Array (Int × Value)} {t : SetTable} {l : List Key} (M : MData w es t l) : ElemsOf (mixKind P w) es.toList := fun e he => by
  obtain ⟨g1, g2⟩ := M.good e he
  refine ⟨⟨kOf e.2, g1, g2⟩, ?_⟩
  rcases keyIs_shape g1 with ⟨i, tk, _, q⟩ | ⟨x, tk, _, q⟩ <;> rw [q] <;> rfl
theorem MData.size {es : Array (Int × Value)} {t : SetTable} {l : List Key} (M : MData w es t l) : es.size = l.length := by
  rw [← M.keys, List.length_map, Array.length_toList]
/-- the tail of an add: the table stored, and laid anew where it is too full -/
theorem addTail {a : Addr} {l : List Key} {o : Obj} {es : Array (Int × Value)} {ep : Nat} {t : SetTable} (ho : s.heap.get? a = some o) (hex : o.ExactSet) (hd : o.data = .set es ep t)
    {es1 : Array (Int × Value)} {t2 : SetTable} (M : MData w es1 t2 l) {wasDummy : Bool} {g : Bool → Sem Unit} (hg : ∀ (b : Bool) (s₁ : Shared) (Q' : Unit → Shared → Prop), Q' () s₁ → wpAny (model P w) A (g b) Q' E s₁) {R : Option Bool → Shared → Prop}
    (hR : ∀ h' l', Heap.SameBut a s.heap h' → SetM w h' a l' → l'.Perm l → R (some true) { s with heap := h' }) :
    wpAny (model P w) A (do
        storeSet a es1 t2
        if (!wasDummy && t2.tooFull) = true then do
            g (relayAll t2 es1 (SetTable.grown es1.size)).2.2
            storeSet a (relayAll t2 es1 (SetTable.grown es1.size)).1 (relayAll t2 es1 (SetTable.grown es1.size)).2.1
            pure (some true)
          else pure (some true)) R E s := by
  have ho1 := store_at (es' := es1) (t' := t2) ho hd
  have sb1 := Heap.SameBut.update s.heap a (Obj.putSet es1 t2)
  refine wpAny_bind (wpAny_storeSet_of ho hd ?_ (fits_of_scanBound M.few))
  by_cases c : (!wasDummy && t2.tooFull) = true
  · rw [if_pos c]
    obtain ⟨es2, t3, gave, hZ⟩ : ∃ es2 t3 gave, relayAll t2 es1 (SetTable.grown es1.size) = (es2, t3, gave) := ⟨_, _, _, rfl⟩
    have pm := relayAll_perm t2 es1 (SetTable.grown es1.size)
    have f3 := relayAll_fits t2 es1 (SetTable.grown es1.size)
    have r3 := relayAll_ris t2 es1 (SetTable.grown es1.size)
    have l3 := relayAll_led t2 es1 (SetTable.grown es1.size)
    rw [hZ] at pm f3 r3 l3 ⊢
    have pm' : es2.toList.Perm es1.toList := pm
    have hsz : es2.size = es1.size := by simpa using pm'.length_eq
    have few2 : es2.size < scanBound := hsz ▸ M.few
    refine wpAny_bind (hg gave _ _ ?_)
    refine wpAny_bind (wpAny_storeSet_of ho1 rfl ?_ (fits_of_scanBound few2))
    have pk : (es2.toList.map (fun e => kOf e.2)).Perm l := (pm'.map _).trans (List.Perm.of_eq M.keys)
    refine wpAny_pure (hR _ _ (sb1.trans (Heap.SameBut.update _ a _)) ⟨_, es2, _, t3, store_at (es' := es2) (t' := t3) ho1 rfl, hex, rfl, ⟨fun e he => M.good e (pm'.mem_iff.mp he), rfl, pk.nodup_iff.mpr M.nd, few2, f3, r3, M.led.imp id fun z => l3.trans z⟩⟩ pk)
  · rw [if_neg c]
    exact wpAny_pure (hR _ l sb1 ⟨_, es1, _, t2, ho1, hex, rfl, M⟩ (List.Perm.refl _))
theorem add_key {a : Addr} {l : List Key} {k : Key} {v : Value} {Q : Bool → Shared → Prop} (R : SetM w s.heap a l) (room : l.length + 1 < scanBound) (hk : keyIs k v = true)
    (hQ : ∀ b h' l', Heap.SameBut a s.heap h' → SetM w h' a l' → (k ∈ l → l' = l) → (k ∉ l → l'.Perm (k :: l)) → Q b { s with heap := h' }) :
    wpAny (model P w) A (setAddHashed a v (keyH w k)) Q E s := by
  obtain ⟨o, es, ep, t, ho, hex, hd, M⟩ := R
  have hkey : (mixKind P w).is k v = true := hk
  have hsc : v.scannable = true := by rcases keyIs_shape hk with ⟨i, tk, _, q⟩ | ⟨x, tk, _, q⟩ <;> rw [q] <;> rfl
  have hel : ElemsOf (mixKind P w) es.toList := M.elems
  have hmem : k ∈ l ↔ ∃ e ∈ es.toList, (mixKind P w).is k e.2 = true := by
    rw [← M.keys, List.mem_map]
    constructor
    · rintro ⟨e, he, q⟩
      exact ⟨e, he, by rw [← q]; exact (M.good e he).1⟩
    · rintro ⟨e, he, q⟩
      exact ⟨e, he, kOf_of q⟩
  unfold setAddHashed setAddHashedIn
  refine wpAny_holding (wpAny_bind (wpAny_setState_of ho hd M.fit ?_))
  dsimp only
  rw [byScan_of hsc M.few hel, if_pos rfl]
  unfold setAddByScan
  refine wpAny_bind (wpAny_bind (wpAny_rule (wpAny_bind (wpAny_setScan_of hkey ho hd M.fit hel ?_))))
  cases hfi : List.findIdx? (fun e => (mixKind P w).is k e.2) es.toList with
  | some j =>
    obtain ⟨hj, pj, _⟩ := List.findIdx?_eq_some_iff_getElem.mp hfi
    have hin : k ∈ l := hmem.mpr ⟨_, List.getElem_mem hj, pj⟩
    exact wpAny_pure (wpAny_pure (hQ false s.heap l (Heap.SameBut.refl a s.heap) ⟨o, es, ep, t, ho, hex, hd, M⟩ (fun _ => rfl) fun z => absurd hin z))
  | none =>
    have hout : k ∉ l := fun z => by
      obtain ⟨e, he, q⟩ := hmem.mp z
      exact Bool.noConfusion ((List.findIdx?_eq_none_iff.mp hfi e he).symm.trans q)
    obtain ⟨es1, t1, wasDummy, gave, hZ⟩ : ∃ es1 t1 wd gv, layNew t es (keyH w k) v = (es1, t1, wd, gv) := ⟨_, _, _, _, rfl⟩
    have pm := layNew_perm t es (keyH w k) v
    have f1 := layNew_fits t es (keyH w k) v
    have r1 := layNew_ris t es (keyH w k) v M.ris
    have l1 := layNew_led t es (keyH w k) v
    dsimp only
    rw [hZ] at pm f1 r1 l1 ⊢
    have pm' : es1.toList.Perm (es.push (keyH w k, v)).toList := pm
    rw [Array.toList_push] at pm'
    have pc : es1.toList.Perm ((keyH w k, v) :: es.toList) := pm'.trans (List.perm_append_singleton _ _)
    have pk : (es1.toList.map (fun e => kOf e.2)).Perm (k :: l) := by
      refine (pc.map (fun e => kOf e.2)).trans (List.Perm.of_eq ?_)
      rw [List.map_cons, M.keys, kOf_of hk]
    have hsz : es1.size = l.length + 1 := by
      have q := pk.length_eq
      rwa [List.length_map, Array.length_toList, List.length_cons] at q
    have mk : ∀ t2 : SetTable, t2.fits es1.size = true → t2.place = t1.place → t2.led = t1.led → MData w es1 t2 (es1.toList.map (fun e => kOf e.2)) := fun t2 hf hp hl =>
      ⟨fun e he => by
        rcases List.mem_cons.mp (pc.mem_iff.mp he) with z | z
        · rw [z]; exact ⟨by show keyIs (kOf v) v = true; rw [kOf_of hk]; exact hk, by show keyH w k = keyH w (kOf v); rw [kOf_of hk]⟩
        · exact M.good e z, rfl, pk.nodup_iff.mpr (List.nodup_cons.mpr ⟨hout, M.nd⟩), hsz ▸ room, hf, by rw [hp]; exact r1, by rw [hl]; exact M.led.imp id fun z => l1.trans z⟩
    have hg : ∀ (b : Bool) (s₁ : Shared) (Q' : Unit → Shared → Prop), Q' () s₁ → wpAny (model P w) A (match b with | true => rule "set.scan.the-table-gave-way" | false => pure ()) Q' E s₁ := fun b s₁ Q' q => by
      cases b
      · exact wpAny_pure q
      · exact wpAny_rule q
    have fin : ∀ h' l', Heap.SameBut a s.heap h' → SetM w h' a l' → l'.Perm (es1.toList.map (fun e => kOf e.2)) → Q true { s with heap := h' } := fun h' l' sb r p =>
      hQ true h' l' sb r (fun z => absurd z hout) fun _ => p.trans pk
    refine wpAny_bind (hg gave _ _ ?_)
    by_cases pl : t1.plain = true
    · simp only [pl, if_true]
      refine wpAny_bind ?_
      rw [hashByValue_scannable 8 hsc]
      refine wpAny_pure ?_
      refine addTail ho hex hd (mk _ ?_ ?_ ?_) ?_ fun h' l' sb r p => wpAny_pure (fin h' l' sb r p)
      · first | (split <;> first | exact f1 | exact SetTable.fits_plain_off f1) | exact f1 | exact SetTable.fits_plain_off f1
      · first | rfl | (split <;> rfl)
      · first | rfl | (split <;> rfl)
      · intro b s₁ Q' q
        cases b
        · exact wpAny_pure q
        · exact wpAny_rule q
    · simp only [pl, if_false]
      refine wpAny_bind (wpAny_pure ?_)
      refine addTail ho hex hd (mk _ ?_ ?_ ?_) ?_ fun h' l' sb r p => wpAny_pure (fin h' l' sb r p)
      · first | (split <;> first | exact f1 | exact SetTable.fits_plain_off f1) | exact f1 | exact SetTable.fits_plain_off f1
      · first | rfl | (split <;> rfl)
      · first | rfl | (split <;> rfl)
      · intro b s₁ Q' q
        cases b
        · exact wpAny_pure q
        · exact wpAny_rule q

structure GotM (ks : List Key) (i : Nat) (l : List Key) : Prop where
  mem : ∀ k, k ∈ l ↔ k ∈ ks.take i
  len : l.length ≤ i
theorem GotM.next {ks l l' : List Key} {i : Nat} {k : Key} (g : GotM ks i l) (hk : ks[i]? = some k) (h1 : k ∈ l → l' = l) (h2 : k ∉ l → l'.Perm (k :: l)) : GotM ks (i + 1) l' := by
  have e : ks.take (i + 1) = ks.take i ++ [k] := by rw [List.take_add_one, hk]; rfl
  by_cases c : k ∈ l
  · rw [h1 c]
    refine ⟨fun x => ?_, Nat.le_succ_of_le g.len⟩
    rw [e, List.mem_append, List.mem_singleton, ← g.mem x]
    exact ⟨.inl, fun z => z.elim id fun z => z ▸ c⟩
  · have p := h2 c
    refine ⟨fun x => ?_, ?_⟩
    · rw [p.mem_iff, List.mem_cons, e, List.mem_append, List.mem_singleton, g.mem x]
      exact Or.comm
    · rw [p.length_eq]
      exact Nat.succ_le_succ g.len
theorem upd_loop {I : Addr} {fp wr : List Addr} {G : Array GenState → Array GenState → Prop} {n : Nat} {Pv : Nat → Value → Prop} {St : Nat → Shared → Prop} {R : Result → Shared → Prop}
    (W : WalksS P w A.in1 I fp wr G n Pv St) (S : Addr) (hSf : S ∉ fp) (ks : List Key) (hn : n = ks.length) (hb : ks.length + 1 < scanBound) (hval : ∀ i v, Pv i v → ∃ k, ks[i]? = some k ∧ keyIs k v = true) :
    ∀ (d i : Nat) (s : Shared), n - i = d → i ≤ n → St i s → (∃ l, SetM w s.heap S l ∧ GotM ks i l) →
      (∀ s' l, Moved (S :: wr) G s s' → SetM w s'.heap S l → GotM ks n l → R (.ok (.ret .none)) s') → codeAny (model P w) A (.builtin "set.update.loop" ⟨[.ref S, .ref I], []⟩) R s := by
  have nw : S ∉ wr := fun h => hSf (W.sub _ h)
  have sub : ∀ b ∈ wr, b ∈ S :: wr := fun b hb => List.mem_cons_of_mem _ hb
  have start : ∀ (s : Shared), wpAny (model P w) A.in1 (do
      let some v ← pyNext (.ref I) | ret .none
      let _ ← holding [v] (setAdd S v)
      again (.builtin "set.update.loop" ⟨[.ref S, .ref I], []⟩)) (fun fin s' => match fin with | .done f => R (.ok f) s' | .again c' => c'.quiet = true ∧ codeAny (model P w) A c' R s') (fun e s' => R (.error e) s') s → codeAny (model P w) A (.builtin "set.update.loop" ⟨[.ref S, .ref I], []⟩) R s := fun s h => by
    refine codeAny_builtin F.entry_set_update_loop ?_
    rw [Around.under_plainId F.plain_set_update_loop _]
    exact h
  intro d
  induction d with
  | zero =>
    intro i s hd hi hst ⟨l, hS, g⟩ hR
    obtain rfl : i = n := by omega
    refine start s (wpAny_bind (W.done s _ _ hst fun s' hm => ?_))
    exact wpAny_pure (hR s' l (hm.mono sub) (hS.at fun o e => hm.heap S o nw e) g)
  | succ d ih =>
    intro i s hd hi hst ⟨l, hS, g⟩ hR
    have hlt : i < n := by omega
    refine start s (wpAny_bind (W.item i s _ _ hlt hst fun v s' hP hst' hm => ?_))
    obtain ⟨k, hk, hkv⟩ := hval i v hP
    have hS' : SetM w s'.heap S l := hS.at fun o e => hm.heap S o nw e
    refine wpAny_bind (wpAny_holding ?_)
    unfold setAdd
    refine wpAny_holding (wpAny_bind ((mixKind P w).pyHash (k := k) hkv ?_))
    refine add_key (s := { s' with toks := s'.toks + 1 }) hS' (by have := g.len; omega) hkv fun b h' l' sb hS2 c1 c2 => ?_
    refine wpAny_pure ⟨plainId_quiet F.plain_set_update_loop _, ih (i + 1) _ (by omega) hlt (W.frame _ s' _ _ hst' (Nat.le_succ _) fun b hb o e => ?_) ⟨l', hS2, g.next hk c1 c2⟩ fun s'' l2 hm'' hS'' g'' => ?_⟩
    · exact (sb.2 b fun h => hSf (h ▸ hb)).trans e
    · refine hR s'' l2 (Moved.trans W.gtrans ((hm.mono sub).then_heap (Nat.le_succ _) fun b o hb e => ?_) hm'') hS'' g''
      exact (sb.2 b fun h => hb (h ▸ List.mem_cons_self)).trans e
end
end SR

set_option maxRecDepth 100000
set_option maxHeartbeats 4000000
namespace SR
open PySem PySem.Spec PyProof.Rows L2
abbrev newSet (w : World) : Obj := { cls := .type "set", dict := none, data := .set #[] 0 (.fresh 0 0 (!w.params.followText "set-order")) }
section
variable {P : Program} {w : World} {A : Around} {E : Value → Shared → Prop} {s : Shared}
/-- what is wanted behind set.__init__ -/
abbrev InitEnd (P : Program) (w : World) (A : Around) (E : Value → Shared → Prop) (q : Shared → Prop) (fin : Fin) (s' : Shared) : Prop := match fin with
  | .done f => wants (fun r s₂ => r = Value.none ∧ q s₂) E (.ok f) s'
  | .again c' => c'.quiet = true ∧ codeAny (model P w) A c' (wants (fun r s₂ => r = Value.none ∧ q s₂) E) s'
theorem set_shell (a : Value) {Q : Value → Shared → Prop}
    (h : wpAny (model P w) A.in1.in1 (Builtin.«set.__init__» ⟨[.ref s.heap.objs.size, a], []⟩) (InitEnd P w A.in1 E (Q (.ref s.heap.objs.size))) (fun e s' => wants (fun r s₂ => r = Value.none ∧ Q (.ref s.heap.objs.size) s₂) E (.error e) s') { s with heap := s.heap.push (newSet w) }) :
    wpAny (model P w) A (call (.type "set") [a]) Q E s := by
  obtain ⟨c, tl, hmro⟩ := F.called_set.mro
  have hmade := F.called_set.made
  have hsub := F.called_set.sub
  refine wpAny_call (codeAny_of_tree ?_)
  show wpAny _ _ (callAny (.type "set") _) _ _ _
  refine wpAny_pure ⟨Code.quiet_builtin _ (by decide +kernel), codeAny_builtin F.entry_type_call ?_⟩
  rw [Around.under_plain (weight_type_call_type "set" [a] []) rfl]
  have h1 := F.called_set.notType
  have h2 := F.called_set.canCreate
  have hct := F.typeCall_set_1 a
  repeat (any_goals (first | assumption | wp_step))
  refine codeAny_mono (code_set_led1 a (E := E) (Q₁ := fun obj s₁ => obj = .ref s.heap.objs.size ∧ s₁ = { s with heap := s.heap.push (newSet w) }) ⟨rfl, rfl⟩) fun r s₁ hr => ?_
  cases r with
  | error e => exact hr
  | ok fl =>
    cases fl with
    | ret obj =>
      obtain ⟨rfl, rfl⟩ := hr
      have hS : (s.heap.push (newSet w)).get? s.heap.objs.size = some (newSet w) := Heap.get?_push_size _ rfl
      have hT : Shared.TypeIs { s with heap := s.heap.push (newSet w) } (.ref s.heap.objs.size) "set" := ⟨_, hS, rfl⟩
      have hli := F.called_set.init.lookup
      have hbi := F.called_set.init.bind (.ref s.heap.objs.size)
      repeat (any_goals (first | assumption | wp_step))
      refine codeAny_mono (codeAny_call_builtin (R := wants (fun r s₂ => r = .none ∧ Q (.ref s.heap.objs.size) s₂) E) F.called_set.init.plain F.entry_set_init (check_set_init_1 hT h)) fun r₂ s₂ hr₂ => ?_
      cases r₂ with
      | error e => exact hr₂
      | ok f2 =>
        cases f2 with
        | ret r =>
          obtain ⟨rfl, hq⟩ := hr₂
          repeat (any_goals (first | assumption | wp_step))
        | _ => exact hr₂.elim
    | _ => exact hr.elim
theorem newSetM {h : Heap} {a : Addr} (ho : h.get? a = some (newSet w)) : SetM w h a [] :=
  ⟨_, _, _, _, ho, ⟨rfl, rfl, rfl⟩, rfl, ⟨fun e he => (by cases he), rfl, List.nodup_nil, (by unfold scanBound; decide), rfl, List.Pairwise.nil, by
    cases w.params.followText "set-order"
    · exact .inr rfl
    · exact .inl rfl⟩⟩
/-- the walk into the new set, and what stands behind it -/
theorem set_walk {I : Addr} {fp : List Addr} {Pv : Nat → Value → Prop} {St : Nat → Shared → Prop} {G : Array GenState → Array GenState → Prop} {n : Nat} {h1 : Heap} {Q : Value → Shared → Prop} (ks : List Key) (hI : s.heap.objs.size < I) (hSf : s.heap.objs.size ∉ fp)
    (W : WalksS P w A.in1.in1.in1 I fp [I] G n Pv St) (hn : n = ks.length) (hb : ks.length + 1 < scanBound) (hval : ∀ i v, Pv i v → ∃ k, ks[i]? = some k ∧ keyIs k v = true) (hG : ∀ g g', G g g' → g' = g)
    (hk : ∀ b o, (s.heap.push (newSet w)).get? b = some o → h1.get? b = some o) (hst : St 0 { s with heap := h1 })
    (hQ : ∀ (h' : Heap) (tk : Nat) (l : List Key), SetM w h' s.heap.objs.size l → (∀ k, k ∈ l ↔ k ∈ ks) → l.length ≤ ks.length → (∀ b o, s.heap.get? b = some o → h'.get? b = some o) → Q (.ref s.heap.objs.size) { s with heap := h', toks := tk }) :
    codeAny (model P w) A.in1.in1 (.builtin "set.update.loop" ⟨[.ref s.heap.objs.size, .ref I], []⟩) (fun r s' => match r with | .ok (.ret v) => v = Value.none ∧ Q (.ref s.heap.objs.size) s' | .ok _ => False | .error _ => False) { s with heap := h1 } := by
  refine upd_loop W s.heap.objs.size hSf ks hn hb hval n 0 _ rfl (Nat.zero_le _) hst ⟨[], newSetM (hk _ _ (Heap.get?_push_size _ rfl)), ⟨fun k => by simp, Nat.le_refl _⟩⟩ fun s' l hm hS g => ⟨rfl, ?_⟩
  obtain ⟨h', g2, d', tk', os'⟩ := s'
  have eg : g2 = s.gens := hG _ _ hm.gens
  have ed : d' = s.drawn := hm.drawn
  have eo : os' = s.os := hm.os
  subst eg ed eo
  refine hQ h' tk' l hS (fun k => by rw [g.mem k, hn, List.take_length]) (by rw [← hn]; exact g.len) fun b o e => hm.heap b o ?_ (hk b o (Heap.get?_push_of_some _ e))
  have := Heap.lt_size e
  simp only [List.mem_cons, List.not_mem_nil, or_false, not_or]
  exact ⟨Nat.ne_of_lt this, Nat.ne_of_lt (Nat.lt_trans this hI)⟩

theorem keys_at : ∀ {ks : List Key} {us : List Value}, Vals (ks.map kV) us → ∀ (i : Nat) (v : Value), us[i]? = some v → ∃ k, ks[i]? = some k ∧ keyIs k v = true
  | [], _, .nil, i, v, h => by simp at h
  | k :: ks, _, .cons r t, 0, v, h => by
    have e : _ = v := Option.some.inj h
    subst e
    refine ⟨k, rfl, ?_⟩
    cases k with
    | inl i => obtain ⟨tk, rfl⟩ := r; exact keyIs_int i tk
    | inr x => obtain ⟨tk, rfl⟩ := r; exact keyIs_str x tk
  | k :: ks, _, .cons r t, i + 1, v, h => by
    obtain ⟨k', e, q⟩ := keys_at t i v (by simpa using h)
    exact ⟨k', by simpa using e, q⟩

theorem call_set_L {l : Addr} {items : Array Value} (ks : List Key) {Q : Value → Shared → Prop} (hh : A.handled = none) (hl : s.heap.IsList l items) (hit : Vals (ks.map kV) items.toList) (hb : ks.length + 1 < scanBound)
    (hQ : ∀ (h' : Heap) (tk : Nat) (l : List Key), SetM w h' s.heap.objs.size l → (∀ k, k ∈ l ↔ k ∈ ks) → l.length ≤ ks.length → (∀ b o, s.heap.get? b = some o → h'.get? b = some o) → Q (.ref s.heap.objs.size) { s with heap := h', toks := tk }) :
    wpAny (model P w) A (call (.type "set") [.ref l]) Q E s := by
  refine set_shell _ ?_
  obtain ⟨ol, hol, hcl, nl, hdl⟩ := hl
  obtain ⟨ocls, odict, odata, oslots⟩ := ol
  simp only at hcl hdl
  subst hcl; subst hdl
  have hol' : (s.heap.push (newSet w)).get? l = some { cls := .type "list", dict := odict, data := .seq items nl, slots := oslots } := Heap.get?_push_of_some _ hol
  have hl1 : (s.heap.push (newSet w)).IsList l items := ⟨_, hol', rfl, nl, rfl⟩
  have f1 := F.sub_list_set
  have f2 := F.sub_list_frozenset
  have f3 : (Value.type "list" == Value.type "dict") = false := by decide
  unfold Builtin.«set.__init__» noKeywords Builtin.Frozenset.updateFrom
  generalize hPI : pyIter = PI
  wp_walk
  subst hPI
  refine wpAny_pyIter_list hl1 ?_
  refine wpAny_bind (wpAny_runValue ?_)
  have hlS : l < s.heap.objs.size := Heap.lt_size hol
  have hz1 : (s.heap.push (newSet w)).objs.size = s.heap.objs.size + 1 := Heap.size_push ..
  have hneI : l ≠ (s.heap.push (newSet w)).objs.size := by rw [hz1]; exact Nat.ne_of_lt (Nat.lt_succ_of_lt hlS)
  refine codeAny_mono (set_walk (s := s) ks (by rw [hz1]; exact Nat.lt_succ_self _) ?_ ((Walks.list (by simp [hh]) _ l hneI items).toS) (by simpa using hit.length.symm) hb ?_ ?_ (fun b o e => Heap.get?_push_of_some _ e) ⟨⟨_, Heap.get?_push_size _ rfl, rfl, rfl⟩, (hl1.push _)⟩ hQ) fun r s' hr => ?_
  · rw [hz1]
    simp only [List.mem_cons, List.not_mem_nil, or_false, not_or]
    exact ⟨Nat.ne_of_lt (Nat.lt_succ_self _), Nat.ne_of_gt hlS⟩
  · intro i v hv
    exact keys_at hit i v (by simpa using hv)
  · first | exact fun _ _ e => e | exact fun _ _ e => e.symm
  · cases r with
    | error e => exact hr.elim
    | ok fl =>
      cases fl with
      | ret v =>
        obtain ⟨rfl, hq⟩ := hr
        refine wpAny_pure ?_
        exact wpAny_pure ⟨rfl, hq⟩
      | _ => exact hr.elim

theorem call_set_T {l : Addr} {items : Array Value} (ks : List Key) {Q : Value → Shared → Prop} (hh : A.handled = none) (hl : s.heap.IsTuple l items) (hit : Vals (ks.map kV) items.toList) (hb : ks.length + 1 < scanBound)
    (hQ : ∀ (h' : Heap) (tk : Nat) (l : List Key), SetM w h' s.heap.objs.size l → (∀ k, k ∈ l ↔ k ∈ ks) → l.length ≤ ks.length → (∀ b o, s.heap.get? b = some o → h'.get? b = some o) → Q (.ref s.heap.objs.size) { s with heap := h', toks := tk }) :
    wpAny (model P w) A (call (.type "set") [.ref l]) Q E s := by
  refine set_shell _ ?_
  obtain ⟨ol, hol, hcl, nl, hdl⟩ := hl
  obtain ⟨ocls, odict, odata, oslots⟩ := ol
  simp only at hcl hdl
  subst hcl; subst hdl
  have hol' : (s.heap.push (newSet w)).get? l = some { cls := .type "tuple", dict := odict, data := .seq items nl, slots := oslots } := Heap.get?_push_of_some _ hol
  have hl1 : (s.heap.push (newSet w)).IsTuple l items := ⟨_, hol', rfl, nl, rfl⟩
  have f1 := F.sub_tuple_set
  have f2 := F.sub_tuple_frozenset
  have f3 : (Value.type "tuple" == Value.type "dict") = false := by decide
  unfold Builtin.«set.__init__» noKeywords Builtin.Frozenset.updateFrom
  generalize hPI : pyIter = PI
  wp_walk
  subst hPI
  refine wpAny_pyIter_tuple hl1 ?_
  refine wpAny_bind (wpAny_runValue ?_)
  have hlS : l < s.heap.objs.size := Heap.lt_size hol
  have hz1 : (s.heap.push (newSet w)).objs.size = s.heap.objs.size + 1 := Heap.size_push ..
  have hneI : l ≠ (s.heap.push (newSet w)).objs.size := by rw [hz1]; exact Nat.ne_of_lt (Nat.lt_succ_of_lt hlS)
  refine codeAny_mono (set_walk (s := s) ks (by rw [hz1]; exact Nat.lt_succ_self _) ?_ ((Walks.tuple (by simp [hh]) _ l hneI items).toS) (by simpa using hit.length.symm) hb ?_ ?_ (fun b o e => Heap.get?_push_of_some _ e) ⟨⟨_, Heap.get?_push_size _ rfl, rfl, rfl⟩, (hl1.push _)⟩ hQ) fun r s' hr => ?_
  · rw [hz1]
    simp only [List.mem_cons, List.not_mem_nil, or_false, not_or]
    exact ⟨Nat.ne_of_lt (Nat.lt_succ_self _), Nat.ne_of_gt hlS⟩
  · intro i v hv
    exact keys_at hit i v (by simpa using hv)
  · first | exact fun _ _ e => e | exact fun _ _ e => e.symm
  · cases r with
    | error e => exact hr.elim
    | ok fl =>
      cases fl with
      | ret v =>
        obtain ⟨rfl, hq⟩ := hr
        refine wpAny_pure ?_
        exact wpAny_pure ⟨rfl, hq⟩
      | _ => exact hr.elim
end
end SR

set_option maxRecDepth 100000
set_option maxHeartbeats 4000000
namespace SR
open PySem PySem.Spec PyProof.Rows L2
section
variable {P : Program} {w : World} {A : Around} {E : Value → Shared → Prop} {s : Shared}
theorem call_set_S {x : Str} {t : Tok} {Q : Value → Shared → Prop} (hh : A.handled = none) (hb : x.cps.size + 1 < scanBound)
    (hQ : ∀ (h' : Heap) (tk : Nat) (l : List Key), SetM w h' s.heap.objs.size l → (∀ k, k ∈ l ↔ k ∈ x.cps.toList.map fun c => (Sum.inr (SR.lt c) : Key)) → l.length ≤ (x.cps.toList.map fun c => (Sum.inr (SR.lt c) : Key)).length → (∀ b o, s.heap.get? b = some o → h'.get? b = some o) → Q (.ref s.heap.objs.size) { s with heap := h', toks := tk }) :
    wpAny (model P w) A (call (.type "set") [.str x t]) Q E s := by
  refine set_shell _ ?_
  have f1 := F.sub_str_set
  have f2 := F.sub_str_frozenset
  have f3 : (Value.type "str" == Value.type "dict") = false := by decide
  unfold Builtin.«set.__init__» noKeywords Builtin.Frozenset.updateFrom
  generalize hPI : pyIter = PI
  wp_walk
  subst hPI
  refine wpAny_pyIter_str fun o St W hst => ?_
  refine wpAny_bind (wpAny_runValue ?_)
  have hz1 : (s.heap.push (newSet w)).objs.size = s.heap.objs.size + 1 := Heap.size_push ..
  refine codeAny_mono (set_walk (s := s) (x.cps.toList.map fun c => (Sum.inr (SR.lt c) : Key)) (by rw [hz1]; exact Nat.lt_succ_self _) ?_ ((W _ (by simp [hh])).toS) (by simp) (by simpa using hb) ?_ ?_ (fun b o e => Heap.get?_push_of_some _ e) hst hQ) fun r s' hr => ?_
  · rw [hz1]
    simp only [List.mem_cons, List.not_mem_nil, or_false]
    exact Nat.ne_of_lt (Nat.lt_succ_self _)
  · rintro i v ⟨c, u, hc, rfl⟩
    refine ⟨.inr (SR.lt c), ?_, keyIs_str _ _⟩
    rw [List.getElem?_map, Array.getElem?_toList, hc]
    rfl
  · first | exact fun _ _ e => e | exact fun _ _ e => e.symm
  · cases r with
    | error e => exact hr.elim
    | ok fl =>
      cases fl with
      | ret v =>
        obtain ⟨rfl, hq⟩ := hr
        refine wpAny_pure ?_
        exact wpAny_pure ⟨rfl, hq⟩
      | _ => exact hr.elim
/-! ### over the layer -/
def SetMO (w : World) (a : Addr) (l : List Key) : HO := .ext fun h => SetM w h a l
theorem setMO_new {H : Hp} {h : Heap} {a : Addr} {l : List Key} (R : SetM w h a l) : ObjOk P w H h a (SetMO w a l) := by
  obtain ⟨o, es, ep, t, e, r⟩ := id R
  exact ⟨R, ⟨o, e⟩, fun h1 h2 q k => SetM.at q k⟩
end
section
variable {X : Cx}
/-- set(xs): a list or a tuple of ints and texts, or a text -/
def rSetK (K : PySem.W.Frag) (w : World) : List V → Hp → VK → Prop := fun xs H Q => ∃ ks : List Key, ((∃ a, xs = [.ref a] ∧ (SqL K H a (ks.map kV) ∨ SqT K H a (ks.map kV))) ∨ (∃ z : Str, xs = [.str z] ∧ ks = z.cps.toList.map fun c => (Sum.inr (SR.lt c) : Key))) ∧ ks.length < 1000 ∧
  ∀ p l, H p = none → l.Nodup → (∀ k, k ∈ l ↔ k ∈ ks) → l.length ≤ ks.length → Q (.ref p) (upd H p (SetMO w p l))
theorem SetM.nd {w : World} {h : Heap} {a : Addr} {l : List Key} (R : SetM w h a l) : l.Nodup := by
  obtain ⟨o, es, ep, t, e, _, _, M⟩ := R
  exact M.nd
theorem cr_setK (hc : X.calm = true) : CallR X (.type "set") (rSetK X.K X.w) := by
  intro pins s σ H xs us Q I r h
  obtain ⟨ks, h, hb, q⟩ := h
  have hb' : ks.length + 1 < scanBound := by unfold scanBound; omega
  have fin : ∀ (h' : Heap) (tk : Nat) (l : List Key), SetM X.w h' s.heap.objs.size l → (∀ k, k ∈ l ↔ k ∈ ks) → l.length ≤ ks.length → (∀ b o, s.heap.get? b = some o → h'.get? b = some o) → EP X pins σ Q (.ref s.heap.objs.size) { s with heap := h', toks := tk } := fun h' tk l S m ln k =>
    ⟨.ref s.heap.objs.size, _, I.laid (t' := tk) k (Nat.le_refl _) (setMO_new S), rfl, q _ l (I.hok.fresh (Nat.le_refl _)) S.nd m ln⟩
  rcases h with ⟨a, rfl, hq⟩ | ⟨z, rfl, rfl⟩
  · obtain ⟨u, rfl, rx⟩ := vals1 r
    cases rx
    rcases hq with hq | hq
    · obtain ⟨its, rv, pl, hz⟩ := I.list hq
      exact call_set_L ks (I.ok.hd hc) pl.isList (by simpa using rv) hb' fin
    · obtain ⟨its, rv, pl, hz⟩ := I.tuple hq
      exact call_set_T ks (I.ok.hd hc) pl (by simpa using rv) hb' fin
  · obtain ⟨u, rfl, rx⟩ := vals1 r
    obtain ⟨t, rfl⟩ := rx
    exact call_set_S (I.ok.hd hc) (by simpa using hb') fin
theorem setM_get {pins : List (Addr × Obj)} {σ : L2.St} {H : Hp} {s : Shared} {a : Addr} {l : List Key} (I : Inv X pins σ H s) (ha : H a = some (SetMO X.w a l)) : SetM X.w s.heap a l := (I.hok a _ ha).1
/-- len(set) -/
theorem cr_lenK : CallR X (.builtin "len") (fun xs H Q => ∃ a l, xs = [.ref a] ∧ H a = some (SetMO X.w a l) ∧ Q (.int (l.length : Nat)) H) := by
  intro pins s σ H xs us Q I r h
  obtain ⟨a, l, rfl, ha, q⟩ := h
  obtain ⟨u, rfl, rx⟩ := vals1 r
  cases rx
  obtain ⟨o, es, ep, t, ho, hex, hd, M⟩ := setM_get I ha
  have e := M.size
  exact call_len_set ho hex hd M.fit (by have := M.few; unfold scanBound at this; omega) ⟨.int (l.length : Nat), H, I.tok _, ⟨_, by rw [← e]⟩, q⟩
end
end SR

set_option maxRecDepth 100000
set_option maxHeartbeats 4000000
namespace SR
open PySem PySem.Spec PyProof.Rows L2
section
variable {P : Program} {w : World} {A : Around} {E : Value → Shared → Prop} {s : Shared}
/-- sorted(set): the members laid into a new list, the list sorted as sortIt says -/
theorem sorted_shell {a : Addr} {l : List Key} {Q : Value → Shared → Prop} (R : SetM w s.heap a l) (hh : A.handled = none) (hfew : l.length < 64)
    (srt : ∀ (vs : List Value) (s1 : Shared) (L : Addr) (Z : Fin → Shared → Prop), s1.heap.get? L = some (seqObj "list" vs.toArray 0) → vs.length < 64 → (vs.map kOf).Perm l → (∀ v ∈ vs, keyIs (kOf v) v = true) →
      (∀ out : Array Value, (∀ (s' : Shared) (p : Addr) (c : Nat), (∀ b o, s.heap.get? b = some o → s'.heap.get? b = some o) → s'.gens = s.gens → s'.os = s.os → s.heap.objs.size ≤ p → s'.heap.get? p = some (seqObj "list" out c) → Q (.ref p) s') → Z (.done (.ret .none)) { s1 with heap := sortedHeap s1.heap L vs out }) →
      wpAny (model P w) A.in1.in1 (Builtin.«list.sort» ⟨[.ref L], []⟩) Z (fun e s' => wants Q E (.error e) s') s1) :
    wpAny (model P w) A (call (.builtin "sorted") [.ref a]) Q E s := by
  obtain ⟨o, es, ep, t, ho, hex, hd, M⟩ := R
  refine Calls.call_function_entry kind_sorted plain_sorted entry_sorted (args_sorted1 _) ?_
  unfold Builtin.«sorted»
  refine wpAny_bind (m := checkCount "sorted" 1 1 _) (wpAny_pure ?_)
  refine wpAny_bind (collect_set (A := A.in1) hh ⟨o, ho, hex.1, hd⟩ M.fit M.few M.ris M.led fun s1 vs k1 hz g1 o1 pm => ?_)
  have pk : (vs.map kOf).Perm l := by
    have q := pm.map kOf
    rw [List.map_map] at q
    exact q.trans (List.Perm.of_eq M.keys)
  have hvl : vs.length < 64 := by
    have q := pk.length_eq
    rw [List.length_map] at q
    omega
  have hv : ∀ v ∈ vs, keyIs (kOf v) v = true := fun v h => by
    obtain ⟨e, he, q⟩ := List.mem_map.mp (pm.mem_iff.mp h)
    rw [← q]
    exact (M.good e he).1
  refine wpAny_bind (wpAny_newList ?_ (by rw [sizeLine_eq]; omega))
  have hoL : (s1.heap.push (seqObj "list" vs.toArray 0)).get? s1.heap.objs.size = some (seqObj "list" vs.toArray 0) := Heap.get?_push_size _ rfl
  refine wpAny_bind (wpAny_holding (wpAny_call_entry slot_list_sort ⟨_, hoL, rfl⟩ entry_list_sort ?_ (args_list_sort _)))
  refine srt vs _ _ _ hoL hvl pk hv fun out hq => ⟨_, rfl, ?_⟩
  obtain ⟨c, hc⟩ := sortedHeap_at (vs := vs) (out := out) hoL
  refine wpAny_pure ⟨_, rfl, hq _ s1.heap.objs.size c (fun b u e => ?_) g1 o1 hz hc⟩
  have q := k1 b u e
  have hlt := Heap.lt_size q
  show (sortedHeap (s1.heap.push (seqObj "list" vs.toArray 0)) s1.heap.objs.size vs out).get? b = some u
  rw [sortedHeap_old (Nat.ne_of_lt hlt) (by rw [size_push']; exact Nat.lt_succ_of_lt hlt)]
  exact Heap.get?_push_of_some _ q
theorem strs_of : ∀ (vs : List Value) (ss : List Str), (vs.map kOf) = ss.map Sum.inr → (∀ v ∈ vs, keyIs (kOf v) v = true) → StrsAre vs ss
  | [], [], _, _ => .nil
  | v :: vs, x :: ss, h, g => by
    injection h with h1 h2
    have k := g v List.mem_cons_self
    rw [h1] at k
    rcases keyIs_shape k with ⟨i, t, q, _⟩ | ⟨y, t, q, e⟩
    · cases q
    · injection q with q
      subst q
      rw [e]
      exact .cons x t (strs_of vs ss h2 fun u hu => g u (List.mem_cons_of_mem _ hu))
  | [], _ :: _, h, _ => by simp at h
  | _ :: _, [], h, _ => by simp at h
theorem ints_ofK : ∀ (vs : List Value) (ns : List Int), (vs.map kOf) = ns.map Sum.inl → (∀ v ∈ vs, keyIs (kOf v) v = true) → IntsAre vs ns
  | [], [], _, _ => .nil
  | v :: vs, x :: ns, h, g => by
    injection h with h1 h2
    have k := g v List.mem_cons_self
    rw [h1] at k
    rcases keyIs_shape k with ⟨i, t, q, e⟩ | ⟨y, t, q, e⟩
    · injection q with q
      subst q
      rw [e]
      exact .cons x t (ints_ofK vs ns h2 fun u hu => g u (List.mem_cons_of_mem _ hu))
    · cases q
  | [], _ :: _, h, _ => by simp at h
  | _ :: _, [], h, _ => by simp at h
theorem perm_inr {l : List Key} {ss : List Str} : ∀ {m : List Key}, m.Perm (ss.map Sum.inr) → ∃ ts : List Str, m = ts.map Sum.inr ∧ ts.Perm ss := fun {m} p => by
  have h : ∀ k ∈ m, ∃ x : Str, k = Sum.inr x := fun k hk => by
    obtain ⟨x, _, e⟩ := List.mem_map.mp (p.mem_iff.mp hk)
    exact ⟨x, e.symm⟩
  have ex : ∀ m : List Key, (∀ k ∈ m, ∃ x : Str, k = Sum.inr x) → ∃ ts : List Str, m = ts.map Sum.inr := by
    intro m
    induction m with
    | nil => intro _; exact ⟨[], rfl⟩
    | cons k m ih =>
      intro hm
      obtain ⟨x, rfl⟩ := hm k List.mem_cons_self
      obtain ⟨ts, rfl⟩ := ih fun u hu => hm u (List.mem_cons_of_mem _ hu)
      exact ⟨x :: ts, rfl⟩
  obtain ⟨ts, rfl⟩ := ex m h
  refine ⟨ts, rfl, ?_⟩
  have q := p.map (fun k : Key => match k with | .inr x => x | .inl _ => Str.empty)
  rw [List.map_map, List.map_map] at q
  have e : ∀ u : List Str, u.map ((fun k : Key => match k with | .inr x => x | .inl _ => Str.empty) ∘ Sum.inr) = u := fun u => by
    have : ((fun k : Key => match k with | .inr x => x | .inl _ => Str.empty) ∘ Sum.inr) = (id : Str → Str) := rfl
    rw [this, List.map_id]
  rw [e, e] at q
  exact q
theorem perm_inl {ss : List Int} : ∀ {m : List Key}, m.Perm (ss.map Sum.inl) → ∃ ts : List Int, m = ts.map Sum.inl ∧ ts.Perm ss := fun {m} p => by
  have h : ∀ k ∈ m, ∃ x : Int, k = Sum.inl x := fun k hk => by
    obtain ⟨x, _, e⟩ := List.mem_map.mp (p.mem_iff.mp hk)
    exact ⟨x, e.symm⟩
  have ex : ∀ m : List Key, (∀ k ∈ m, ∃ x : Int, k = Sum.inl x) → ∃ ts : List Int, m = ts.map Sum.inl := by
    intro m
    induction m with
    | nil => intro _; exact ⟨[], rfl⟩
    | cons k m ih =>
      intro hm
      obtain ⟨x, rfl⟩ := hm k List.mem_cons_self
      obtain ⟨ts, rfl⟩ := ih fun u hu => hm u (List.mem_cons_of_mem _ hu)
      exact ⟨x :: ts, rfl⟩
  obtain ⟨ts, rfl⟩ := ex m h
  refine ⟨ts, rfl, ?_⟩
  have q := p.map (fun k : Key => match k with | .inl x => x | .inr _ => 0)
  rw [List.map_map, List.map_map] at q
  have e : ∀ u : List Int, u.map ((fun k : Key => match k with | .inl x => x | .inr _ => 0) ∘ Sum.inl) = u := fun u => by
    have : ((fun k : Key => match k with | .inl x => x | .inr _ => 0) ∘ Sum.inl) = (id : Int → Int) := rfl
    rw [this, List.map_id]
  rw [e, e] at q
  exact q
end
section
variable {X : Cx}
/-- sorted(set of texts) -/
theorem cr_sortedKS (hc : X.calm = true) : CallR X (.builtin "sorted") (fun vs H Q => ∃ (a : Addr) (ss : List Str), vs = [.ref a] ∧ H a = some (SetMO X.w a (ss.map Sum.inr)) ∧ ss.length < 64 ∧ ∀ (ys : List Str) (p : Addr), ys.Perm ss → sortedS ys = true → H p = none → Q (.ref p) (upd H p (.lst (ys.map V.str)))) := by
  intro pins s σ H vs us Q I r h
  obtain ⟨a, ss, rfl, ha, hf, q⟩ := h
  obtain ⟨u, rfl, rx⟩ := vals1 r
  cases rx
  refine sorted_shell (setM_get I ha) (I.ok.hd hc) (by simpa using hf) fun vs s1 L Z ho h64 pk hv hz => ?_
  obtain ⟨ts, et, pt⟩ := perm_inr (l := []) pk
  have hS : StrsAre vs ts := strs_of vs ts et hv
  refine list_sort_treeK strKind_oneLt ho hS.keysOf (fun v₁ v₂ rest e => keyKind_strs (by rw [← e]; exact hS)) h64 fun st' hp hs => ?_
  obtain ⟨ys, h1, h2, h3⟩ := sorted_out_str hS hp hs
  refine hz _ fun s' p c k g o hp' hg => ?_
  have hn : H p = none := I.hok.fresh hp'
  have hl : (ys.map V.str).length ≤ sizeLine := by rw [List.length_map, (h2.trans pt).length_eq, sizeLine_eq]; omega
  have J : Inv X pins σ (upd H p (.lst (ys.map V.str))) { s with heap := s'.heap, gens := s'.gens, drawn := s'.drawn, toks := s'.toks } :=
    I.call (ch := []) (Un.laid k hp' hn) (I.hok.laid k hp' ⟨hl, _, c, vals_of_strs h1, hg⟩) (by rw [g]; exact I.bare) (fun _ z => nomatch z)
  have e : s' = { s with heap := s'.heap, gens := s'.gens, drawn := s'.drawn, toks := s'.toks } := by
    cases s'; cases s; cases o; rfl
  rw [e]
  exact ⟨.ref p, _, J, rfl, q ys p (h2.trans pt) h3 hn⟩
/-- sorted(set of ints) -/
theorem cr_sortedKI (hc : X.calm = true) : CallR X (.builtin "sorted") (fun vs H Q => ∃ (a : Addr) (ss : List Int), vs = [.ref a] ∧ H a = some (SetMO X.w a (ss.map Sum.inl)) ∧ ss.length < 64 ∧ ∀ (ys : List Int) (p : Addr), ys.Perm ss → ys.Pairwise (· ≤ ·) → H p = none → Q (.ref p) (upd H p (.lst (ys.map V.int)))) := by
  intro pins s σ H vs us Q I r h
  obtain ⟨a, ss, rfl, ha, hf, q⟩ := h
  obtain ⟨u, rfl, rx⟩ := vals1 r
  cases rx
  refine sorted_shell (setM_get I ha) (I.ok.hd hc) (by simpa using hf) fun vs s1 L Z ho h64 pk hv hz => ?_
  obtain ⟨ts, et, pt⟩ := perm_inl pk
  have hS : IntsAre vs ts := ints_ofK vs ts et hv
  refine list_sort_tree ho hS h64 fun out ys h1 h2 h3 => ?_
  refine hz _ fun s' p c k g o hp' hg => ?_
  have hn : H p = none := I.hok.fresh hp'
  have hl : (ys.map V.int).length ≤ sizeLine := by rw [List.length_map, (h2.trans pt).length_eq, sizeLine_eq]; omega
  have J : Inv X pins σ (upd H p (.lst (ys.map V.int))) { s with heap := s'.heap, gens := s'.gens, drawn := s'.drawn, toks := s'.toks } :=
    I.call (ch := []) (Un.laid k hp' hn) (I.hok.laid k hp' ⟨hl, _, c, vals_of_ints h1, hg⟩) (by rw [g]; exact I.bare) (fun _ z => nomatch z)
  have e : s' = { s with heap := s'.heap, gens := s'.gens, drawn := s'.drawn, toks := s'.toks } := by
    cases s'; cases s; cases o; rfl
  rw [e]
  exact ⟨.ref p, _, J, rfl, q ys p (h2.trans pt) h3 hn⟩
end
end SR

set_option maxRecDepth 100000
set_option maxHeartbeats 4000000
namespace SR
open PySem PySem.Spec PyProof.Rows L2
section
variable {X : Cx}
/-- x in o, o an instance with an own __contains__ that gives a truth value -/
def rOwnIn (neg : Bool) (C : Addr) (sp : Sp) (E : XK) : R2 := fun x y H Q => ∃ a dx fs, y = .ref a ∧ H a = some (.ins C dx fs) ∧ sp [.ref a, x] H (fun v H' => ∃ b, v = .bl b ∧ Q (.bl (if neg then !b else b)) H') E
theorem own_in {CX : CXT} {n : Nat} {C f : Addr} {fd : FuncData} {ps : List Str} {sp : Sp} {E : XK} (F : FnOk X.prog X.w X.K X.mg X.base CX n f fd ps sp) (hr : Room n X.A)
    (hs : PySem.W.findIn X.K (.ref C) "__contains__" = some (some (.ref f))) (hf : PySem.W.isFn X.K (.ref f) = true) (hb : Binds X.K fd ps []) (hx : Passes CX X E)
    {pins : List (Addr × Obj)} {s : Shared} {σ : L2.St} {H : Hp} {x : V} {u : Value} {a dx : Addr} {fs : List (Str × V)} {q : V → Hp → Prop} (I : Inv X pins σ H s) (rx : RelV x u) (ha : H a = some (.ins C dx fs)) (hq : sp [.ref a, x] H q E) :
    wpAny (model X.prog X.w) X.A (call (.ref f) [.ref a, u]) (EP X pins σ q) X.xe s := by
  have hl := F.len _ _ _ _ hq
  have r2 : Vals [V.ref a, x] [Value.ref a, u] := .cons rfl (.cons rx .nil)
  refine wpAny_call (codeAny_mono (F.run X.A X.stack s H ⟨[.ref a, u], []⟩ [.ref a, u] [.ref a, x] _ E hr I.env0 (by
    have := hb s [.ref a, u] I.kIn (by simpa using hl)
    simpa using this) r2 hq) fun r s' hz => ?_)
  cases r with
  | error e => exact hx pins σ H s e s' I hz
  | ok fl =>
    cases fl with
    | ret v => exact I.after hz
    | next => exact False.elim hz
    | brk => exact False.elim hz
    | cont => exact False.elim hz
theorem op_inOwn {CX : CXT} {n : Nat} {C f : Addr} {fd : FuncData} {ps : List Str} {sp : Sp} {E : XK} (F : FnOk X.prog X.w X.K X.mg X.base CX n f fd ps sp) (hr : Room n X.A)
    (hs : PySem.W.findIn X.K (.ref C) "__contains__" = some (some (.ref f))) (hf : PySem.W.isFn X.K (.ref f) = true) (hb : Binds X.K fd ps []) (hx : Passes CX X E) : OpR X (compareOp .In) (rOwnIn false C sp E) := by
  intro pins s σ H x y u v Q I rx ry h
  obtain ⟨a, dx, fs, rfl, ha, hq⟩ := h
  cases ry
  obtain ⟨mA, J, _⟩ := ins_get I.hok ha
  obtain ⟨od, J, _⟩ := J.look
  obtain ⟨m, hF⟩ := I.fr
  refine PySem.W.in_K hF I.ok.mod.kin J hs hf (wpAny_mono (own_in F hr hs hf hb hx I rx ha hq) (fun z s' hz => ?_) fun _ _ e => e)
  obtain ⟨b', H', I', rb, b, rfl, hQ⟩ := hz
  cases rb
  exact wpAny_truthy_bool ⟨.bl b, H', I', rfl, hQ⟩
theorem op_notInOwn {CX : CXT} {n : Nat} {C f : Addr} {fd : FuncData} {ps : List Str} {sp : Sp} {E : XK} (F : FnOk X.prog X.w X.K X.mg X.base CX n f fd ps sp) (hr : Room n X.A)
    (hs : PySem.W.findIn X.K (.ref C) "__contains__" = some (some (.ref f))) (hf : PySem.W.isFn X.K (.ref f) = true) (hb : Binds X.K fd ps []) (hx : Passes CX X E) : OpR X (compareOp .NotIn) (rOwnIn true C sp E) := by
  intro pins s σ H x y u v Q I rx ry h
  obtain ⟨a, dx, fs, rfl, ha, hq⟩ := h
  cases ry
  obtain ⟨mA, J, _⟩ := ins_get I.hok ha
  obtain ⟨od, J, _⟩ := J.look
  obtain ⟨m, hF⟩ := I.fr
  refine PySem.W.notIn_K hF I.ok.mod.kin J hs hf (wpAny_mono (own_in F hr hs hf hb hx I rx ha hq) (fun z s' hz => ?_) fun _ _ e => e)
  obtain ⟨b', H', I', rb, b, rfl, hQ⟩ := hz
  cases rb
  exact wpAny_truthy_bool ⟨.bl (!b), H', I', rfl, hQ⟩
end
end SR

set_option maxRecDepth 100000
set_option maxHeartbeats 4000000
namespace SR
open PySem PySem.Spec PyProof.Rows L2
/-! Dicts whose keys are pairs (an int, a tuple of ints). -/
abbrev PKey := Int × List Int
section
variable (P : Program) (w : World)
def IsPair (h : Heap) (k : PKey) (a : Addr) : Prop := ∃ o n t b, h.get? a = some o ∧ o.cls = .type "tuple" ∧ o.data = .seq #[.int k.1 t, .ref b] n ∧ IsTupleKey (intKind P w) h k.2 b
def pairHash (k : PKey) : Int := reduceHash (Builtin.Tuple.tupleHashOf [(intKind P w).hash k.1, tupleKeyHash (intKind P w) k.2])
end
section
variable {P : Program} {w : World} {A : Around} {E : Value → Shared → Prop} {s : Shared}
theorem IsPair.typeIs {k : PKey} {a : Addr} (x : IsPair P w s.heap k a) : s.TypeIs (.ref a) "tuple" := by
  obtain ⟨o, n, t, b, ho, hc, _⟩ := x
  exact ⟨o, ho, hc⟩
theorem IsPair.inj {h : Heap} {a : Addr} {x y : PKey} (hx : IsPair P w h x a) (hy : IsPair P w h y a) : x = y := by
  obtain ⟨o, n, t, b, ho, hc, hd, hk⟩ := hx
  obtain ⟨o', n', t', b', ho', hc', hd', hk'⟩ := hy
  obtain rfl : o = o' := Option.some.inj (ho.symm.trans ho')
  rw [hd] at hd'
  injection hd' with h1 _
  injection h1 with h1
  injection h1 with h2 h3
  injection h2 with h2 _
  injection h3 with h3 _
  injection h3 with h3
  subst h3
  exact Prod.ext h2 (hk.inj hk')
theorem IsPair.keeps {h h' : Heap} {k : PKey} {a d : Addr} {o : Obj} {es ep} (x : IsPair P w h k a) (ho : h.get? d = some o) (hd : o.data = .dict es ep) (hs : Heap.SameBut d h h') : IsPair P w h' k a := by
  obtain ⟨o', n, t, b, ho', hc, hd', hk⟩ := x
  have hne : a ≠ d := by
    rintro rfl
    obtain rfl : o' = o := Option.some.inj (ho'.symm.trans ho)
    rw [hd] at hd'
    exact nomatch hd'
  exact ⟨o', n, t, b, (hs.2 a hne).trans ho', hc, hd', hk.keeps ho hd hs⟩
theorem pair_hash {k : PKey} {a : Addr} {Q : Int → Shared → Prop} (hu : A.units + 1 < cLine) (hk : IsPair P w s.heap k a) (h : Q (pairHash P w k) { s with toks := s.toks + (k.2.length + 3) }) : wpAny (model P w) A (pyHash (.ref a)) Q E s := by
  have hT := hk.typeIs
  obtain ⟨o, n, t, b, ho, _, hd, hb⟩ := hk
  unfold pyHash
  first | unfold pyHashByItsType | skip
  first | refine wpAny_bind (wpAny_cRoomFor_or (.inr (by omega)) ?_) | skip
  refine wpAny_bind (wpAny_specialOf hT F.slot_tuple_hash.lookup ?_)
  show wpAny _ _ (if (some (Value.builtin "tuple.__hash__") == some Value.none) = true then _ else _) Q E s
  rw [if_neg (by rw [beq_builtin_none]; exact Bool.false_ne_true)]
  refine wpAny_bind (wpAny_specialOf hT F.slot_tuple_hash.lookup ?_)
  show wpAny _ _ (callSpecialIfBoundUnlessNone? (.ref a) "__hash__" _ >>= _) Q E s
  refine wpAny_bind (wpAny_callSpecialIfBoundUnlessNone?_slot hT F.slot_tuple_hash (wpAny_call_entry F.slot_tuple_hash hT F.entry_tuple_hash ?_ (F.args_tuple_hash_1 _)))
  show wpAny _ _ (Builtin.Tuple.tupleItemsOf (.ref a) >>= _) _ _ s
  refine wpAny_bind (wpAny_tupleItemsOf ho hd (wpAny_bind ?_))
  rw [← Array.forIn_toList]
  refine wpAny_forIn_list _ (fun rest (c : Array Int) s' =>
      (rest = [.int k.1 t, .ref b] ∧ c.toList = [] ∧ s' = s) ∨ (rest = [.ref b] ∧ c.toList = [(intKind P w).hash k.1] ∧ s' = { s with toks := s.toks + 1 }) ∨ (rest = [] ∧ c.toList = [(intKind P w).hash k.1, tupleKeyHash (intKind P w) k.2] ∧ s' = { s with toks := s.toks + (k.2.length + 2) })) _ ?_ ?_ _ _ (.inl ⟨rfl, rfl, rfl⟩)
  · rintro x rest c s' (⟨e, hc, rfl⟩ | ⟨e, hc, rfl⟩ | ⟨e, hc, rfl⟩)
    · injection e with e1 e2
      subst e1 e2
      refine wpAny_bind ((intKind P w).pyHash (intKind_is P w _ _) ?_)
      first
        | exact wpAny_pure (.inr (.inl ⟨rfl, by simp [hc], rfl⟩))
        | exact wpAny_bind (wpAny_pure (wpAny_pure (.inr (.inl ⟨rfl, by simp [hc], rfl⟩))))
    · injection e with e1 e2
      subst e1 e2
      refine wpAny_bind (wpAny_pyHash_tuple (A := A.in1) hu hb ?_)
      have et : s.toks + 1 + (k.2.length + 1) = s.toks + (k.2.length + 2) := by omega
      first
        | exact wpAny_pure (.inr (.inr ⟨rfl, by simp [hc], by simp only [et]⟩))
        | exact wpAny_bind (wpAny_pure (wpAny_pure (.inr (.inr ⟨rfl, by simp [hc], by simp only [et]⟩))))
    · cases e
  · rintro c s' (⟨e, _⟩ | ⟨e, _⟩ | ⟨_, hc, rfl⟩)
    · cases e
    · cases e
    · show wpAny _ _ (retInt (Builtin.Tuple.tupleHashOf c.toList)) _ _ _
      rw [hc]
      refine wpAny_ret_mkInt ?_
      unfold pairHash reduceHash at h
      generalize Builtin.Tuple.tupleHashOf [(intKind P w).hash k.1, tupleKeyHash (intKind P w) k.2] = z at h ⊢
      show wpAny _ _ (if (decide (-(2 : Int) ^ 63 ≤ z) && decide (z < 2 ^ 63)) = true then _ else _) Q E _
      have et : s.toks + (k.2.length + 2) + 1 = s.toks + (k.2.length + 3) := by omega
      by_cases hr : (decide (-(2 : Int) ^ 63 ≤ z) && decide (z < 2 ^ 63)) = true
      · rw [if_pos hr] at h ⊢
        exact wpAny_pure (by simpa only [et] using h)
      · rw [if_neg hr] at h ⊢
        exact wpAny_bind (wpAny_rule (wpAny_pure (by simpa only [et] using h)))
theorem pair_eq_tree {x y : PKey} {a b : Addr} {Z : Fin → Shared → Prop} (hu : A.units < cLine) (hx : IsPair P w s.heap x a) (hy : IsPair P w s.heap y b) (h : Z (.done (.ret (.bool (decide (x = y))))) s) :
    wpAny (model P w) A (Builtin.«tuple.__eq__» ⟨[.ref a, .ref b], []⟩) Z E s := by
  have hTb := hy.typeIs
  obtain ⟨oa, na, ta, ca, hoa, _, hda, hka⟩ := hx
  obtain ⟨ob, nb, tb, cb, hob, _, hdb, hkb⟩ := hy
  show wpAny _ _ (isInstance (.ref b) (.type "tuple") >>= _) _ _ s
  refine wpAny_bind (wpAny_isInstance hTb isSubtype_tuple_tuple ?_)
  simp only [Bool.not_true, Bool.false_eq_true, if_false]
  refine wpAny_bind (wpAny_tupleItemsOf hoa hda (wpAny_bind (wpAny_tupleItemsOf hob hdb (wpAny_bind ?_))))
  refine wpAny_forIn_list _ (fun rest r s' => r.1 = none ∧ s' = s ∧ (rest = [(.int x.1 ta, .int y.1 tb), (.ref ca, .ref cb)] ∨ (x.1 = y.1 ∧ rest = [(.ref ca, .ref cb)]) ∨ (x = y ∧ rest = []))) _ ?_ ?_ _ _ ⟨rfl, rfl, .inl rfl⟩
  · rintro ⟨u, v⟩ rest r s' ⟨hr, rfl, e | ⟨e0, e⟩ | ⟨_, e⟩⟩
    · injection e with e1 e2
      injection e1 with e3 e4
      subst e2 e3 e4
      refine wpAny_bind ((intKind P w).eqBool (a := x.1) (b := y.1) (intKind_is P w _ _) (intKind_is P w _ _) ?_)
      by_cases hk : x.1 = y.1
      · rw [decide_eq_true hk]
        simp only [Bool.not_true, Bool.false_eq_true, if_false]
        exact wpAny_pure ⟨rfl, rfl, .inr (.inl ⟨hk, by trivial⟩)⟩
      · rw [decide_eq_false hk]
        simp only [Bool.not_false, if_true]
        rw [decide_eq_false (fun z => hk (congrArg Prod.fst z))] at h
        exact wpAny_bind (wpAny_pure (wpAny_pure (wpAny_pure h)))
    · injection e with e1 e2
      injection e1 with e3 e4
      subst e2 e3 e4
      refine wpAny_bind (wpAny_eqBool_tuple hu hka hkb ?_)
      by_cases hk : x.2 = y.2
      · rw [decide_eq_true hk]
        simp only [Bool.not_true, Bool.false_eq_true, if_false]
        exact wpAny_pure ⟨rfl, rfl, .inr (.inr ⟨Prod.ext e0 hk, by trivial⟩)⟩
      · rw [decide_eq_false hk]
        simp only [Bool.not_false, if_true]
        rw [decide_eq_false (fun z => hk (congrArg Prod.snd z))] at h
        exact wpAny_bind (wpAny_pure (wpAny_pure (wpAny_pure h)))
    · cases e
  · rintro ⟨r1, r2⟩ s' ⟨hr, rfl, e | ⟨_, e⟩ | ⟨e, _⟩⟩
    · cases e
    · cases e
    · simp only at hr
      subst hr
      rw [decide_eq_true e] at h
      exact wpAny_pure h
theorem pair_eqBool {x y : PKey} {a b : Addr} {Q : Bool → Shared → Prop} (hu : A.units + 1 < cLine) (hx : IsPair P w s.heap x a) (hy : IsPair P w s.heap y b) (h : Q (decide (x = y)) s) :
    wpAny (model P w) A (eqBool (.ref a) (.ref b)) Q E s := by
  unfold eqBool
  try with_reducible refine wpAny_holding ?_
  show wpAny _ _ (if (Value.ref a == Value.ref b) = true then _ else _) Q E s
  by_cases hab : (Value.ref a == Value.ref b) = true
  · rw [if_pos hab]
    have e : a = b := by have := eq_of_beq hab; injection this
    subst e
    obtain rfl := hx.inj hy
    exact wpAny_bind (wpAny_rule (wpAny_pure (by simpa using h)))
  · rw [if_neg hab]
    exact wpAny_bind (wpAny_richCompare_same_room (op := .Eq) hx.typeIs hy.typeIs F.slot_tuple_eq
      (wpAny_call_entry F.slot_tuple_eq hx.typeIs F.entry_tuple_eq (pair_eq_tree (A := A.in1) hu hx hy ⟨_, rfl, (fun e => nomatch e), wpAny_truthy_bool h⟩) (F.args_tuple_eq_2 _ _)) (by omega))
theorem quiet_n {n : Nat} {ks : List Int} {a : Addr} {Q : Bool → Shared → Prop} (hk : IsTupleKey (intKind P w) s.heap ks a) (h : Q true s) : wpAny (model P w) A (eqIsQuiet (n + 1) (.ref a)) Q E s := by
  have hT := hk.typeIs
  obtain ⟨o, items, m, ho, _, hd, hi⟩ := hk
  unfold eqIsQuiet
  refine wpAny_bind (wpAny_specialOf hT F.slot_tuple_eq.lookup ?_)
  show wpAny _ _ (isInstance (.ref a) (.type "tuple") >>= _) _ _ s
  refine wpAny_bind (wpAny_isInstance hT isSubtype_tuple_tuple ?_)
  simp only [Bool.not_true, Bool.false_eq_true, if_false]
  refine wpAny_bind (wpAny_seqItems ho hd (wpAny_bind ?_))
  show wpAny _ _ (forIn items _ _) _ _ s
  rw [← Array.forIn_toList]
  refine wpAny_forIn_list _ (fun rest r s' => r.1 = none ∧ s' = s ∧ ∀ v ∈ rest, carriedByValue v = true) _ ?_ ?_ _ _ ⟨rfl, rfl, hi.byValue⟩
  · rintro v rest r s' ⟨hr, rfl, hall⟩
    rw [eqIsQuiet_byValue _ (hall v List.mem_cons_self)]
    refine wpAny_bind (wpAny_pure ?_)
    simp only [Bool.not_true, Bool.false_eq_true, if_false]
    exact wpAny_pure ⟨rfl, rfl, fun u hu' => hall u (List.mem_cons_of_mem _ hu')⟩
  · rintro ⟨r1, r2⟩ s' ⟨hr, rfl, _⟩
    simp only at hr
    subst hr
    exact wpAny_pure h
theorem pair_quiet {k : PKey} {a : Addr} {Q : Bool → Shared → Prop} (hk : IsPair P w s.heap k a) (h : Q true s) : wpAny (model P w) A (eqIsQuiet 8 (.ref a)) Q E s := by
  have hT := hk.typeIs
  obtain ⟨o, n, t, b, ho, _, hd, hb⟩ := hk
  unfold eqIsQuiet
  refine wpAny_bind (wpAny_specialOf hT F.slot_tuple_eq.lookup ?_)
  show wpAny _ _ (isInstance (.ref a) (.type "tuple") >>= _) _ _ s
  refine wpAny_bind (wpAny_isInstance hT isSubtype_tuple_tuple ?_)
  simp only [Bool.not_true, Bool.false_eq_true, if_false]
  refine wpAny_bind (wpAny_seqItems ho hd (wpAny_bind ?_))
  show wpAny _ _ (forIn (#[Value.int k.1 t, Value.ref b] : Array Value) _ _) _ _ s
  rw [← Array.forIn_toList]
  refine wpAny_forIn_list _ (fun rest r s' => r.1 = none ∧ s' = s ∧ ∀ v ∈ rest, carriedByValue v = true ∨ v = .ref b) _ ?_ ?_ _ _ ⟨rfl, rfl, fun v hv => ?_⟩
  · rintro v rest r s' ⟨hr, rfl, hall⟩
    have fin : ∀ u ∈ rest, carriedByValue u = true ∨ u = Value.ref b := fun u hu' => hall u (List.mem_cons_of_mem _ hu')
    rcases hall v List.mem_cons_self with c | c
    · rw [eqIsQuiet_byValue _ c]
      refine wpAny_bind (wpAny_pure ?_)
      simp only [Bool.not_true, Bool.false_eq_true, if_false]
      exact wpAny_pure ⟨rfl, rfl, fin⟩
    · subst c
      refine wpAny_bind (quiet_n (n := 6) hb ?_)
      simp only [Bool.not_true, Bool.false_eq_true, if_false]
      exact wpAny_pure ⟨rfl, rfl, fin⟩
  · rintro ⟨r1, r2⟩ s' ⟨hr, rfl, _⟩
    simp only at hr
    subst hr
    exact wpAny_pure h
  · have : v = .int k.1 t ∨ v = .ref b := by simpa using hv
    rcases this with e | e
    · subst e; exact .inl rfl
    · exact .inr e
end
def pairKind (P : Program) (w : World) : HeapKind P w PKey where
  is := IsPair P w
  hash := pairHash P w
  draws := fun k => k.2.length + 3
  room := fun A => A.units + 1 < cLine
  inj := fun hx hy => hx.inj hy
  keeps := fun x ho hd hs => x.keeps ho hd hs
  pyHash := fun hu hk h => pair_hash hu hk h
  eqBool := fun hu hx hy h => pair_eqBool hu hx hy h
  quiet := fun hk h => pair_quiet hk h
end SR

set_option maxRecDepth 100000
set_option maxHeartbeats 4000000
namespace SR
open PySem PySem.Spec PyProof.Rows L2
/-- the dict at a: its keys, their places, its ints -/
def PkD (P : Program) (w : World) (h : Heap) (a : Addr) (xs : List (PKey × Addr × Int)) : Prop :=
  (a == sysModules) = false ∧ xs.length ≤ sizeLine ∧ ∃ (ys : List (PKey × Addr × Value)) (o : Obj) (es : Array DictEntry) (ep : Nat), Paired (fun (x : PKey × Addr × Int) (y : PKey × Addr × Value) => y.1 = x.1 ∧ y.2.1 = x.2.1 ∧ ∃ t, y.2.2 = .int x.2.2 t) xs ys ∧
    h.get? a = some o ∧ o.ExactDict ∧ o.data = .dict es ep ∧ es.toList = ys.map (entryOfKey (pairKind P w)) ∧ (ys.map (·.1)).Nodup
def PkO (P : Program) (w : World) (a : Addr) (xs : List (PKey × Addr × Int)) : HO := .ext fun h => PkD P w h a xs
theorem pkO_new {P : Program} {w : World} {H : Hp} {h : Heap} {a : Addr} {xs : List (PKey × Addr × Int)} (R : PkD P w h a xs) : ObjOk P w H h a (PkO P w a xs) := by
  obtain ⟨_, _, ys, o, es, ep, _, ho, _⟩ := id R
  refine ⟨R, ⟨o, ho⟩, fun h1 h2 q k => ?_⟩
  obtain ⟨q1, q2, ys, o, es, ep, q3, q4, q5⟩ := q
  exact ⟨q1, q2, ys, o, es, ep, q3, k o q4, q5⟩
def KeyT (H : Hp) (k : PKey) (b : Addr) : Prop := ∃ c, H b = some (.tup [.int k.1, .ref c]) ∧ H c = some (.tup (k.2.map V.int))
theorem KeyT.mono {H H' : Hp} {k : PKey} {b : Addr} (e : Same H H') (h : KeyT H k b) : KeyT H' k b := by
  obtain ⟨c, h1, h2⟩ := h
  exact ⟨c, e _ _ h1, e _ _ h2⟩
def lookP (xs : List (PKey × Addr × Int)) (k : PKey) : Option Int := (xs.find? fun x => decide (x.1 = k)).map (·.2.2)
theorem items_ints {P : Program} {w : World} : ∀ {k : List Int} {us : List Value}, Vals (k.map V.int) us → ItemsAre (intKind P w) k us
  | [], _, .nil => .nil
  | n :: k, _, .cons r t => by
    obtain ⟨tk, rfl⟩ := r
    exact .cons (intKind_is P w n tk) (items_ints t)
section
variable {X : Cx} {pins : List (Addr × Obj)} {σ : L2.St} {H : Hp} {s : Shared} {a : Addr} {xs : List (PKey × Addr × Int)}
theorem KeyT.is {k : PKey} {b : Addr} (h : KeyT H k b) (I : Inv X pins σ H s) : IsPair X.prog X.w s.heap k b := by
  obtain ⟨c, h1, h2⟩ := h
  obtain ⟨_, its, rv, o, ho, hc, n, hd⟩ := I.hok b _ h1
  obtain ⟨_, its2, rv2, o2, ho2, hc2, n2, hd2⟩ := I.hok c _ h2
  cases rv with
  | cons r1 rr =>
    cases rr with
    | cons r2 rr =>
      cases rr
      obtain ⟨t, rfl⟩ := r1
      cases r2
      exact ⟨o, n, t, c, ho, hc, by simpa using hd, o2, _, n2, ho2, hc2, hd2, by simpa using items_ints rv2⟩
theorem pk_dict (I : Inv X pins σ H s) (ha : H a = some (PkO X.prog X.w a xs)) (hk : ∀ x ∈ xs, KeyT H x.1 x.2.1) :
    (a == sysModules) = false ∧ xs.length ≤ sizeLine ∧ ∃ ys : List (PKey × Addr × Value), Paired (fun (x : PKey × Addr × Int) (y : PKey × Addr × Value) => y.1 = x.1 ∧ y.2.1 = x.2.1 ∧ ∃ t, y.2.2 = .int x.2.2 t) xs ys ∧ s.heap.DictOfH (pairKind X.prog X.w) a ys := by
  obtain ⟨q1, q2, ys, o, es, ep, q3, ho, hex, hd, he, nd⟩ := (I.hok a _ ha).1
  refine ⟨q1, q2, ys, q3, o, es, ep, ho, hex, hd, he, ?_, nd⟩
  have key : ∀ {xs : List (PKey × Addr × Int)} {ys : List (PKey × Addr × Value)}, Paired (fun (x : PKey × Addr × Int) (y : PKey × Addr × Value) => y.1 = x.1 ∧ y.2.1 = x.2.1 ∧ ∃ t, y.2.2 = .int x.2.2 t) xs ys → (∀ x ∈ xs, KeyT H x.1 x.2.1) → ∀ y ∈ ys, IsPair X.prog X.w s.heap y.1 y.2.1 := by
    intro xs ys p
    induction p with
    | nil => intro _ y hy; cases hy
    | cons r _ ih =>
      intro hk y hy
      rcases List.mem_cons.mp hy with z | z
      · subst z
        rw [r.1, r.2.1]
        exact (hk _ List.mem_cons_self).is I
      · exact ih (fun x hx => hk x (List.mem_cons_of_mem _ hx)) y z
  exact key q3 hk
theorem look_at {k : PKey} : ∀ {xs : List (PKey × Addr × Int)} {ys : List (PKey × Addr × Value)}, Paired (fun (x : PKey × Addr × Int) (y : PKey × Addr × Value) => y.1 = x.1 ∧ y.2.1 = x.2.1 ∧ ∃ t, y.2.2 = .int x.2.2 t) xs ys →
    (∀ p, atKey ys k = some p → ∃ i t, lookP xs k = some i ∧ p.2 = .int i t) ∧ (atKey ys k = none → lookP xs k = none)
  | _, _, .nil => ⟨fun p h => by simp [atKey] at h, fun _ => rfl⟩
  | x :: xs, y :: ys, .cons r t => by
    obtain ⟨ih1, ih2⟩ := look_at (k := k) t
    obtain ⟨e1, e2, tk, e3⟩ := r
    by_cases c : x.1 = k
    · have a1 : atKey (y :: ys) k = some y.2 := by simp [atKey, e1, c]
      have a2 : lookP (x :: xs) k = some x.2.2 := by simp [lookP, c]
      rw [a1, a2]
      exact ⟨fun p h => ⟨_, tk, rfl, by rw [← Option.some.inj h]; exact e3⟩, fun h => nomatch h⟩
    · have a1 : atKey (y :: ys) k = atKey ys k := by simp [atKey, e1, c]
      have a2 : lookP (x :: xs) k = lookP xs k := by simp [lookP, c]
      rw [a1, a2]
      exact ⟨ih1, ih2⟩
theorem paired_snoc {α β : Type} {R : α → β → Prop} {x : α} {y : β} : ∀ {xs : List α} {ys : List β}, Paired R xs ys → R x y → Paired R (xs ++ [x]) (ys ++ [y])
  | _, _, .nil, r => .cons r .nil
  | _, _, .cons q t, r => .cons q (paired_snoc t r)
end
section
variable {X : Cx} {o e f : Expr} {td ty tx : TE} {apos cpos : Pos}
def tDNewP (P : Program) (w : World) : TE := fun _ H Q => ∀ p, H p = none → Q (.ref p) (upd H p (PkO P w p []))
theorem pe_dnewP {pos : Pos} : PE X (.Dict [] [] pos) (tDNewP X.prog X.w) := ⟨fun pins s σ H Q I h =>
  wpAny_Dict_empty ⟨.ref s.heap.objs.size, _, I.laid (a := s.heap.objs.size) (o := PkO X.prog X.w s.heap.objs.size []) (t' := s.toks) (fun _ _ q => Heap.get?_push_of_some _ q) (Nat.le_refl _)
    (pkO_new ⟨beq_eq_false_iff_ne.mpr (Ne.symm (Nat.ne_of_lt I.big)), Nat.zero_le _, [], _, #[], 0, .nil, Heap.get?_push_size _ rfl, ⟨rfl, rfl, rfl⟩, rfl, rfl, List.nodup_nil⟩), rfl, h _ (I.hok.fresh (Nat.le_refl _))⟩⟩
def tPSetd (P : Program) (w : World) (td ty tx : TE) : TE := fun σ H Q => td σ H fun x H1 => ∃ a xs0, x = .ref a ∧ H1 a = some (PkO P w a xs0) ∧ ty σ H1 fun y H2 => tx σ H2 fun z H3 => ∃ (xs : List (PKey × Addr × Int)) (k : PKey) (b : Addr) (n : Int), H3 a = some (PkO P w a xs) ∧ y = .ref b ∧ KeyT H3 k b ∧ z = .int n ∧ xs.length < sizeLine ∧
  (∀ x ∈ xs, KeyT H3 x.1 x.2.1) ∧ (∀ v, lookP xs k = some v → Q (.int v) H3) ∧ (lookP xs k = none → Q (.int n) (upd H3 a (PkO P w a (xs ++ [(k, b, n)]))))
theorem pe_psetd (hu : X.A.units + 2 < cLine) (ho : PE X o td) (he : PE X e ty) (hf : PE X f tx) (m : M2 X o "setdefault" apos e f cpos) : PE X (.Call (.Attribute o "setdefault" apos) [e, f] [] cpos) (tPSetd X.prog X.w td ty tx) := by
  refine ⟨fun pins s σ H Q I h => ?_⟩
  refine wpAny_Call_method m.base m.few m.line PySem.F.plainAttrs_dict PySem.F.slot_dict_setdefault PySem.F.type_dict_setdefault (thn (ho.run pins s σ H _ I h) fun u s1 ⟨x, H1, I1, rx, a, xs0, ex, ha, q1⟩ => ?_)
  subst ex
  obtain rfl : u = Value.ref a := rx
  obtain ⟨_, _, _, od, _, _, _, hod, hex, _⟩ := (I1.hok a _ ha).1
  refine ⟨⟨od, hod, hex.1⟩, fun b q => ?_, ?_⟩
  · cases q
    exact ⟨od, hod, hex.2.1⟩
  rw [m.trees]
  refine Calls.callWith_builtin rfl (Calls.evalArgs_plain (Calls.spliced_cons (thn (he.run pins s1 σ H1 _ I1 q1) fun iv s2 ⟨y, H2, I2, ry, q2⟩ =>
    Calls.spliced_cons (thn (hf.run pins s2 σ H2 _ I2 q2) fun fv s3 ⟨z, H3, I3, rz, xs, k, b, n, ea, ey, hk, ez, hl, hks, q3, q4⟩ => Calls.spliced_nil ?_))))
  subst ey ez
  obtain rfl : iv = Value.ref b := ry
  obtain ⟨tk, rfl⟩ := rz
  obtain ⟨r1, r2, ys, rel, dd⟩ := pk_dict I3 ea hks
  have hlen : xs.length = ys.length := Paired.length rel
  refine call_setdefault_heap (knd := pairKind X.prog X.w) (k := k) hu (hk.is I3) r1 dd (fun p hp => ?_) (fun hn h' dd' sb => ?_) (by rw [← hlen]; exact r2)
  · obtain ⟨i, t, e1, e2⟩ := (look_at rel).1 p hp
    exact ⟨.int i, H3, I3.tok _, ⟨t, e2⟩, q3 i e1⟩
  · have e1 := (look_at rel).2 hn
    obtain ⟨o', es, ep, w1, w2, w3, w4, w5, w6⟩ := dd'
    rw [storedH_new hn] at w4 w6
    exact ⟨.int n, _, d_write (t' := s3.toks + (pairKind X.prog X.w).draws k) I3 (by rw [ea]; exact True.intro) sb ⟨o', w1⟩ (pkO_new ⟨r1, by simp only [List.length_append, List.length_cons, List.length_nil]; omega, _, o', es, ep, paired_snoc rel ⟨rfl, rfl, tk, rfl⟩, w1, w2, w3, w4, w6⟩), ⟨tk, rfl⟩, q4 e1⟩
theorem call_lenP : CallR X (.builtin "len") (fun vs H Q => ∃ a xs, vs = [.ref a] ∧ H a = some (PkO X.prog X.w a xs) ∧ (∀ x ∈ xs, KeyT H x.1 x.2.1) ∧ Q (.int (xs.length : Nat)) H) := by
  intro pins s σ H vs us Q I r h
  obtain ⟨a, xs, rfl, ha, hk, q⟩ := h
  obtain ⟨u, rfl, rx⟩ := vals1 r
  obtain rfl : u = .ref a := rx
  obtain ⟨r1, r2, ys, rel, dd⟩ := pk_dict I ha hk
  have hl : xs.length = ys.length := Paired.length rel
  refine call_len_dictH r1 dd (by rw [← hl]; rw [sizeLine_eq] at r2; omega) ?_
  rw [← hl]
  exact ⟨.int ((xs.length : Nat) : Int), H, I.tok _, ⟨_, rfl⟩, q⟩
end
end SR

set_option maxRecDepth 100000
set_option maxHeartbeats 4000000
namespace SR
open PySem PySem.Spec PyProof.Rows L2
/-! enumerate over a tuple, over the keys of a dict. -/
def ItE (src : Hp → Prop) (xs : List V) : It :=
  ⟨fun i H => src H ∧ i < xs.length, fun i H v H' => ∃ T x, v = .ref T ∧ H T = none ∧ H' = upd H T (.tup [.int (i : Nat), x]) ∧ xs[i]? = some x, fun i H => src H ∧ i = xs.length⟩
theorem walk_enumE {src : Hp → Prop} {xs : List V} : Walk (ItE src xs) xs.length src (YPair (fun i => some (.int (i : Nat))) (fun i => xs[i]?)) := by
  refine ⟨fun i _ hi q => ⟨q, hi⟩, fun _ q => ⟨q, rfl⟩, fun i H v H' _ q y => ?_⟩
  obtain ⟨T, x, h1, h2, h3, h4⟩ := y
  exact ⟨T, .int (i : Nat), x, h1, h2, h3, rfl, h4⟩
structure ESrc (P : Program) (w : World) (K : PySem.W.Frag) (src : Hp → Prop) (xs : List V) (a it : Addr) (At : Nat → Heap → Prop) : Prop where
  draws : ∀ (X : Cx), X.prog = P → X.w = w → X.K = K → X.calm = true → ∀ (pins : List (Addr × Obj)) (s : Shared) (σ : L2.St) (H : Hp), Inv X pins σ H s → src H →
    ∃ (Pv : Nat → Value → Prop) (St0 : Nat → Heap → Prop), Draws P w X.A.in1 it [it, a] xs.length Pv St0 ∧ (∀ i, At i s.heap → St0 i s.heap) ∧ (∀ i h', St0 i h' → At i h') ∧ ∀ (i : Nat) (v : Value) (x : V), Pv i v → xs[i]? = some x → RelV x v
  obj : ∀ i h, At i h → ∃ o, h.get? it = some o ∧ ∀ v, o.data ≠ .cell v
  keep : ∀ i h h', At i h → (∀ o, h.get? it = some o → h'.get? it = some o) → At i h'
theorem turn_enumS {P : Program} {w : World} {K : PySem.W.Frag} {src : Hp → Prop} {xs : List V} {a it e : Addr} {At : Nat → Heap → Prop} (S : ESrc P w K src xs a it At) (hei : e ≠ it) (hea : e ≠ a) {elts : List Expr} {kk : Nat} {tpos : Pos} :
    Turn P w K (.Tuple elts kk tpos) (ItE src xs) [e, it] e (fun i h => (∃ old, IsEnum h e it ((i : Nat) : Int) old) ∧ At i h) where
  mem := by simp
  obj := fun i h st b hb => by
    obtain ⟨⟨old, he⟩, ha⟩ := st
    have e' : b = e ∨ b = it := by simpa using hb
    rcases e' with z | z
    · rw [z]; exact ⟨_, he, fun v q => nomatch q⟩
    · rw [z]; exact S.obj i h ha
  keep := fun i h h' st k => ⟨let ⟨old, he⟩ := st.1; ⟨old, k e (by simp) _ he⟩, S.keep i h h' st.2 fun o q => k it (by simp) o q⟩
  item := by
    intro X hP hw hK hc i pins s σ H E I hf st hg
    obtain ⟨Pv, St0, D, d1, d2, d3⟩ := S.draws X hP hw hK hc pins s σ H I hg.1
    subst hP hw hK
    obtain ⟨⟨old, he⟩, ha⟩ := st
    obtain ⟨x, hx⟩ : ∃ x, xs[i]? = some x := ⟨xs[i]'hg.2, List.getElem?_eq_getElem hg.2⟩
    have hel : e < s.heap.objs.size := Heap.lt_size he
    have hil : it < s.heap.objs.size := by obtain ⟨_, q, _⟩ := S.obj i _ ha; exact Heap.lt_size q
    refine wpAny_pyNext_enum_itemD D he (d1 i ha) hg.2 hei (by simp [hei, hea]) fun u h' tk hPu ho hst hT hsz hk => ?_
    have ru := d3 i u x hPu hx
    refine ⟨_, rfl, wpAny_letOwnedTupleGo_enum (s := { s with heap := h', toks := tk + 1 }) ho fun h'' he' sb => ?_⟩
    have hT2 : h''.get? s.heap.objs.size = some { cls := .type "tuple", data := .seq #[.int i tk, u] } := (sb.2 _ (Nat.ne_of_gt hel)).trans hT
    have new : ObjOk X.prog X.w (upd H s.heap.objs.size (.tup [.int (i : Nat), x])) h'' s.heap.objs.size (.tup [.int (i : Nat), x]) :=
      ⟨by show 2 ≤ sizeLine; decide, [.int i tk, u], .cons ⟨_, rfl⟩ (.cons ru .nil), ⟨_, hT2, rfl, _, rfl⟩⟩
    have I1 : Inv X pins σ (upd H s.heap.objs.size (.tup [.int (i : Nat), x])) { s with heap := h'', toks := tk + 1 } :=
      I.turnedNew (ch := [e, it]) (fun b ob hb q => (sb.2 b (fun z => hb (by simp [z]))).trans (hk b ob (fun z => hb (by simp [z])) (fun z => hb (by simp [z])) q)) hf (Nat.le_refl _) new
    refine ⟨.ref s.heap.objs.size, _, I1, rfl, ⟨_, x, rfl, I.hok.fresh (Nat.le_refl _), rfl, hx⟩, ⟨⟨u, ?_⟩, S.keep _ _ _ (d2 _ _ hst) fun o q => (sb.2 it (Ne.symm hei)).trans q⟩, fun b hb => ?_⟩
    · have e1 : ((i + 1 : Nat) : Int) = (i : Int) + 1 := by omega
      rw [e1]; exact he'
    · have hb' : b < s.heap.objs.size := by
        have e' : b = e ∨ b = it := by simpa using hb
        rcases e' with z | z
        · rw [z]; exact hel
        · rw [z]; exact hil
      rw [upd_ne (Nat.ne_of_lt hb')]
      exact (hf b hb).1
  done := by
    intro X hP hw hK hc i pins s σ H E I hf st hg
    obtain ⟨Pv, St0, D, d1, d2, d3⟩ := S.draws X hP hw hK hc pins s σ H I hg.1
    subst hP hw hK
    obtain ⟨⟨old, he⟩, ha⟩ := st
    obtain ⟨hs, rfl⟩ := hg
    obtain ⟨f0, f1, f2, f3, f4, f5⟩ := hf it (by simp)
    exact wpAny_pyNext_enum_endD D he (d1 _ ha) fun h' eb => ⟨rfl, I.turned (t' := s.toks) (fun b o hb q => eb b o hb q) f0 f1 f3 f4 f5⟩
  self := fun A i s Q E st h => let ⟨⟨_, he⟩, _⟩ := st; wpAny_pyIter_enum he h
/-! ### enumerate(v): its two new cells -/
set_option maxHeartbeats 4000000 in
theorem meets_enum1 {v : Value} {o : Obj} {H : Heap → Prop} (B : Begins v o H) :
    Meets (Builtin.«enumerate.__new__» ⟨[.type "enumerate", v], []⟩) (fun _ R s => H s.heap ∧
      R (.ok (.ret (.ref (s.heap.push o).objs.size))) { s with heap := (s.heap.push o).push { cls := .type "enumerate", data := .fields #[.none, .bool false, .ref s.heap.objs.size, rawInt 0, .none, .none] } }) :=
  .of_wp fun prog w A R s h => by
    obtain ⟨hp, g, d, tk, os⟩ := s; obtain ⟨h1, h⟩ := h
    have hsub := sub_enumerate
    have q1 : ∀ {A' : Around} {E : Value → Shared → Prop} {Q : Value → Shared → Prop}, Q (.ref hp.objs.size) ⟨hp.push o, g, d, tk, os⟩ → wpAny (model prog w) A' (pyIter v) Q E ⟨hp, g, d, tk, os⟩ :=
      fun q => B.iter prog w _ _ ⟨hp, g, d, tk, os⟩ _ h1 q
    wp_walk using q1
    refine wpAny_stack_any fun st => wpAny_pure ?_
    split
    · rename_i c _ _ _ _ _
      cases (c == Value.type "enumerate")
      · wp_walk using q1
        exact ⟨_, rfl, h⟩
      · wp_walk using q1
        exact ⟨_, rfl, h⟩
    · wp_walk using q1
      exact ⟨_, rfl, h⟩
section
variable {prog : Program} {w : World} {A : Around} {E : Value → Shared → Prop} {s : Shared}
theorem enum_begins1 {v : Value} {o : Obj} {H : Heap → Prop} {Q : Value → Shared → Prop} (B : Begins v o H) (h1 : H s.heap)
    (h : ∀ h', IsEnum h' (s.heap.objs.size + 1) s.heap.objs.size 0 .none → h'.get? s.heap.objs.size = some o → h'.objs.size = s.heap.objs.size + 2 →
      (∀ b o, s.heap.get? b = some o → h'.get? b = some o) → Q (.ref (s.heap.objs.size + 1)) { s with heap := h' }) :
    wpAny (model prog w) A (call (.type "enumerate") [v]) Q E s := by
  refine callType_new F.called_enumerate (by decide) (F.typeCall_enumerate_1 _) (F.newCall_enumerate_1 _) (fun obj => F.args_object_init_2 obj _) F.entry_enumerate_new (meets_enum1 B) ⟨h1, ?_⟩
  have hz : (s.heap.push o).objs.size = s.heap.objs.size + 1 := Heap.size_push ..
  have he : IsEnum ((s.heap.push o).push { cls := .type "enumerate", data := .fields #[.none, .bool false, .ref s.heap.objs.size, rawInt 0, .none, .none] }) (s.heap.objs.size + 1) s.heap.objs.size 0 .none := by
    have := Heap.get?_push_size (s.heap.push o) (o := { cls := .type "enumerate", data := .fields #[.none, .bool false, .ref s.heap.objs.size, rawInt 0, .none, .none] }) rfl
    rw [hz] at this; exact this
  show _ ∧ _
  rw [hz]
  exact ⟨⟨_, he, rfl⟩, h _ he (Heap.get?_push_of_some _ (Heap.get?_push_size _ B.free)) (by rw [Heap.size_push, hz]) fun b o x => Heap.get?_push_of_some _ (Heap.get?_push_of_some _ x)⟩
end
/-! ### over a tuple -/
theorem src_tuple {P : Program} {w : World} {K : PySem.W.Frag} {a it : Addr} {xs : List V} (hne : a ≠ it) : ESrc P w K (fun H => SqT K H a xs) xs a it (fun i h => h.IsTupleIter it a i) where
  draws := by
    intro X hP hw hK hc pins s σ H I hs
    subst hP hw hK
    obtain ⟨its, rv, ht, hz⟩ := I.tuple hs
    have hl : its.toArray.size = xs.length := by rw [List.size_toArray, ← rv.length]
    have D := Draws.tuple (prog := X.prog) (w := X.w) (A := X.A.in1) (I.ok.hd hc) it a hne its.toArray
    rw [hl] at D
    refine ⟨_, _, D, fun i h => ⟨h, ht⟩, fun i h' h => h.1, fun i v x hv hx => ?_⟩
    obtain ⟨u, hu, ru⟩ := rv.get hx
    have e : its[i]? = some v := by simpa using hv
    rw [hu] at e
    cases e
    exact ru
  obj := fun i h st => by
    obtain ⟨o, ho, hc, hd⟩ := st
    exact ⟨o, ho, fun v q => by rw [hd] at q; cases q⟩
  keep := fun i h h' st k => st.at fun o e => k o e
def iEnumT (K : PySem.W.Frag) (ta : TA) : TI := fun σ H R => ta σ H fun vs H1 => ∃ a xs, vs = [.ref a] ∧ SqT K H1 a xs ∧ R (ItE (fun H => SqT K H a xs) xs) H1
theorem pi_enumT {X : Cx} {e : Expr} {ta : TA} {p pos tpos : Pos} {elts : List Expr} {kk : Nat} (hg : Gl X "enumerate") (hm : X.mg "enumerate" = none) (ha : PA X [e] ta) (hs : starEach [e] X.env = [(false, eval e X.env)] := by rfl) :
    PI X (.Tuple elts kk tpos) (.Call (.Name "enumerate" p) [e] [] pos) (iEnumT X.K ta) := by
  refine ⟨fun pins s σ H R I h => ?_⟩
  refine Call_ (ld_blt I hg hm boot_enumerate (PyProof.Rows.callWith_type1 (thn (ha.run pos pins s σ H _ I h) fun us s1 ⟨vs, H1, I1, r1, q1⟩ => ?_) hs rfl))
  obtain ⟨a, xs, ex, hq, q⟩ := q1
  subst ex
  cases r1 with
  | cons r rr =>
    cases rr
    cases r
    obtain ⟨its, rv, ht, hz⟩ := I1.tuple hq
    have hla : a < s1.heap.objs.size := by obtain ⟨_, z, _⟩ := ht; exact Heap.lt_size z
    refine enum_begins1 (begins_tuple a its.toArray) ht fun h' he hit hsz hk => wpAny_pyIter_enum he ?_
    have I2 : Inv X pins σ H1 { s1 with heap := h' } := I1.kept (t' := s1.toks) hk
    refine ⟨s1.heap.objs.size + 1, [s1.heap.objs.size + 1, s1.heap.objs.size], _, _, H1, rfl, I2, turn_enumS (src_tuple (a := a) (it := s1.heap.objs.size) (xs := xs) (Nat.ne_of_lt hla)) (Nat.succ_ne_self _) (Nat.ne_of_gt (Nat.lt_succ_of_lt hla)), ⟨⟨.none, he⟩, _, hit, rfl, rfl⟩, fun b hb => ?_, q⟩
    have e' : b = s1.heap.objs.size + 1 ∨ b = s1.heap.objs.size := by simpa using hb
    have hle : s1.heap.objs.size ≤ b := by
      rcases e' with z | z
      · rw [z]; exact Nat.le_add_right _ _
      · rw [z]; exact Nat.le_refl _
    exact I1.fpOk hle (I1.hok.fresh hle)
end SR

set_option maxRecDepth 100000
set_option maxHeartbeats 4000000
namespace SR
open PySem PySem.Spec PyProof.Rows L2
/-! A list or a tuple, walked. -/
def LoT (H : Hp) (a : Addr) (xs : List V) : Prop := H a = some (.lst xs) ∨ H a = some (.tup xs)
theorem LoT.mono {H H' : Hp} {a : Addr} {xs : List V} (e : Same H H') (h : LoT H a xs) : LoT H' a xs := h.imp (e _ _) (e _ _)
theorem LoT.seq {K : PySem.W.Frag} {H : Hp} {a : Addr} {xs : List V} (h : LoT H a xs) : SqL K H a xs ∨ SqT K H a xs := h.imp SqL.of SqT.of
theorem isi_LT {K : PySem.W.Frag} {H : Hp} {a : Addr} {xs : List V} (h : LoT H a xs) : ∃ t, TyX K H (.ref a) t ∧ PySem.W.kitAny K t [.type "list", .type "tuple"] = some true := by
  rcases h with h | h
  · exact ⟨_, .base (.lst h), kitAny_cons (kit_ty (b := "list") (r := true) (by decide +kernel)) nofun fun _ => rfl⟩
  · exact ⟨_, .base (.tup h), kitAny_cons (kit_ty (b := "list") (r := false) (by decide +kernel)) (fun _ => kitAny_cons (kit_ty (b := "tuple") (r := true) (by decide +kernel)) nofun fun _ => rfl) nofun⟩
def iLoT (tl : TE) : TI := fun σ H R => tl σ H fun x H1 => ∃ a xs, x = .ref a ∧ LoT H1 a xs ∧ ∀ (J : It) (G : Hp → Prop), Walk J xs.length G (YAt xs) → (∀ H', Same H1 H' → G H') → R J H1
theorem pi_lot {X : Cx} {tg l : Expr} {tl : TE} (hl : PE X l tl) : PI X tg l (iLoT tl) := by
  refine ⟨fun pins s σ H R I h => ?_⟩
  refine thn (hl.run pins s σ H _ I h) fun v s1 ⟨x, H1, I1, r1, q1⟩ => ?_
  obtain ⟨a, xs, e, hq, q⟩ := q1
  subst e
  cases r1
  rcases hq with hq | hq
  · have hq' : SqL X.K H1 a xs := SqL.of hq
    obtain ⟨its, rv, p, hz⟩ := I1.list hq'
    refine wpAny_pyIter_list p.isList ?_
    exact pi_one (tk := s1.toks) I1 _ (turn_list a _) ⟨_, Heap.get?_push_size _ rfl, rfl, rfl⟩ (q (Itl X.K a) _ walk_list fun H' e => e.seq hq')
  · have hq' : SqT X.K H1 a xs := SqT.of hq
    obtain ⟨its, rv, p, hz⟩ := I1.tuple hq'
    refine wpAny_pyIter_tuple (show s1.heap.IsTuple a its.toArray from p) ?_
    exact pi_one (tk := s1.toks) I1 _ (turn_tuple a _) ⟨_, Heap.get?_push_size _ rfl, rfl, rfl⟩ (q (Itt X.K a) _ walk_tup fun H' e => SqT.of (e _ _ hq))
def iEnumL (ta : TA) : TI := fun σ H R => ta σ H fun vs H1 => ∃ a xs, vs = [.ref a] ∧ LoT H1 a xs ∧ ∀ (J : It) (G : Hp → Prop), Walk J xs.length G (YPair (fun i => some (.int (i : Nat))) (fun i => xs[i]?)) → (∀ H', Same H1 H' → G H') → R J H1
theorem pi_enumL {X : Cx} {e : Expr} {ta : TA} {p pos tpos : Pos} {elts : List Expr} {kk : Nat} (hg : Gl X "enumerate") (hm : X.mg "enumerate" = none) (ha : PA X [e] ta) (hs : starEach [e] X.env = [(false, eval e X.env)] := by rfl) :
    PI X (.Tuple elts kk tpos) (.Call (.Name "enumerate" p) [e] [] pos) (iEnumL ta) := by
  refine ⟨fun pins s σ H R I h => ?_⟩
  refine Call_ (ld_blt I hg hm boot_enumerate (PyProof.Rows.callWith_type1 (thn (ha.run pos pins s σ H _ I h) fun us s1 ⟨vs, H1, I1, r1, q1⟩ => ?_) hs rfl))
  obtain ⟨a, xs, ex, hq, q⟩ := q1
  subst ex
  cases r1 with
  | cons r rr =>
    cases rr
    cases r
    rcases hq with hq | hq
    · have hq' : SqL X.K H1 a xs := SqL.of hq
      obtain ⟨its, rv, p', hz⟩ := I1.list hq'
      refine call_enumerate_list p'.isList fun h' he hit hsz hk => wpAny_pyIter_enum he ?_
      have I2 : Inv X pins σ H1 { s1 with heap := h' } := I1.kept (t' := s1.toks) hk
      refine ⟨s1.heap.objs.size + 1, [s1.heap.objs.size + 1, s1.heap.objs.size], _, _, H1, rfl, I2, turn_enum a (s1.heap.objs.size + 1) s1.heap.objs.size, ⟨⟨.none, he⟩, hit, Nat.succ_ne_self _⟩, fun b hb => ?_, q (Ite X.K a) _ walk_enum fun H' e => e.seq hq'⟩
      have e' : b = s1.heap.objs.size + 1 ∨ b = s1.heap.objs.size := by simpa using hb
      have hle : s1.heap.objs.size ≤ b := by
        rcases e' with z | z
        · rw [z]; exact Nat.le_add_right _ _
        · rw [z]; exact Nat.le_refl _
      exact I1.fpOk hle (I1.hok.fresh hle)
    · have hq' : SqT X.K H1 a xs := SqT.of hq
      obtain ⟨its, rv, ht, hz⟩ := I1.tuple hq'
      have hla : a < s1.heap.objs.size := by obtain ⟨_, z, _⟩ := ht; exact Heap.lt_size z
      refine enum_begins1 (begins_tuple a its.toArray) ht fun h' he hit hsz hk => wpAny_pyIter_enum he ?_
      have I2 : Inv X pins σ H1 { s1 with heap := h' } := I1.kept (t' := s1.toks) hk
      refine ⟨s1.heap.objs.size + 1, [s1.heap.objs.size + 1, s1.heap.objs.size], _, _, H1, rfl, I2, turn_enumS (src_tuple (a := a) (it := s1.heap.objs.size) (xs := xs) (Nat.ne_of_lt hla)) (Nat.succ_ne_self _) (Nat.ne_of_gt (Nat.lt_succ_of_lt hla)), ⟨⟨.none, he⟩, _, hit, rfl, rfl⟩, fun b hb => ?_, q (ItE (fun H => SqT X.K H a xs) xs) _ walk_enumE fun H' e => SqT.of (e _ _ hq)⟩
      have e' : b = s1.heap.objs.size + 1 ∨ b = s1.heap.objs.size := by simpa using hb
      have hle : s1.heap.objs.size ≤ b := by
        rcases e' with z | z
        · rw [z]; exact Nat.le_add_right _ _
        · rw [z]; exact Nat.le_refl _
      exact I1.fpOk hle (I1.hok.fresh hle)
end SR

set_option maxRecDepth 100000
set_option maxHeartbeats 4000000
namespace SR
open PySem PySem.Spec PyProof.Rows L2
theorem kv_at {κ : Type} {kvs : List (κ × V)} {vs : List (κ × Value)} (r : KV kvs vs) : ∀ (i : Nat) {y : κ × Value}, vs[i]? = some y → ∃ x, kvs[i]? = some x ∧ RelV x.2 y.2 := by
  unfold KV at r
  induction r with
  | nil => intro i y e; simp at e
  | @cons a b _ _ h _ ih =>
    intro i y e
    match i, e with
    | 0, e => exact ⟨a, rfl, by rw [← Option.some.inj e]; exact h.2⟩
    | i + 1, e =>
      obtain ⟨x, h1, h2⟩ := ih i (by simpa using e)
      exact ⟨x, by simpa using h1, h2⟩
/-! ### d.values() as a thing of its own; its list -/
def ViewO (r d : Addr) : HO := .ext fun h => h.IsValuesView r d
section
variable {X : Cx} {o : Expr} {td : TE} {apos cpos : Pos}
def tView (td : TE) : TE := fun σ H Q => td σ H fun x H1 => ∃ a kvs, x = .ref a ∧ H1 a = some (.dK kvs) ∧ ∀ r, H1 r = none → Q (.ref r) (upd H1 r (ViewO r a))
theorem pe_view (he : PE X o td) (hbase : attributeBase o "values" X.env (eval o X.env) = eval o X.env := by rfl) (hline : (apos.endLine == cpos.line) = true := by rfl) : PE X (.Call (.Attribute o "values" apos) [] [] cpos) (tView td) := by
  refine ⟨fun pins s σ H Q I h => ?_⟩
  refine wpAny_Call_method0_late hbase hline (thn (he.run pins s σ H _ I h) fun u s1 ⟨x, H1, I1, rx, a, kvs, ex, ha, q⟩ => ?_)
  subst ex
  obtain rfl : u = Value.ref a := rx
  obtain ⟨_, hsys, vs, rel, dof⟩ := dk_of I1.hok ha
  refine ⟨"dict", "dict.values", F.plainAttrs_dict, F.slot_dict_values, F.type_dict_values, dof.typeIs, dof.mapOf.noDict, Calls.callWith_builtin rfl (PySem.evalArgs_none ?_)⟩
  refine call_meetsIn F.slot_dict_values dof.typeIs F.entry_dict_values (F.args_dict_values_1 _) (meets_dict_values (mixKind X.prog X.w) a hsys) ⟨⟨vs, dof⟩, ?_⟩
  refine ⟨.ref s1.heap.objs.size, _, I1.laid (a := s1.heap.objs.size) (o := ViewO s1.heap.objs.size a) (t' := s1.toks) (fun _ _ q => Heap.get?_push_of_some _ q) (Nat.le_refl _) ?_, rfl, q _ (I1.hok.fresh (Nat.le_refl _))⟩
  refine ⟨⟨_, Heap.get?_push_size _ rfl, rfl, rfl⟩, ⟨_, Heap.get?_push_size _ rfl⟩, fun h1 h2 z k => ?_⟩
  obtain ⟨ov, z1, z2⟩ := z
  exact ⟨ov, k ov z1, z2⟩
theorem call_list_view (hc : X.calm = true) : CallR X (.type "list") (fun xs H Q => ∃ r a kvs, xs = [.ref r] ∧ H r = some (ViewO r a) ∧ H a = some (.dK kvs) ∧ ∀ l, H l = none → Q (.ref l) (upd H l (.lst (kvs.map (·.2))))) := by
  intro pins s σ H xs us Q I r h
  obtain ⟨r', a, kvs, rfl, hr, ha, q⟩ := h
  obtain ⟨u, rfl, rx⟩ := vals1 r
  obtain rfl : u = Value.ref r' := rx
  obtain ⟨hl, hsys, vs, rel, dof⟩ := dk_of I.hok ha
  obtain ⟨es, ep, raw, hsz, ent⟩ := dof.raw
  have hlen : vs.length = kvs.length := (KV.length rel).symm
  refine PySem.W.kdl_call (KdlSrc.rawValues (es := es) (ep := ep)) (I.ok.hd hc) ⟨(I.hok r' _ hr).1, raw⟩ (by rw [hsz, hlen]; exact hl) fun h' tk acc' c' hk hS' hacc => ?_
  have hv : Vals (kvs.map (·.2)) acc'.toList := by
    have key : ∀ (l : List (Key × V)) (ys : List Value), ys.length = l.length → (∀ (j : Nat) y, ys[j]? = some y → ∃ kx, l[j]? = some kx ∧ RelV kx.2 y) → Vals (l.map (·.2)) ys := by
      intro l
      induction l with
      | nil =>
        intro ys e _
        rw [List.length_eq_zero_iff.mp e]
        exact .nil
      | cons c l ih =>
        intro ys e hy
        cases ys with
        | nil => simp at e
        | cons y ys =>
          obtain ⟨kx, e1, e2⟩ := hy 0 y rfl
          cases (Option.some.inj e1)
          exact .cons e2 (ih ys (by simpa using e) fun j v hv => hy (j + 1) v (by simpa using hv))
    refine key _ _ (by rw [Array.length_toList, hacc.1, hsz, hlen]) fun j y hy => ?_
    obtain ⟨hj, e⟩ := hacc.2 j y (by simpa using hy)
    have hj' : j < vs.length := by rw [← hsz]; exact hj
    obtain ⟨_, e2⟩ := ent j hj _ _ (List.getElem?_eq_getElem hj')
    obtain ⟨x, x1, x2⟩ := kv_at rel _ (List.getElem?_eq_getElem hj')
    refine ⟨_, x1, ?_⟩
    rw [e, e2]
    exact x2
  refine ⟨.ref s.heap.objs.size, _, I.laid (t' := tk) hk (Nat.le_refl _) (show ObjOk X.prog X.w _ h' _ (.lst (kvs.map (·.2))) from ⟨by rw [List.length_map]; exact hl, acc'.toList, c', hv, by simpa using hS'⟩), rfl, q _ (I.hok.fresh (Nat.le_refl _))⟩
/-- repr(flag) -/
theorem call_repr_bl : CallR X (.builtin "repr") (fun xs H Q => ∃ b, xs = [.bl b] ∧ Q (.str (if b then "True" else "False")) H) := by
  intro pins s σ H xs us Q I r h
  obtain ⟨b, rfl, q⟩ := h
  obtain ⟨u, rfl, rx⟩ := vals1 r
  cases rx
  exact PySem.P.repr_of_bool ⟨.str _, H, I.tok _, ⟨_, rfl⟩, q⟩
end
/-! ### enumerate over the keys of a dict -/
section
variable {prog : Program} {w : World} {A : Around} {E : Value → Shared → Prop} {s : Shared}
theorem next_key {it d : Addr} {i ep : Nat} {es : Array DictEntry} {Q : Value → Shared → Prop} (hit : s.heap.IsKeyIter it d i es.size ep) (hm : s.heap.DictRaw d es ep) (hi : i < es.size)
    (hQ : ∀ h', h'.IsKeyIter it d (i + 1) es.size ep → Heap.SameBut it s.heap h' → Q es[i].key { s with heap := h' }) : wpAny (model prog w) A (Builtin.SmallTypes.nextOf (.ref it)) Q E s := by
  obtain ⟨o, e1, e2, e3⟩ := id hit
  obtain ⟨od, d1, d2, d3⟩ := id hm
  have ty := hit.typeIs
  have own : Builtin.Dict_items.ownsTuple "dict_keyiterator" = false := by decide
  unfold Builtin.SmallTypes.nextOf
  refine wpAny_bind (wpAny_callSpecial?_slot (name := Str.ofString "__next__") ty F.slot_dict_keyiterator_next (wpAny_call_entry F.slot_dict_keyiterator_next ty F.entry_dict_keyiterator_next (wpAny_bind (wpAny_pure (wpAny_bind (wpAny_bind ?_)))) (F.args_dict_keyiterator_next_1 _)))
  first | refine wpAny_bind (wpAny_typeNameOfWhole_keyiter ty (wpAny_pure (wpAny_bind (wpAny_fieldsOf e1 e3 ?_)))) | refine wpAny_bind (wpAny_typeNameOf_keyiter ty (wpAny_pure (wpAny_bind (wpAny_fieldsOf e1 e3 ?_))))
  simp only [own, Bool.false_eq_true, if_false]
  refine wpAny_ite_false rfl (wpAny_bind (wpAny_pure (wpAny_bind (wpAny_dictEntries d1 d3 ?_))))
  rw [if_neg (by simp)]
  refine wpAny_bind (wpAny_pure (wpAny_bind (wpAny_dictEpoch d1 d3 ?_)))
  rw [if_neg (by simp)]
  refine wpAny_pure ?_
  have n0 : ¬ ((i : Int) < 0) := by omega
  simp only [n0, if_false, Int.toNat_natCast, Array.getElem?_eq_getElem hi]
  refine wpAny_bind ?_
  first | refine wpAny_bind (wpAny_typeNameOfWhole_keyiter ty (wpAny_pure (wpAny_bind (wpAny_isOneOf_keyiter ty ?_)))) | refine wpAny_bind (wpAny_typeNameOf_keyiter ty (wpAny_pure (wpAny_bind (wpAny_isOneOf_keyiter ty ?_))))
  show wpAny _ _ (setField (.ref it) 1 (rawInt ((i : Int) + 1)) >>= _) _ _ s
  have nx : (s.heap.update it (Obj.mapFields (·.setIfInBounds 1 (rawInt ((i : Int) + 1))))).IsKeyIter it d (i + 1) es.size ep :=
    ⟨_, Heap.get?_update_self _ e1 (Obj.isFreed_of_fields (Obj.data_mapFields e3 _)), (Obj.cls_mapFields ..).trans e2, by rw [Obj.data_mapFields e3]; simp [rawInt]⟩
  refine wpAny_bind (wpAny_setField e1 e3 (by simp) (wpAny_bind (wpAny_holding (wpAny_bind (wpAny_isOneOf_keyiter (s := { s with heap := s.heap.update it (Obj.mapFields (·.setIfInBounds 1 (rawInt ((i : Int) + 1)))) }) nx.typeIs ?_)))))
  show wpAny _ _ (pure es[i].key) _ _ _
  exact wpAny_pure (wpAny_pure ⟨_, rfl, wpAny_pure (hQ _ nx (Heap.SameBut.update ..))⟩)
theorem next_keyE {it d : Addr} {i ep : Nat} {es : Array DictEntry} {Q : Value → Shared → Prop} (hh : A.handled = none) (hit : s.heap.IsKeyIter it d i es.size ep) (hm : s.heap.DictRaw d es ep) (hi : es.size ≤ i)
    (hE : ∀ h' e, Heap.ExtBut it s.heap h' → (∃ o, h'.get? e = some o ∧ o.cls = .type "StopIteration") → E (.ref e) { s with heap := h' }) : wpAny (model prog w) A (Builtin.SmallTypes.nextOf (.ref it)) Q E s := by
  obtain ⟨o, e1, e2, e3⟩ := id hit
  obtain ⟨od, d1, d2, d3⟩ := id hm
  have ty := hit.typeIs
  have own : Builtin.Dict_items.ownsTuple "dict_keyiterator" = false := by decide
  unfold Builtin.SmallTypes.nextOf
  refine wpAny_bind (wpAny_callSpecial?_slot (name := Str.ofString "__next__") ty F.slot_dict_keyiterator_next (wpAny_call_entry F.slot_dict_keyiterator_next ty F.entry_dict_keyiterator_next (wpAny_bind (wpAny_pure (wpAny_bind (wpAny_bind ?_)))) (F.args_dict_keyiterator_next_1 _)))
  first | refine wpAny_bind (wpAny_typeNameOfWhole_keyiter ty (wpAny_pure (wpAny_bind (wpAny_fieldsOf e1 e3 ?_)))) | refine wpAny_bind (wpAny_typeNameOf_keyiter ty (wpAny_pure (wpAny_bind (wpAny_fieldsOf e1 e3 ?_))))
  simp only [own, Bool.false_eq_true, if_false]
  refine wpAny_ite_false rfl (wpAny_bind (wpAny_pure (wpAny_bind (wpAny_dictEntries d1 d3 ?_))))
  rw [if_neg (by simp)]
  refine wpAny_bind (wpAny_pure (wpAny_bind (wpAny_dictEpoch d1 d3 ?_)))
  rw [if_neg (by simp)]
  refine wpAny_pure ?_
  have n0 : ¬ ((i : Int) < 0) := by omega
  simp only [n0, if_false, Int.toNat_natCast, Array.getElem?_eq_none hi]
  refine wpAny_bind ?_
  first | refine wpAny_bind (wpAny_typeNameOfWhole_keyiter ty (wpAny_pure ?_)) | refine wpAny_bind (wpAny_typeNameOf_keyiter ty (wpAny_pure ?_))
  show wpAny _ _ (setField (.ref it) 0 .none >>= _) _ _ s
  refine wpAny_bind (wpAny_setField e1 e3 (by simp) ?_)
  show wpAny _ _ (newExc (.type "StopIteration") [] >>= _) _ _ _
  refine wpAny_bind ?_
  simp only [newExc, newTuple]
  refine wpAny_bind (wpAny_newObj_type (wpAny_bind (m := firstArgMember _ _) (wpAny_of_eq (a := Value.none) (by first | rfl | (simp only [firstArgMember]; rfl)) (wpAny_newObj_type ?_ (by size_fits)))) (by size_fits))
  simp only [raiseNew]
  refine wpAny_bind (wpAny_handled ?_)
  first | rw [show A.in1.handled = none from hh] | rw [hh]
  exact wpAny_bind (wpAny_pure (wpAny_throw (hE _ _ (((Heap.SameBut.update ..).extBut.push _).push _) ⟨_, Heap.get?_push_size _ rfl, rfl⟩)))
end
theorem draws_keys {P : Program} {w : World} {A : Around} (hh : A.handled = none) (it d : Addr) (hne : d ≠ it) (es : Array DictEntry) (ep : Nat) :
    Draws P w A it [it, d] es.size (fun i v => ∃ hi : i < es.size, v = es[i].key) (fun i h => h.IsKeyIter it d i es.size ep ∧ h.DictRaw d es ep) where
  live := fun _ _ st => let ⟨o, ho, _⟩ := st.1; ⟨o, ho⟩
  frame := fun _ _ _ st hk => ⟨let ⟨o, ho, r⟩ := st.1; ⟨o, hk it (by simp) o ho, r⟩, st.2.at fun o e => hk d (by simp) o e⟩
  item := fun i s Q E hi st hQ => next_key st.1 st.2 hi fun h' hit hs => hQ _ h' s.toks ⟨hi, rfl⟩ ⟨hit, st.2.at fun o e => hs.extBut d o hne e⟩ hs
  done := fun s Q E st hE => next_keyE hh st.1 st.2 (Nat.le_refl _) hE
theorem begins_keys (d : Addr) (es : Array DictEntry) (ep : Nat) (hd : (d == sysModules) = false) : Begins (.ref d) { cls := .type "dict_keyiterator", data := .fields #[.ref d, .int 0 0, .int es.size 0, .int ep 0] } fun h => h.DictRaw d es ep where
  iter := fun prog w A E s Q hm h => wpAny_pyIter_dict_raw hd hm h
  keeps := fun h h' x hk => x.at fun o e => hk d o e
  free := rfl
/-- the dict at d, locked: its keys -/
theorem src_keys {P : Program} {w : World} {K : PySem.W.Frag} {d it : Addr} {ob : Obj} {kvs : List (Key × V)} {ep : Nat} (hne : d ≠ it) (hep : ∃ es, ob.data = .dict es ep) :
    ESrc P w K (fun H => H d = some (.frz ob (.dK kvs))) (kvs.map fun kv => kV kv.1) d it (fun i h => h.IsKeyIter it d i kvs.length ep) where
  draws := by
    intro X hP hw hK hc pins s σ H I hs
    subst hP hw hK
    obtain ⟨h1, h2, h3, es, ep', vs, hdt, hsz, kv, hm⟩ := I.frzK hs
    obtain ⟨es', e'⟩ := hep
    obtain ⟨e1, e2⟩ := dict_ep hdt e'
    subst e1 e2
    have hl : kvs.length = vs.length := Paired.length kv
    have hz : es'.size = kvs.length := by rw [hsz]
    have D := draws_keys (P := X.prog) (w := X.w) (A := X.A.in1) (I.ok.hd hc) it d hne es' ep
    refine ⟨fun i v => ∃ hi : i < es'.size, v = es'[i].key, fun i h => h.IsKeyIter it d i es'.size ep ∧ h.DictRaw d es' ep, by rw [List.length_map, ← hz]; exact D, fun i h => ⟨by rw [hz]; exact h, ob, h2, h3, hdt⟩, fun i h' h => by rw [← hz]; exact h.1, fun i v x hv hx => ?_⟩
    obtain ⟨hi, rfl⟩ := hv
    rw [List.getElem?_map] at hx
    obtain ⟨p, hp, rfl⟩ := Option.map_eq_some_iff.mp hx
    obtain ⟨k, y⟩ := p
    obtain ⟨u, hu, _⟩ := kv_get kv hp
    obtain ⟨o2, es2, g2, _, dt2, _, pr, _⟩ := hm
    rw [h2] at g2
    cases g2
    obtain ⟨e3, _⟩ := dict_ep hdt dt2
    subst e3
    exact relV_key (show keyIs k es2[i].key = true from (pr.get? (e := es2[i]) (by simp [hi]) hu).1)
  obj := fun i h st => by
    obtain ⟨o, ho, hc, hd⟩ := st
    exact ⟨o, ho, fun v q => by rw [hd] at q; cases q⟩
  keep := fun i h h' st k => let ⟨o, ho, r⟩ := st; ⟨o, k o ho, r⟩
/-- enumerate(d), d a locked dict -/
def iEnumK (ta : TA) : TI := fun σ H R => ta σ H fun vs H1 => ∃ d ob kvs, vs = [.ref d] ∧ H1 d = some (.frz ob (.dK kvs)) ∧ R (ItE (fun H => H d = some (.frz ob (.dK kvs))) (kvs.map fun kv => kV kv.1)) H1
theorem pi_enumK {X : Cx} {e : Expr} {ta : TA} {p pos tpos : Pos} {elts : List Expr} {kk : Nat} (hg : Gl X "enumerate") (hm : X.mg "enumerate" = none) (ha : PA X [e] ta) (hs : starEach [e] X.env = [(false, eval e X.env)] := by rfl) :
    PI X (.Tuple elts kk tpos) (.Call (.Name "enumerate" p) [e] [] pos) (iEnumK ta) := by
  refine ⟨fun pins s σ H R I h => ?_⟩
  refine Call_ (ld_blt I hg hm boot_enumerate (PyProof.Rows.callWith_type1 (thn (ha.run pos pins s σ H _ I h) fun us s1 ⟨vs, H1, I1, r1, q1⟩ => ?_) hs rfl))
  obtain ⟨d, ob, kvs, ex, hq, q⟩ := q1
  subst ex
  cases r1 with
  | cons r rr =>
    cases rr
    cases r
    obtain ⟨h1, h2, h3, es, ep, ws, hdt, hsz, kv, _⟩ := I1.frzK hq
    have hld : d < s1.heap.objs.size := Heap.lt_size h2
    refine enum_begins1 (begins_keys d es ep h1) ⟨ob, h2, h3, hdt⟩ fun h' he hit _ hk => wpAny_pyIter_enum he ?_
    have I2 : Inv X pins σ H1 { s1 with heap := h' } := I1.kept (t' := s1.toks) hk
    refine ⟨s1.heap.objs.size + 1, [s1.heap.objs.size + 1, s1.heap.objs.size], _, _, H1, rfl, I2, turn_enumS (src_keys (d := d) (it := s1.heap.objs.size) (kvs := kvs) (Nat.ne_of_lt hld) ⟨es, hdt⟩) (Nat.succ_ne_self _) (Nat.ne_of_gt (Nat.lt_succ_of_lt hld)), ⟨⟨.none, he⟩, _, hit, rfl, by rw [hsz]; rfl⟩, fun b hb => ?_, q⟩
    have e' : b = s1.heap.objs.size + 1 ∨ b = s1.heap.objs.size := by simpa using hb
    have hle : s1.heap.objs.size ≤ b := by
      rcases e' with z | z
      · rw [z]; exact Nat.le_add_right _ _
      · rw [z]; exact Nat.le_refl _
    exact I1.fpOk hle (I1.hok.fresh hle)
end SR


set_option maxRecDepth 100000
set_option maxHeartbeats 4000000
namespace SR
open PySem PySem.Spec PyProof.Rows L2
/-! A def's promise where no repr is under way: what repr of lists and dicts asks. -/
structure FnG (P : Program) (w : World) (K : PySem.W.Frag) (mg : Str → Option Value) (base : Heap) (k : Nat) (f : Addr) (fd : FuncData) (ps : List Str) (sp : Sp) : Prop where
  len : ∀ vs H Q E, sp vs H Q E → vs.length = ps.length
  run : ∀ (A : Around) (outer : List Env) (s : Shared) (H : Hp) (args : Args) (us : List Value) (vs : List V) (Q : VK) (E : XK), Room k A → A.guards = some [] → Env0 P w K mg base A outer s H → BindsTo s fd args (ps.zip us) → Vals vs us → sp vs H Q E →
    codeAny (model P w) A (.call (.ref f) args) (CR CX0 outer P w H s Q E) s
theorem FnG.of {P : Program} {w : World} {K : PySem.W.Frag} {mg : Str → Option Value} {base : Heap} {k : Nat} {f : Addr} {fd : FuncData} {ps : List Str} {sp : Sp} (F : FnOk P w K mg base CX0 k f fd ps sp) : FnG P w K mg base k f fd ps sp :=
  ⟨F.len, fun A outer s H args us vs Q E hr _ => F.run A outer s H args us vs Q E hr⟩
theorem FnG.mono {P : Program} {w : World} {K : PySem.W.Frag} {mg : Str → Option Value} {base : Heap} {j k : Nat} {f : Addr} {fd : FuncData} {ps : List Str} {sp : Sp} (F : FnG P w K mg base j f fd ps sp) (h : j ≤ k) : FnG P w K mg base k f fd ps sp :=
  ⟨F.len, fun A outer s H args us vs Q E hr => F.run A outer s H args us vs Q E (hr.mono h)⟩
/-- a def by its body; hgd: no repr is under way -/
theorem okG {P : Program} {w : World} {K : PySem.W.Frag} {mg : Str → Option Value} {base : Heap} {x qual : Str} {st : Stmt} {f : Addr} {fd : FuncData} {N ps : List Str} {k : Nat} {sp : Sp} (F : Fun K x qual st f fd) (S : FnScope N ps (defScope st)) (len : ∀ vs H Q E, sp vs H Q E → vs.length = ps.length)
    (hbody : ∀ (cdv : Value) (A : Around) (outer : List Env) (s : Shared) (H : Hp) (vs : List V) (Q : VK) (E : XK), Room k (A.deeper (envOfC qual (defScope st) s.heap.objs.size f cdv)) → (A.deeper (envOfC qual (defScope st) s.heap.objs.size f cdv)).guards = some [] → sp vs H Q E →
      ∃ t, PSs (cxOf CX0 P w K mg base N qual (defScope st) f cdv A outer s H E).nox (defBody st) t ∧ t { nx := fun _ H' => Q .non H', rt := Q } (L2.start N vs) H) : FnG P w K mg base (k + 1) f fd ps sp := by
  obtain ⟨oc, od, kV, doc, pm, an, cdv, ct, osl, rfl, lk, hcd⟩ := F.ex
  refine ⟨len, fun A outer s H args us vs Q E hr hg e0 hb r hsp => ?_⟩
  have inK : K.In s.heap := e0.mod.kin.keeps fun b o e => (e0.bs b o e).1
  have noL : s.heap.NoLimit := e0.mod.nolimit.keeps fun b o e => (e0.bs b o e).1
  refine codeAny_call_function hr.depth (inK _ _ lk) rfl S.co S.gen rfl (PySem.W.codeRec_of inK hcd) (hb _ _ _ _ (wpAny_newFunctionEnv_cells S.kind ?_ ?_))
  · rintro ⟨n, v⟩ hy
    exact (S.par n (List.of_mem_zip hy).1).elim .inl fun q => .inr ⟨q, PySem.W.cellsFrom_some _ _ _ (.inl q)⟩
  · intro env he s1 new
    subst he
    obtain ⟨t, ht, hq⟩ := hbody cdv A outer s H vs Q E (hr.deeper _) hg hsp
    have I : Inv (cxOf CX0 P w K mg base N qual (defScope st) f cdv A outer s H E) [] (L2.start N vs) H s1 := inv_start S hr.hd e0 (len _ _ _ _ hsp) r new
    refine ⟨noL.keeps new.toInCall.keep, codeAny_func (wpAny_mono (ht.nox.run [] s1 (L2.start N vs) H _ I hq) (fun fl s' hs => ?_) fun e s' hs => hs)⟩
    cases fl with
    | ret u =>
      obtain ⟨v, σ', H', J, rv, q⟩ := hs
      exact ⟨v, H', J.os, J.bare, J.base, J.hok, rv, q⟩
    | next =>
      obtain ⟨σ', H', J, q⟩ := hs
      exact ⟨V.non, H', J.os, J.bare, J.base, J.hok, rfl, q⟩
    | brk => exact hs.elim fun _ z => z.elim fun _ z => z.2.elim
    | cont => exact hs.elim fun _ z => z.elim fun _ z => z.2.elim
section
variable {X : Cx} {k : Nat} {f : Addr} {fd : FuncData} {ps : List Str} {sp : Sp}
theorem run_fnG {pins : List (Addr × Obj)} {σ : L2.St} {H : Hp} {s : Shared} {Q : VK} {us : List Value} {vs : List V} (F : FnG X.prog X.w X.K X.mg X.base k f fd ps sp) (hr : Room k X.A) (hg : X.A.guards = some []) (hb : Binds X.K fd ps [])
    (I : Inv X pins σ H s) (r : Vals vs us) (h : sp vs H Q E0) : wpAny (model X.prog X.w) X.A (call (.ref f) us) (EP X pins σ Q) X.xe s := by
  have hl : us.length = ps.length := by rw [← r.length]; exact F.len _ _ _ _ h
  have b := hb s us I.kIn (by simpa using hl)
  rw [List.append_nil] at b
  refine wpAny_call (codeAny_mono (F.run X.A X.stack s H ⟨us, []⟩ us vs Q E0 hr hg I.env0 b r h) fun r s' hq => ?_)
  cases r with
  | error e => exact pass0 pins σ H s e s' I hq
  | ok fl =>
    cases fl with
    | ret u => exact I.after hq
    | next => exact False.elim hq
    | brk => exact False.elim hq
    | cont => exact False.elim hq
/-- a def of the top that may be called where no repr is under way -/
structure CalG (P : Program) (w : World) (K : PySem.W.Frag) (mg : Str → Option Value) (base : Heap) (x : Str) (k : Nat) (ps : List Str) (sp : Sp) : Prop where
  ex : ∃ f fd, FnG P w K mg base k f fd ps sp ∧ mg x = some (.ref f) ∧ PySem.W.keepIn K (.ref f) = true ∧ Binds K fd ps []
theorem pe_calG {x : Str} {e : Expr} {es : List Expr} {t : TA} {p pos : Pos} (C : CalG X.prog X.w X.K X.mg X.base x k ps sp) (hr : Room k X.A) (hgd : X.A.guards = some []) (ha : PA X (e :: es) t) (hg : Gl X x := by rfl) (hdb : (x == ("__debug__" : Str)) = false := by decide)
    (he : starEach (e :: es) X.env = (false, eval e X.env) :: starEach es X.env := by rfl) (hpl : (backTo pos (starEach es X.env)).any (·.1) = false := by rfl) : PE X (.Call (.Name x p) (e :: es) [] pos) (tCall sp [] E0 t) := by
  obtain ⟨f, fd, F, m, kp, b⟩ := C.ex
  refine ⟨fun pins s σ H Q I h => wpAny_Call_Name_kw (ld_glob I hg m (PySem.W.callWith_K (h₀ := X.base) I.ok.mod.kin kp (thn (ha.run pos pins s σ H _ I h) fun us s1 ⟨vs, H1, I1, r, q⟩ => ⟨I1.kIn, ?_⟩) he hpl) hdb)⟩
  have q' : sp (vs ++ []) H1 Q E0 := q
  rw [List.append_nil] at q'
  exact run_fnG F hr hgd b I1 r q'
/-! ### repr of data: None, flags, ints, texts, lists, tuples -/
def rReprD (K : PySem.W.Frag) : List V → Hp → VK → Prop := fun xs H Q => ∃ a d, xs = [.ref a] ∧ Dp K H (.ref a) d ∧ d.showable = true ∧ d.hasDict = false ∧ d.depth ≤ 64 ∧ d.shown.length ≤ sizeLine ∧ Q (.str d.shown) H
theorem call_reprD (hgd : X.A.guards = some []) (hu : X.A.units + 65 < cLine) : CallR X (.builtin "repr") (rReprD X.K) := by
  intro pins s σ H xs us Q I r h
  obtain ⟨a, d, rfl, hd, hs, hn, hdp, hz, q⟩ := h
  obtain ⟨u, rfl, rx⟩ := vals1 r
  obtain ⟨as, rd⟩ := Dp.reads I d _ u hd rx
  obtain rfl : u = Value.ref a := rx
  refine repr_of_reads' rd hs (fun z => by rw [hn] at z; cases z) hgd (by omega) (fun _ _ e => e) (fun h' t tk k => ?_) hz
  exact ⟨.str d.shown, H, I.kept (t' := tk) k, ⟨t, rfl⟩, q⟩
end
end SR

set_option maxRecDepth 100000
set_option maxHeartbeats 4000000
namespace SR
open PySem PySem.Spec PyProof.Rows L2
/-- the law's call, its promise given where no repr is under way -/
theorem law_callG {P : Program} {w : World} {K : PySem.W.Frag} {mg mb : Str → Option Value} {k : Nat} {fa a : Addr} {fd : FuncData} {x : Str} {sp : Sp} {s1 : Shared} {vs : List Value} {ns : List Int}
    (KX : K.In s1.heap) (gns : s1.heap.Ns mainGlobals mg) (bns : s1.heap.Ns builtinsNs mb) (bis : ∀ x : Str, x ≠ "__name__" → mb x = bootBuiltins x) (lim : s1.heap.NoLimit) (g0 : s1.gens = #[])
    (ha : s1.heap.get? a = some { cls := .type "list", data := .seq vs.toArray }) (hi : IntsAre vs ns) (hl : ns.length ≤ sizeLine) (hr : Room k callerA)
    (F : ∀ base : Heap, K.In base → base.Ns mainGlobals mg → FnG P w K mg base k fa fd [x] sp) (hbind : ∀ (s : Shared) (u : Value), BindsTo s fd ⟨[u], []⟩ [(x, u)])
    (hsp : ∀ H : Hp, SqL K H a (ns.map V.int) → sp [.ref a] H (fun v _ => v = .bl true) E0) :
    codeAny (model P w) callerA (.call (.ref fa) ⟨[.ref a], []⟩) (fun r s' => r = .ok (.ret (.bool true)) ∧ OldK s1.heap s'.heap ∧ s'.os = s1.os ∧ AllBare s'.gens) s1 := by
  have core : ∀ H : Hp, SqL K H a (ns.map V.int) → HOk P w H s1.heap → (∀ b u, H b = some u → b = a ∧ K.lookup a = none ∧ ∃ ob xs, u = .frz ob (.lst xs)) →
      codeAny (model P w) callerA (.call (.ref fa) ⟨[.ref a], []⟩) (fun r s' => r = .ok (.ret (.bool true)) ∧ OldK s1.heap s'.heap ∧ s'.os = s1.os ∧ AllBare s'.gens) s1 := by
    intro H hS ok only
    have free : ∀ {b : Addr} {o : Obj}, s1.heap.get? b = some o → (b = a → False) → (hidT s1.heap H).get? b = some o := fun {b o} e n => hidT_get e (by
      cases z : H b with
      | none => rfl
      | some u => exact (n (only b u z).1).elim)
    have notD : ∀ {b : Addr} {o : Obj} {es : Array DictEntry} {ep : Nat}, s1.heap.get? b = some o → o.data = .dict es ep → b = a → False := fun {b o es ep} e d z => by
      subst z
      rw [ha] at e
      cases e
      cases d
    have ns' : ∀ {b : Addr} {m : Str → Option Value}, s1.heap.Ns b m → (hidT s1.heap H).Ns b m := fun {b m} ⟨o, es, ep, e, d, r⟩ => ⟨o, es, ep, free e (notD e d), d, r⟩
    have kin : K.In (hidT s1.heap H) := fun b o e => hidT_get (KX b o e) (by
      cases z : H b with
      | none => rfl
      | some u =>
        obtain ⟨z1, z2, _⟩ := only b u z
        rw [z1, z2] at e
        cases e)
    have md : Mod K mg (hidT s1.heap H) := ⟨kin, ns' gns, ⟨mb, ns' bns, bis⟩, let ⟨mc, h1, h2⟩ := lim; ⟨mc, ns' h1, h2⟩⟩
    have en : Env0 P w K mg (hidT s1.heap H) callerA [] s1 H := ⟨rfl, md, fun b o e => of_hidT e, Nat.le_of_eq (hidT_size _ _), trivial, fun b hb => absurd (show b ∈ ([] : List Addr) from hb) (by simp), ok, .of_eq g0⟩
    refine codeAny_mono ((F _ kin (ns' gns)).run callerA [] s1 H ⟨[.ref a], []⟩ [.ref a] [.ref a] _ _ hr rfl en (hbind s1 (.ref a)) (.cons rfl .nil) (hsp H hS)) fun r s' h => ?_
    cases r with
    | error e => exact False.elim h
    | ok fl =>
      cases fl with
      | next => exact False.elim h
      | brk => exact False.elim h
      | cont => exact False.elim h
      | ret u =>
        obtain ⟨v, H', os, bare, un, ok', rel, q⟩ := h
        obtain rfl : v = .bl true := q
        obtain rfl : u = Value.bool true := rel
        refine ⟨rfl, OldK.of_keep fun b o e => ?_, os, bare⟩
        cases z : H b with
        | none => exact un.keep b o e z (by intro z; exact absurd (show b ∈ ([] : List Addr) from z) (by simp)) (by simp)
        | some u =>
          obtain ⟨_, _, ob, xs, rfl⟩ := only b u z
          obtain ⟨e1, _⟩ := ok b _ z
          obtain ⟨e2, _⟩ := ok' b _ (un.frzs b ob _ z)
          rw [e] at e1
          cases e1
          exact e2
  have rv := vals_ints hi
  cases hk : K.lookup a with
  | some o =>
    have e := KX a o hk
    rw [ha] at e
    cases e
    exact core (fun _ => none) (.inr ⟨_, vs.toArray, _, hk, rfl, rfl, rfl, by rw [List.size_toArray, hi.length]; exact hl, by simpa using rv⟩) (fun b u z => nomatch z) (fun b u z => nomatch z)
  | none =>
    refine core (fun b => if b = a then some (.frz { cls := .type "list", data := .seq vs.toArray } (.lst (ns.map V.int))) else none) (.inl (.inr ⟨_, if_pos rfl⟩)) (fun b u z => ?_) (fun b u z => ?_)
    · revert z
      show (if b = a then some _ else none) = some u → _
      split
      · rename_i hb
        subst hb
        rintro ⟨⟩
        exact ⟨ha, by rw [List.length_map]; exact hl, vs, _, rv, ha⟩
      · rintro ⟨⟩
    · revert z
      show (if b = a then some _ else none) = some u → _
      split
      · rename_i hb
        rintro ⟨⟩
        exact ⟨hb, hk, _, _, rfl⟩
      · rintro ⟨⟩
theorem walk_ofG {l : PySem.W.OpenLaw} {n k : Nat} {q : Program} {loose : List Str} {XP : (Str → Option Value) → Heap → Prop} {YP : World → Heap → Prop} {d : DefRec} {K : Params → PySem.W.Frag} {sp : World → Sp} {x : Str}
    (hn : l.most = some n) (hn2 : n ≤ sizeLine) (hdf : d.params.defaults = []) (hr : Room k callerA) (hY : ∀ (w : World) (h : Heap), YP w h → (K w.params).In h)
    (F : ∀ (w : World) (mg : Str → Option Value) (fa : Addr) (h : Heap), (K w.params).In h → h.Ns mainGlobals mg → mg d.name = some (.ref fa) → ∃ fd : FuncData, (∀ (s : Shared) (u : Value), BindsTo s fd ⟨[u], []⟩ [(x, u)]) ∧
      ∀ base : Heap, (K w.params).In base → base.Ns mainGlobals mg → FnG l.prog w (K w.params) mg base k fa fd [x] (sp w))
    (hsp : ∀ (w : World) (H : Hp) (a : Addr) (ns : List Int), ns.length ≤ n → SqL (K w.params) H a (ns.map V.int) → sp w [.ref a] H (fun v _ => v = .bl true) E0) :
    PySem.W.WalkO q loose XP YP l.row.toRowW d [] (fun f vs => PySem.call f vs) := by
  refine Att.attach_call hn hdf fun w s0 s1 mg mb fa o pm cd doc a vs ns G Y ho hd hcd hmg hobj hints hlen hg => ?_
  obtain ⟨fd, hb, hF⟩ := F w mg fa _ (hY w _ Y) G.T.g hmg
  exact law_callG (hY w _ Y) G.T.g G.T.b G.T.builtins G.T.nolimit hg hobj hints (Nat.le_trans hlen hn2) hr hF hb fun H hS => hsp w H a ns hlen hS
end SR

set_option maxRecDepth 100000
set_option maxHeartbeats 4000000
namespace SR
open PySem PySem.Spec PyProof.Rows L2
/-! ## own exceptions over any of the built-in bases, whose __init__ calls the base's __init__ and then stores -/
/-- own classes, then the base's classes -/
inductive Abv (T : List Value) : List Value → Prop
  | base : Abv T T
  | up {c : Addr} {r : List Value} : Abv T r → Abv T (.ref c :: r)
/-- what a built-in base brings -/
structure BaseX (B newId initId : String) (T : List Value) : Prop where
  exc : ExcBaseFacts B newId initId T
  pass : ∀ self : Value, refuseLoop self "__setattr__" T = pure ()
  ob : T.contains (.type "object") = true
  ne : T.isEmpty = false
abbrev tlR : List Value := [.type "RuntimeError", .type "Exception", .type "BaseException", .type "object"]
abbrev tlV : List Value := [.type "ValueError", .type "Exception", .type "BaseException", .type "object"]
theorem baseR : BaseX "RuntimeError" "RuntimeError.__new__" "RuntimeError.__init__" tlR := ⟨PySem.F.excBase_RuntimeError, PySem.F.store_RuntimeError.passes, by decide +kernel, rfl⟩
theorem baseV : BaseX "ValueError" "ValueError.__new__" "ValueError.__init__" tlV := ⟨PySem.F.excBase_ValueError, PySem.F.store_ValueError.passes, by decide +kernel, rfl⟩
section
variable {T l : List Value}
theorem Abv.pass (h : ∀ self : Value, refuseLoop self "__setattr__" T = pure ()) (a : Abv T l) (self : Value) : refuseLoop self "__setattr__" l = pure () := by
  induction a with
  | base => exact h self
  | up _ ih => rw [refuseLoop_ref]; exact ih
theorem Abv.cont (a : Abv T l) (X : String) : l.contains (.type X) = T.contains (.type X) := by
  induction a with
  | base => rfl
  | up _ ih => rw [List.contains_cons, ih]; rfl
theorem Abv.ne (h : T.isEmpty = false) (a : Abv T l) : l.isEmpty = false := by
  cases a with
  | base => exact h
  | up _ => rfl
end
section
open Builtin Builtin.ObjectAttr
variable {prog : Program} {w : World} {A : Around} {E : Value → Shared → Prop} {R : Result → Shared → Prop} {hp : Heap} {g : Array GenState} {d : Drawn} {t : Nat} {os : OsState} {B newId initId : String} {T : List Value}
/-- the way to an exception's own dict -/
theorem osa_way (bx : BaseX B newId initId T) {K : PySem.W.Frag} {name : Str} {tk : Tok} {v : Value} {x C : Addr} {dx : Option Addr} {od : Option Obj} {fv : Array Value} {cd : ClassData} (X : K.In hp)
    (I : PySem.W.InstAt hp x { cls := .ref C, dict := dx, data := .fields fv } C od) (hcd : PySem.W.clsIn K C = some cd) (hm : Abv T cd.mro) (ha : PySem.W.findIn K (.ref C) name = some none)
    (h : wpAny (model prog w) A.in1 (storeInOwnDict (.ref x) (.ref C) (.str name tk) name v false) (fun fin s' => match fin with | .done f => R (.ok f) s' | .again c' => c'.quiet = true ∧ codeAny (model prog w) A c' R s') (fun e s' => R (.error e) s') ⟨hp, g, d, t, os⟩) :
    codeAny (model prog w) A (.call (.builtin "object.__setattr__") ⟨[.ref x, .str name tk, v], []⟩) R ⟨hp, g, d, t, os⟩ := by
  have SF := F.store_object
  have hob : cd.mro.contains (.type "object") = true := (hm.cont "object").trans bx.ob
  have sub : PySem.W.Looks (model prog w) hp (isInstance (.ref x) (.type "object")) true := I.type.andThen (PySem.W.looks_mroIn X (by unfold PySem.W.mroIn; rw [hcd, Option.bind_some, if_neg (by rw [hm.ne bx.ne]; decide), hob]))
  refine codeAny_call_builtin SF.slot.plain SF.entry (@PySem.W.check_slot (model prog w) _ _ ⟨hp, g, d, t, os⟩ "object.__setattr__" "object" "__setattr__" (.ref x) [.str name tk, v] [] _ SF.kind SF.split sub (SF.args (.ref x) (.str name tk) v) ?_)
  have hmr : PySem.W.Looks (model prog w) hp (mroOf (.ref C)) cd.mro := (PySem.W.looks_clsIn X hcd).andThen .now
  have L3 : PySem.W.Looks (model prog w) hp (storeTaker? none) none := .now
  rw [PySem.W.osa_eq, refuse_eq]
  refine wpAny_bind (wpAny_bind (I.type.at (wpAny_bind (hmr.at ?_))))
  rw [hm.pass bx.pass]
  refine wpAny_pure (wpAny_bind (I.type.at (wpAny_bind ((PySem.W.looks_findIn X ha).at (wpAny_bind (L3.at ?_))))))
  exact h
/-- the first field -/
theorem osa_first (bx : BaseX B newId initId T) {K : PySem.W.Frag} {name : Str} {tk : Tok} {v : Value} {x C : Addr} {fv : Array Value} {cd : ClassData} (X : K.In hp) (hx : hp.get? x = some { cls := .ref C, data := .fields fv }) (hcd : PySem.W.clsIn K C = some cd) (hm : Abv T cd.mro) (hh : cd.hasDict = true)
    (ha : PySem.W.findIn K (.ref C) name = some none)
    (hq : ∀ h' tk' dx, (∀ b o, b ≠ x → hp.get? b = some o → h'.get? b = some o) → hp.objs.size ≤ dx → dx ≠ x → h'.get? x = some { cls := .ref C, dict := some dx, data := .fields fv } → h'.Ns1 dx (fun y => if y = name then some v else none) → R (.ok (.ret .none)) ⟨h', g, d, tk', os⟩) :
    codeAny (model prog w) A (.call (.builtin "object.__setattr__") ⟨[.ref x, .str name tk, v], []⟩) R ⟨hp, g, d, t, os⟩ := by
  have hxs : x ≠ hp.objs.size := Nat.ne_of_lt (Heap.lt_size hx)
  have hcls : PySem.W.Looks (model prog w) hp (classData C) cd := PySem.W.looks_clsIn X hcd
  refine osa_way bx X (od := none) ⟨hx, rfl, rfl, trivial⟩ hcd hm ha ?_
  obtain ⟨nm, bs, mro, ns, qn, hd, sn, sb, ab, col, del⟩ := cd
  dsimp only at hh
  subst hh
  unfold storeInOwnDict ownDictForStores
  repeat (first | with_reducible refine HandSPX.store_in_new ?_ ?_ | with_reducible refine wpAny_loadPart_at hx ?_ | with_reducible refine hcls.at ?_ | wp_step)
  · exact ⟨_, #[], _, (Heap.get?_update_ne _ _ _ _ hxs.symm).trans (Heap.get?_push_at rfl rfl), rfl, fun e he => absurd he (by simp), fun _ => rfl⟩
  · intro h' tk' hn' hs
    have hx₁ : (hp.push { cls := .type "dict", data := .dict #[] }).get? x = some { cls := .ref C, data := .fields fv } := Heap.get?_push_of_some _ hx
    exact hq h' tk' hp.objs.size (fun b o hb ho => (hs.2 b (Nat.ne_of_lt (Heap.lt_size ho))).trans ((Heap.get?_update_ne _ _ _ _ hb).trans (Heap.get?_push_of_some _ ho))) (Nat.le_refl _) hxs.symm ((hs.2 x hxs).trans (Heap.get?_update_self _ hx₁ rfl)) hn'
/-- a further field -/
theorem osa_more (bx : BaseX B newId initId T) {K : PySem.W.Frag} {name : Str} {tk : Tok} {v : Value} {x C dx : Addr} {fv : Array Value} {cd : ClassData} {m0 : Str → Option Value} {nl : List Str} (X : K.In hp) (hx : hp.get? x = some { cls := .ref C, dict := some dx, data := .fields fv })
    (hns : hp.Ns1 dx m0) (hw : Within m0 nl) (hz : nl.length ≤ 1000) (hcd : PySem.W.clsIn K C = some cd) (hm : Abv T cd.mro) (hh : cd.hasDict = true) (ha : PySem.W.findIn K (.ref C) name = some none)
    (hq : ∀ h' tk', (∀ b o, b ≠ dx → hp.get? b = some o → h'.get? b = some o) → h'.Ns1 dx (fun y => if y = name then some v else m0 y) → R (.ok (.ret .none)) ⟨h', g, d, tk', os⟩) :
    codeAny (model prog w) A (.call (.builtin "object.__setattr__") ⟨[.ref x, .str name tk, v], []⟩) R ⟨hp, g, d, t, os⟩ := by
  obtain ⟨oD, esD, epD, hoD, hdD, _⟩ := hns.count hw
  have hcls : PySem.W.Looks (model prog w) hp (classData C) cd := PySem.W.looks_clsIn X hcd
  refine osa_way bx X (od := some oD) ⟨hx, rfl, rfl, hoD⟩ hcd hm ha ?_
  obtain ⟨nm, bs, mro, ns, qn, hd, sn, sb, ab, col, del⟩ := cd
  dsimp only at hh
  subst hh
  unfold storeInOwnDict ownDictForStores
  repeat (first | with_reducible refine OEX.store_in_old hns hw hz ?_ | with_reducible refine wpAny_loadPart_at hx ?_ | with_reducible refine hcls.at ?_ | wp_step)
  intro h' tk' hn' hs
  exact hq h' tk' (fun b o hb ho => (hs.2 b hb).trans ho) hn'
end
/-- what the written part says of the class -/
structure OexB (newId : String) (T : List Value) (K : PySem.W.Frag) (C : Addr) : Prop where
  cls : ∃ nm q N bs bm sn sub ab col dd k0 k1 k2 k3 k5, K.lookup C = some (excClassObj nm q C N bs bm true sn sub ab col dd k0 k1 k2 k3 k5 newId) ∧ Abv T bm
  sa : PySem.W.findIn K (.ref C) "__setattr__" = some (some (.builtin "object.__setattr__"))
  exC : PySem.W.subIn K (.ref C) (.type "BaseException") = some true
  tyC : PySem.W.typeIn K (.ref C) = some (.type "type")
  kC : PySem.W.keepIn K (.ref C) = true
section
variable {X : Cx} {pins : List (Addr × Obj)} {σ : L2.St} {H : Hp} {s : Shared} {a C dx : Addr} {f : Str} {y : V} {u : Value} {fs : List (Str × V)} {Q : Unit → Shared → Prop} {E : Value → Shared → Prop} {A : Around} {B newId initId : String} {T : List Value}
theorem OexB.cd (O : OexB newId T X.K C) : ∃ cd, PySem.W.clsIn X.K C = some cd ∧ Abv T cd.mro ∧ cd.hasDict = true := by
  obtain ⟨nm, q, N, bs, bm, sn, sub, ab, col, dd, k0, k1, k2, k3, k5, hC, hbm⟩ := O.cls
  exact ⟨{ name := nm, bases := bs, mro := .ref C :: bm, ns := N, qualname := q, hasDict := true, slotNames := sn, subclasses := sub, abstract := ab, collection := col, hasDel := false }, by unfold PySem.W.clsIn; rw [hC] <;> rfl, .up hbm, rfl⟩
theorem ostB_new (bx : BaseX B newId initId T) (O : OexB newId T X.K C) (I : Inv X pins σ H s) (e : H a = some (exo a C none)) (hno : PySem.W.findIn X.K (.ref C) f = some none) (ry : RelV y u)
    (h : ∀ dx s', H dx = none → dx ≠ a → Inv X pins σ (upd (upd H dx (exd dx [(f, y)])) a (exo a C (some dx))) s' → Q () s') : wpAny (model X.prog X.w) A (setAttr (.ref a) f u) Q E s := by
  obtain ⟨cd, hcl, hbm, hhd⟩ := O.cd
  obtain ⟨t1, ho⟩ := exo_at I.hok e
  obtain ⟨hp, g, d, t, os⟩ := s
  refine PySem.W.set_plain I.kIn (ox := { cls := .ref C, dict := none, data := .fields #[.ref t1, .none, .none, .none, .bool false, .none] }) (od := none) ⟨ho, rfl, rfl, trivial⟩ O.sa ?_
  refine osa_first bx I.kIn ho hcl hbm hhd hno (fun h' tk' dx k dn dne hx hn => ?_)
  have hnd : H dx = none := I.hok.fresh dn
  have nd : ∀ {b : Addr} {o : Obj}, hp.get? b = some o → b ≠ dx := fun {b o} q => Nat.ne_of_lt (Nat.lt_of_lt_of_le (Heap.lt_size q) dn)
  have na : ∀ {b : Addr}, H b = none → b ≠ a := fun {b} n z => by rw [z, e] at n; cases n
  have Un1 : Un X.fs [] H (upd (upd H dx (exd dx [(f, y)])) a (exo a C (some dx))) hp h' := {
    keep := fun b o q n _ _ => k b o (na n) q
    slot := fun b o q n _ _ => ⟨o.slots, k b o (na n) q⟩
    free := fun b o q n _ => by rw [upd_ne (na n), upd_ne (nd q)]; exact n
    there := fun b o q _ => by
      by_cases hb : b = a
      · exact ⟨_, by rw [hb]; exact hx⟩
      · exact ⟨o, k b o hb q⟩
    tups := fun b xs q => by rw [upd_ne (at_ne e q exo_tup), upd_ne (ne_of_none q hnd)]; exact q
    frzs := fun b o v q => by rw [upd_ne (at_ne e q exo_frz), upd_ne (ne_of_none q hnd)]; exact q
    tbls := fun b ps q => ⟨#[], by rw [upd_ne (at_ne e q exo_tbl), upd_ne (ne_of_none q hnd), q]; simp⟩ }
  refine h dx _ hnd dne (I.un (t' := tk') Un1 fun b o q => ?_)
  by_cases hb : b = a
  · subst hb
    rw [upd_same] at q
    cases q
    exact exo_ok hx
  · rw [upd_ne hb] at q
    by_cases hd : b = dx
    · subst hd
      rw [upd_same] at q
      cases q
      exact exd_ok hn (relO_put (fs := []) ry fun g => True.intro)
    · rw [upd_ne hd] at q
      exact (I.hok b o q).stay (fun c v hc z => k c v (by
          rcases hc with hc | hc
          · rw [hc]; exact hb
          · exact at_ne e hc exo_own) z)
        (fun c hc => by rw [upd_ne (at_ne e hc exo_own), upd_ne (ne_of_none hc hnd)]; exact hc) (fun c xs hc => by rw [upd_ne (at_ne e hc exo_tup), upd_ne (ne_of_none hc hnd)]; exact hc)
theorem ostB_old (bx : BaseX B newId initId T) (O : OexB newId T X.K C) (I : Inv X pins σ H s) (e : H a = some (exo a C (some dx))) (ed : H dx = some (exd dx fs)) (hl : fs.length ≤ 900) (hno : PySem.W.findIn X.K (.ref C) f = some none) (ry : RelV y u)
    (h : ∀ s', Inv X pins σ (upd H dx (exd dx ((f, y) :: fs))) s' → Q () s') : wpAny (model X.prog X.w) A (setAttr (.ref a) f u) Q E s := by
  obtain ⟨cd, hcl, hbm, hhd⟩ := O.cd
  obtain ⟨t1, ho⟩ := exo_at I.hok e
  obtain ⟨mA, hns, rel⟩ := exd_at I.hok ed
  have hw := within_of rel
  obtain ⟨hp, g, d, t, os⟩ := s
  obtain ⟨oD, _, _, hoD, _, _⟩ := hns.count hw
  refine PySem.W.set_plain I.kIn (ox := { cls := .ref C, dict := some dx, data := .fields #[.ref t1, .none, .none, .none, .bool false, .none] }) (od := some oD) ⟨ho, rfl, rfl, hoD⟩ O.sa ?_
  refine osa_more bx I.kIn ho hns hw (by rw [List.length_map]; omega) hcl hbm hhd hno (fun h' tk' k hn => ?_)
  have hd : ∃ o, h'.get? dx = some o := by
    obtain ⟨o, _, _, e', _⟩ := hn
    exact ⟨o, e'⟩
  exact h _ (I.write (t' := tk') (x := dx) (e := dx) (o := exd dx ((f, y) :: fs)) (by rw [ed]; exact True.intro) (.inl rfl) k hd (exd_ok hn (relO_put ry rel)))
/-- B.__init__(self, ..) -/
theorem oinitB_ok {us : List Value} {Q : Value → Shared → Prop} (bx : BaseX B newId initId T) (O : OexB newId T X.K C) (I : Inv X pins σ H s) (e : H a = some (exo a C none)) (hl : us.length ≤ sizeLine) (h : ∀ s', Inv X pins σ H s' → Q .none s') :
    wpAny (model X.prog X.w) A (call (.builtin initId) (.ref a :: us)) Q E s := by
  obtain ⟨nm, q, N, bs, bm, sn, sub, ab, col, dd, k0, k1, k2, k3, k5, hC, hbm⟩ := O.cls
  obtain ⟨t1, ho⟩ := exo_at I.hok e
  obtain ⟨hp, g, d, t, os⟩ := s
  refine wpAny_call (PySem.HandSPX.init_base bx.exc hbm.cont (I.kIn _ _ hC) ho hl fun h' t2 k hx => ?_)
  have J := I.write (t' := t) (x := a) (e := a) (o := exo a C none) (by rw [e]; exact True.intro) (.inl rfl) k ⟨_, hx⟩ (exo_ok hx)
  have eu : upd H a (exo a C none) = H := by
    funext b
    by_cases hb : b = a
    · rw [hb, upd_same, e]
    · rw [upd_ne hb]
  rw [eu] at J
  exact h _ J
end
/-! ### readings and rules -/
def tIniB (newId : String) (T : List Value) (K : PySem.W.Frag) (ta : TA) : TE := fun σ H Q => ta σ H fun vs H1 => ∃ (a C : Addr) (ws : List V), vs = .ref a :: ws ∧ ws.length ≤ 1000 ∧ OexB newId T K C ∧ H1 a = some (exo a C none) ∧ Q .non H1
def tOstB (newId : String) (T : List Value) (K : PySem.W.Frag) (f : Str) (to te : TE) : TS := fun D σ H => te σ H fun y H1 => to σ H1 fun x H2 => ∃ a C : Addr, x = .ref a ∧ OexB newId T K C ∧ PySem.W.findIn K (.ref C) f = some none ∧
  ((H2 a = some (exo a C none) ∧ ∀ dx, H2 dx = none → dx ≠ a → D.nx σ (upd (upd H2 dx (exd dx [(f, y)])) a (exo a C (some dx)))) ∨
    ∃ (dx : Addr) (fs : List (Str × V)), H2 a = some (exo a C (some dx)) ∧ H2 dx = some (exd dx fs) ∧ fs.length ≤ 900 ∧ D.nx σ (upd H2 dx (exd dx ((f, y) :: fs))))
section
variable {X : Cx} {o e : Expr} {es : List Expr} {to te : TE} {ta : TA} {f : Str} {p p' p1 p2 pos : Pos} {B newId initId : String} {T : List Value}
theorem typ_RE : typeOf (.type "RuntimeError") = pure (.type "type") := by kernel_rfl
/-- RuntimeError.__init__(self, ..) -/
theorem pe_reinit {pl : Sem Bool} (hg : Gl X "RuntimeError") (hm : X.mg "RuntimeError" = none) (vV : PySem.W.findCls X.K (.type "RuntimeError") (.type "type") "__init__" = some (.val (.builtin "RuntimeError.__init__"))) (ha : PA X (e :: es) ta)
    (hc : eval (.Call (.Attribute (.Name "RuntimeError" p1) "__init__" p2) (e :: es) [] pos) X.env = (do
      let ov ← eval (.Name "RuntimeError" p1) X.env
      standAt p2.atName
      let (f, first) ← holding [ov] (getMethod ov "__init__" pl)
      callWith pos f first (backTo pos (starEach (e :: es) X.env)) (backToKw pos (keywordEach [] X.env))) := by rfl)
    (he : starEach (e :: es) X.env = (false, eval e X.env) :: starEach es X.env := by rfl) (hpl : (backTo pos (starEach es X.env)).any (·.1) = false := by rfl) :
    PE X (.Call (.Attribute (.Name "RuntimeError" p1) "__init__" p2) (e :: es) [] pos) (tIniB "RuntimeError.__new__" tlR X.K ta) := by
  refine ⟨fun pins s σ H Q I h => ?_⟩
  refine PySem.W.methodCall_KW (ld_blt I hg hm PyProof.Rows.Boot.«RuntimeError» ?_ (by decide) (by decide)) hc
  obtain ⟨m, fr⟩ := I.fr
  refine PySem.W.method_type fr I.ok.mod.kin typ_RE (by decide +kernel) vV (by decide +kernel) ?_
  show wpAny _ _ (callWith pos (Value.builtin "RuntimeError.__init__") [] (backTo pos (starEach (e :: es) X.env)) []) _ _ _
  refine PyProof.Rows.callWith_method1 (thn (ha.run pos pins _ σ H _ (I.tok _) h) fun us s1 ⟨vs, H1, I1, r1, a, C, ws, ev, hl, O, ea, q⟩ => ?_) he hpl
  subst ev
  cases r1 with
  | @cons _ u0 _ ur ra rw' =>
    obtain rfl : u0 = Value.ref a := ra
    exact oinitB_ok baseR O I1 ea (by rw [← Paired.length rw', sizeLine_eq]; omega) fun s' J => ⟨.non, H1, J, rfl, q⟩
theorem ps_ostB (bx : BaseX B newId initId T) (ho : PE X o to) (he : PE X e te) (hs : swapsWith e (some (.Attribute o f p')) pos.line X.env = pure false := by rfl) : PS X (.Assign [.Attribute o f p'] e pos) (tOstB newId T X.K f to te) := by
  refine ⟨fun pins s σ H D I h => ?_⟩
  refine plainObj_wpAny_Assign_Attribute (thn (he.run pins s σ H _ I h) fun v s1 ⟨y, H1, I1, r1, q1⟩ => thn (ho.run pins s1 σ H1 _ I1 q1) fun u s2 ⟨x, H2, I2, r2, a, C, ex, O, hno, q⟩ => ?_) hs
  subst ex
  obtain rfl : u = Value.ref a := r2
  rcases q with ⟨ea, q⟩ | ⟨dx, fs, ea, ed, hl, q⟩
  · exact ostB_new bx O I2 ea hno r1 fun dx s' n ne J => ⟨σ, _, J, q dx n ne⟩
  · exact ostB_old bx O I2 ea ed hl hno r1 fun s' J => ⟨σ, _, J, q⟩
/-- C(e, ..), C's own __init__ keeping sp -/
theorem pmk_oexB (bx : BaseX B newId initId T) {CX : CXT} {x : Str} {C fI : Addr} {k : Nat} {fd : FuncData} {ps : List Str} {sp : Sp} (O : OexB newId T X.K C) (iC : PySem.W.findIn X.K (.ref C) "__init__" = some (some (.ref fI))) (tI : PySem.W.typeIn X.K (.ref fI) = some (.type "function"))
    (F1 : FnOk X.prog X.w X.K X.mg X.base CX k fI fd ps sp) (hr : Room (k + 1) X.A) (hb : Binds X.K fd ps []) (hx : Passes CX X (fun _ _ _ => False)) (hg : Gl X x) (hm : X.mg x = some (.ref C)) (ha : PA X (e :: es) ta)
    (hdb : (x == ("__debug__" : Str)) = false := by decide) (he : starEach (e :: es) X.env = (false, eval e X.env) :: starEach es X.env := by rfl) (hpl : (backTo pos (starEach es X.env)).any (·.1) = false := by rfl) :
    PMk X (.Call (.Name x p) (e :: es) [] pos) (tMkO C sp [] ta) := by
  intro pins s σ H Q I h
  obtain ⟨nm, q, N, bs, bm, sn, sub, ab, col, dd, k0, k1, k2, k3, k5, hC, hbm⟩ := O.cls
  refine wpAny_Call_Name_kw (ld_glob I hg hm ?_ hdb)
  refine PySem.W.callWith_K (h₀ := X.base) I.ok.mod.kin O.kC (thn (ha.run pos pins s σ H _ I h) fun us s1 ⟨vs, H1, I1, r1, hz, q1⟩ => ⟨I1.kIn, ?_⟩) he hpl
  show wpAny _ _ (call (.ref C) us) _ _ _
  obtain ⟨hp, g, dr, tk, os⟩ := s1
  have hsz : hp.objs.size ≤ hp.objs.size + 1 := Nat.le_succ _
  have hq := q1 (hp.objs.size + 1) (I1.hok.fresh hsz)
  rw [List.append_nil] at hq
  have kk : ∀ b o, hp.get? b = some o → ((hp.push (PySem.W.kdv_tup us)).push (PySem.HandSPX.excO C hp.objs.size)).get? b = some o := fun b o e => Heap.get?_push_of_some _ (Heap.get?_push_of_some _ e)
  have hget : ((hp.push (PySem.W.kdv_tup us)).push (PySem.HandSPX.excO C hp.objs.size)).get? (hp.objs.size + 1) = some (PySem.HandSPX.excO C hp.objs.size) := by heap_get
  have I2 : Inv X pins σ (upd H1 (hp.objs.size + 1) (exo (hp.objs.size + 1) C none)) ⟨(hp.push (PySem.W.kdv_tup us)).push (PySem.HandSPX.excO C hp.objs.size), g, dr, tk, os⟩ :=
    I1.laid (t' := tk) (a := hp.objs.size + 1) (o := exo (hp.objs.size + 1) C none) (h' := (hp.push (PySem.W.kdv_tup us)).push (PySem.HandSPX.excO C hp.objs.size)) kk hsz (exo_ok hget)
  have r2 : Vals (V.ref (hp.objs.size + 1) :: vs) (Value.ref (hp.objs.size + 1) :: us) := .cons rfl r1
  have hl : (Value.ref (hp.objs.size + 1) :: us).length = ps.length := by
    rw [← r2.length]
    exact F1.len _ _ _ _ hq
  have hus : us.length ≤ sizeLine := by rw [← Paired.length r1, sizeLine_eq]; omega
  have bb := hb ⟨(hp.push (PySem.W.kdv_tup us)).push (PySem.HandSPX.excO C hp.objs.size), g, dr, tk, os⟩ (Value.ref (hp.objs.size + 1) :: us) I2.kIn (by simpa using hl)
  rw [List.append_nil] at bb
  refine wpAny_call (PySem.HandSPX.call_own bx.exc hbm.cont (I1.kIn _ _ hC) (PySem.W.looks_findIn I1.kIn iC) (fun self => PySem.W.bind_fn I1.kIn self tI) hus
    (codeAny_mono (F1.run _ X.stack _ _ ⟨Value.ref (hp.objs.size + 1) :: us, []⟩ (Value.ref (hp.objs.size + 1) :: us) _ _ (fun _ _ _ => False) (hr.make C us []) (I2.env0.make C us []) bb r2 hq) fun r s' hq' => ?_))
  cases r with
  | error er => exact hx pins σ _ _ er s' I2 hq'
  | ok fl =>
    cases fl with
    | ret u =>
      obtain ⟨v, H2, os2, bare2, un2, hok2, rv, ev, d, fs, ea, ed, hd1, q2⟩ := hq'
      subst ev
      obtain ⟨h2, g2, d2, t2, os'⟩ := s'
      exact ⟨rv, mk_end (raises_own O.exC O.tyC) I1 hsz kk un2 hok2 os2 bare2 ea ed hd1 q2⟩
    | next => exact False.elim hq'
    | brk => exact False.elim hq'
    | cont => exact False.elim hq'
end
end SR

set_option maxRecDepth 100000
set_option maxHeartbeats 4000000
namespace SR
open PySem PySem.Spec PyProof.Rows
section
open PySem.W PySem.Calls
variable {prog : Program} {w : World} {A : Around} {E : Value → Shared → Prop} {s : Shared} {K : Frag} {x D : Addr} {ox od : Obj}
/-- e.__class__ of an exception that has its dict -/
theorem class_excD {Q : Option Value → Shared → Prop} (C : L2.ExcC K D) (X : K.In s.heap) (I : InstAt s.heap x ox D (some od)) (h : Q (some (.ref D)) { s with toks := s.toks + 1 }) : wpAny (model prog w) A (getAttr? (.ref x) "__class__") Q E s := by
  have hf : findObj K D (some od) "__class__" = some (.bind (.builtin "getset_descriptor.__get__") (.builtin "object.__class__")) := findObj_data (by obtain ⟨cd, hc, _⟩ := any_some C.hd; rw [hc]; rfl) C.ha C.hn C.ht
  obtain ⟨hp, g, d, t, os⟩ := s
  have L0 := I.type (M := model prog w)
  have L3 := looks_find (M := model prog w) X I hf
  have sub : Looks (model prog w) hp (isInstance (.ref x) (.type "BaseException")) true := L0.andThen (looks_subIn X C.hs)
  have hx2 : (Value.builtin "BaseException.__getattribute__" == Value.builtin "object.__getattribute__") = false := by decide +kernel
  have hx1 : (onTheHeap (Value.ref D) && Value.builtin "BaseException.__getattribute__" == Value.builtin "object.__getattribute__") = false := by rw [hx2]; rfl
  unfold getAttr? getAttrBy? getAttrBy
  refine wpAny_bind (wpAny_mkText (wpAny_bind (wpAny_attempt (wpAny_holding (wpAny_bind (L0.at (wpAny_bind ((looks_findIn X C.hg).at ?_))))))))
  show wpAny _ _ (if (onTheHeap (Value.ref D) && Value.builtin "BaseException.__getattribute__" == Value.builtin "object.__getattribute__") = true then _ else _) _ _ _
  rw [hx1, if_neg Bool.false_ne_true]
  unfold getAttrByItsOwn hookBefore
  refine wpAny_bind ?_
  rw [if_pos (show onTheHeap (Value.ref D) = true from rfl)]
  refine (looks_findIn X C.hk).at ?_
  refine wpAny_bind (wpAny_attempt (wpAny_holding ?_))
  unfold callGetattribute
  rw [show (false && onTheHeap (Value.builtin "BaseException.__getattribute__")) = false from rfl, if_neg Bool.false_ne_true]
  unfold boundAndCalled
  rw [PySem.F.excAttr_ValueError.ga.bind (.ref x)]
  refine wpAny_bind (wpAny_pure ?_)
  show wpAny _ _ (call (.builtin "BaseException.__getattribute__") [.ref x, .str "__class__" t]) _ _ _
  refine wpAny_call (codeAny_call_builtin PySem.F.excAttr_ValueError.ga.plain PySem.F.entry_bexc_ga ?_)
  refine @check_slot (model prog w) _ _ ⟨hp, g, d, t + 1, os⟩ "BaseException.__getattribute__" "BaseException" "__getattribute__" (.ref x) [.str "__class__" t] [] _ (by decide +kernel) (by decide +kernel) sub (PySem.F.args_bexc_ga (.ref x) (.str "__class__" t)) ?_
  unfold Builtin.«object.__getattribute__»
  refine wpAny_bind (wpAny_of_eq (a := ((Value.ref x : Value), [Value.str "__class__" t])) (by first | rfl | (simp only [slotArgs]; rfl)) ?_)
  refine wpAny_bind (wpAny_pure (wpAny_bind (L0.at (wpAny_bind (L3.at ?_)))))
  show wpAny _ _ (holding [Value.builtin "object.__class__"] (call (.builtin "getset_descriptor.__get__") [.builtin "object.__class__", .ref x, .ref D]) >>= ret) _ _ _
  refine wpAny_bind (wpAny_holding (wpAny_call (class_get (s := ⟨hp, g, d, t + 1, os⟩) (ox := ox) (od := some od) X I C.hm ?_)))
  refine wpAny_pure ?_
  show wpAny _ _ (handedOut (.ref D)) _ _ _
  rw [handedOut_of (v := .ref D) rfl]
  first
    | exact wpAny_pure (wpAny_pure h)
    | exact wpAny_pure h
    | exact wpAny_pure (wpAny_bind (wpAny_pure (wpAny_pure h)))
theorem kitx_excD (C : L2.ExcC K D) : KitX K (.ref x) (.ref D) (fun h => InstAt h x ox D (some od)) where
  ty := fun _ _ _ I => I.type
  it := fun _ _ X _ => by
    obtain ⟨cdD, hcD, _⟩ := any_some C.hd
    unfold clsIn at hcD
    split at hcD
    · rename_i c' d' cd' sl' ho
      intro A' Q' E' s' k q
      unfold isType loadHead
      exact wpAny_bind (wpAny_loadPart (k _ _ (X _ _ ho)) (wpAny_pure q))
    · cases hcD
  ne := fun h tp dd its n sl X htp => by
    obtain ⟨cdD, hcD, _⟩ := any_some C.hd
    refine Bool.eq_false_iff.mpr fun q => ?_
    have e : D = tp := Value.ref.inj (beq_iff_eq.mp q)
    subst e
    unfold clsIn at hcD
    split at hcD
    · rename_i c' d' cd' sl' ho
      have z := (X _ _ ho).symm.trans htp
      cases z
    · cases hcD
  ca := fun X I k => class_excD C X I k
end
open L2
/-- isinstance(e, c), e the exception that the suite holds, with its dict -/
def rIsED (K : PySem.W.Frag) (D a : Addr) (d : Option Addr) : List V → Hp → VK → Prop := fun xs H Q => ∃ (c : V) (cv : Value) (b : Bool) (dd : Addr) (fs : List (Str × V)), xs = [.ref a, c] ∧ (∀ u, RelV c u → u = cv) ∧ PySem.W.kitOne K (.ref D) cv = some b ∧ d = some dd ∧ H dd = some (.xd fs) ∧ Q (.bl b) H
theorem call_isED {X : Cx} {a D : Addr} {oe : Obj} {d : Option Addr} {cls : Value} {pn : List (Addr × Obj)} (C : ExcC X.K D) (hz : Zc cls d oe) (hc : cls = .ref D) (hf : ∃ vs, oe.data = .fields vs) : CallR (X.suite a ((a, oe) :: pn)) (.builtin "isinstance") (rIsED X.K D a d) := by
  intro pins s σ H xs us Q I r h
  obtain ⟨c, cv, b, dd, fs, rfl, hcv, e, ed, ex, q⟩ := h
  subst hc
  subst ed
  obtain ⟨u1, u2, rfl, r1, r2⟩ := vals2 r
  obtain rfl : u1 = Value.ref a := r1
  have ec := hcv _ r2
  subst ec
  obtain ⟨hget, _⟩ := I.pin (a, oe) (List.mem_append.mpr (.inl List.mem_cons_self))
  obtain ⟨vs, hv⟩ := hf
  have hx : ObjOk X.prog X.w H s.heap dd (.xd fs) := I.hok dd _ ex
  obtain ⟨mA, hns, hr⟩ := hx
  obtain ⟨od, ho, hl⟩ := lookIn_ns hns
  have J : PySem.W.InstAt s.heap a oe D (some od) := ⟨hget, hz.1, by unfold PySem.W.notCls; rw [hv] <;> rfl, by rw [hz.2]; exact ho⟩
  exact PySem.W.kia_one (kitx_excD C) I.kIn J e (fun z => nomatch z) fun tk => ⟨.bl b, H, I.kept (t' := tk) fun _ _ z => z, rfl, q⟩
end SR

set_option maxRecDepth 100000
set_option maxHeartbeats 4000000
namespace SR
open PySem PySem.Spec PyProof.Rows L2
/-! ### sizes of what is shown -/
theorem int_short {i : Int} (h0 : 0 ≤ i) (h1 : i < 40) : (PyData.shown (.int i)).length ≤ 8 := by
  obtain ⟨n, rfl⟩ := Int.eq_ofNat_of_zero_le h0
  have hn : n < 40 := by omega
  have : ∀ m : Nat, m < 40 → (PyData.shown (.int (m : Int))).length ≤ 8 := by decide +kernel
  exact this n hn
theorem int_few {i : Int} (h0 : 0 ≤ i) (h1 : i < 40) : PyData.showable (.int i) = true := by
  simp only [PyData.showable]
  obtain ⟨n, rfl⟩ := Int.eq_ofNat_of_zero_le h0
  have hn : n < 40 := by omega
  have : ∀ m : Nat, m < 40 → decide ((m : Int).natAbs.log2 < 1920) = true := by decide +kernel
  exact this n hn
structure Shw (n k : Nat) (d : PyData) : Prop where
  ls : d.leavesShort 8 = true
  sh : d.showable = true
  bk : d.bulk ≤ n
  dp : d.depth ≤ k
theorem Shw.up {n k n' k' : Nat} {d : PyData} (h : Shw n k d) (hn : n ≤ n') (hk : k ≤ k') : Shw n' k' d := ⟨h.ls, h.sh, Nat.le_trans h.bk hn, Nat.le_trans h.dp hk⟩
theorem Shw.non : Shw 0 0 .none := ⟨by simp only [PyData.leavesShort], by simp only [PyData.showable], by simp only [PyData.bulk]; exact Nat.le_refl _, by simp only [PyData.depth]; exact Nat.le_refl _⟩
theorem Shw.bl (b : Bool) : Shw 0 0 (.bool b) := ⟨by simp only [PyData.leavesShort], by simp only [PyData.showable], by simp only [PyData.bulk]; exact Nat.le_refl _, by simp only [PyData.depth]; exact Nat.le_refl _⟩
theorem Shw.int {i : Int} (h0 : 0 ≤ i) (h1 : i < 40) : Shw 0 0 (.int i) := ⟨by simp only [PyData.leavesShort]; exact decide_eq_true (int_short h0 h1), int_few h0 h1, by simp only [PyData.bulk]; exact Nat.le_refl _, by simp only [PyData.depth]; exact Nat.le_refl _⟩
theorem Shw.str {x : Str} {n : Nat} (h : ∀ c ∈ x.cps.toList, c < 16 ^ 8) (hn : x.cps.size ≤ n) : Shw n 0 (.str x) := ⟨by simp only [PyData.leavesShort]; rw [List.all_eq_true]; exact fun c hc => decide_eq_true (h c hc), by simp only [PyData.showable], by simp only [PyData.bulk]; exact hn, by simp only [PyData.depth]; exact Nat.le_refl _⟩
theorem shw_all {n k : Nat} : ∀ {ds : List PyData}, (∀ d ∈ ds, Shw n k d) → PyData.leavesShortAll 8 ds = true ∧ PyData.showableAll ds = true ∧ PyData.bulkAll ds ≤ ds.length * (n + 1) ∧ PyData.depthAll ds ≤ k
  | [], _ => ⟨by simp only [PyData.leavesShortAll], by simp only [PyData.showableAll], by simp only [PyData.bulkAll]; exact Nat.zero_le _, by simp only [PyData.depthAll]; exact Nat.zero_le _⟩
  | d :: ds, h => by
    obtain ⟨i1, i2, i3, i4⟩ := shw_all (ds := ds) fun e he => h e (List.mem_cons_of_mem _ he)
    obtain ⟨j1, j2, j3, j4⟩ := h d List.mem_cons_self
    refine ⟨?_, ?_, ?_, ?_⟩
    · simp only [PyData.leavesShortAll, i1, j1, Bool.and_self]
    · simp only [PyData.showableAll, i2, j2, Bool.and_self]
    · simp only [PyData.bulkAll, List.length_cons, Nat.succ_mul]
      omega
    · simp only [PyData.depthAll]
      omega
theorem Shw.list {n k m : Nat} {ds : List PyData} (h : ∀ d ∈ ds, Shw n k d) (hm : ds.length ≤ m) : Shw (m * (n + 1)) (k + 1) (.list ds) := by
  obtain ⟨i1, i2, i3, i4⟩ := shw_all h
  have := Nat.mul_le_mul_right (n + 1) hm
  exact ⟨by simp only [PyData.leavesShort]; exact i1, by simp only [PyData.showable]; exact i2, by simp only [PyData.bulk]; omega, by simp only [PyData.depth]; omega⟩
theorem Shw.tup {n k m : Nat} {ds : List PyData} (h : ∀ d ∈ ds, Shw n k d) (hm : ds.length ≤ m) : Shw (m * (n + 1)) (k + 1) (.tuple ds) := by
  obtain ⟨i1, i2, i3, i4⟩ := shw_all h
  have := Nat.mul_le_mul_right (n + 1) hm
  exact ⟨by simp only [PyData.leavesShort]; exact i1, by simp only [PyData.showable]; exact i2, by simp only [PyData.bulk]; omega, by simp only [PyData.depth]; omega⟩
theorem shw_kv {n k : Nat} : ∀ {kvs : List (PyData × PyData)}, (∀ p ∈ kvs, Shw n k p.1 ∧ Shw n k p.2) → PyData.leavesShortKv 8 kvs = true ∧ PyData.showableKv kvs = true ∧ PyData.bulkKv kvs ≤ kvs.length * (2 * n + 2) ∧ PyData.depthKv kvs ≤ k
  | [], _ => ⟨by simp only [PyData.leavesShortKv], by simp only [PyData.showableKv], by simp only [PyData.bulkKv]; exact Nat.zero_le _, by simp only [PyData.depthKv]; exact Nat.zero_le _⟩
  | (a, b) :: kvs, h => by
    obtain ⟨i1, i2, i3, i4⟩ := shw_kv (kvs := kvs) fun e he => h e (List.mem_cons_of_mem _ he)
    obtain ⟨⟨j1, j2, j3, j4⟩, ⟨l1, l2, l3, l4⟩⟩ := h (a, b) List.mem_cons_self
    refine ⟨?_, ?_, ?_, ?_⟩
    · simp only [PyData.leavesShortKv, i1, j1, l1, Bool.and_self]
    · simp only [PyData.showableKv, i2, j2, l2, Bool.and_self]
    · simp only [PyData.bulkKv, List.length_cons]
      rw [Nat.succ_mul (kvs.length)]
      simp only at j3 l3
      omega
    · simp only [PyData.depthKv]
      simp only at j4 l4
      omega
theorem Shw.dict {n k m : Nat} {kvs : List (PyData × PyData)} (h : ∀ p ∈ kvs, Shw n k p.1 ∧ Shw n k p.2) (hm : kvs.length ≤ m) : Shw (m * (2 * n + 2)) (k + 1) (.dict kvs) := by
  obtain ⟨i1, i2, i3, i4⟩ := shw_kv h
  have := Nat.mul_le_mul_right (2 * n + 2) hm
  exact ⟨by simp only [PyData.leavesShort]; exact i1, by simp only [PyData.showable]; exact i2, by simp only [PyData.bulk]; omega, by simp only [PyData.depth]; omega⟩
theorem Shw.len {n k : Nat} {d : PyData} (h : Shw n k d) : d.shown.length ≤ 10 * n + 8 := by
  have b := PyData.shown_le_bulk 8 (Nat.le_refl _) d h.ls
  have := h.bk
  omega
theorem noDicts : ∀ {ds : List PyData}, (∀ d ∈ ds, d.hasDict = false) → PyData.hasDictAll ds = false
  | [], _ => by simp only [PyData.hasDictAll]
  | d :: ds, h => by simp only [PyData.hasDictAll, h d List.mem_cons_self, noDicts (ds := ds) fun e he => h e (List.mem_cons_of_mem _ he), Bool.or_self]
end SR

set_option maxRecDepth 100000
set_option maxHeartbeats 4000000
namespace SR
open PySem PySem.Spec PyProof.Rows L2
/-! ### repr of a list of dicts from ints or texts to ints -/
def keyD : Key → PyData
  | .inl i => .int i
  | .inr x => .str x
def dD (kvs : List (Key × Int)) : PyData := .dict (kvs.map fun p => (keyD p.1, .int p.2))
def dV (kvs : List (Key × Int)) : List (Key × V) := kvs.map fun p => (p.1, V.int p.2)
def lD (kvss : List (List (Key × Int))) : PyData := .list (kvss.map dD)
section
variable {X : Cx} {pins : List (Addr × Obj)} {σ : L2.St} {H : Hp} {s : Shared}
theorem key_reads {k : Key} {v : Value} {h : Heap} (e : keyIs k v = true) : Reads h v (keyD k) [] := by
  rcases keyIs_shape e with ⟨i, t, rfl, rfl⟩ | ⟨x, t, rfl, rfl⟩
  · exact .int i t
  · exact .str x t
theorem pairs_reads {P : Program} {w : World} {h : Heap} : ∀ {es : List DictEntry} {vs : List (Key × Value)} {kvs : List (Key × Int)}, Pairs (mixKind P w) es vs → KV (dV kvs) vs →
    ReadsAll h (es.map (·.key)) ((kvs.map fun p => (keyD p.1, PyData.int p.2)).map (·.1)) [] ∧ ReadsAll h (es.map (·.val)) ((kvs.map fun p => (keyD p.1, PyData.int p.2)).map (·.2)) []
  | _, _, [], .nil, _ => ⟨.nil, .nil⟩
  | _, _, [], .cons _ _ _, r => by cases r
  | _, _, p :: kvs, .nil, r => by cases r
  | e :: es, kv :: vs, p :: kvs, .cons h1 h2 h3, r => by
    have r' : Paired (fun (p : Key × V) (q : Key × Value) => p.1 = q.1 ∧ RelV p.2 q.2) ((p.1, V.int p.2) :: dV kvs) (kv :: vs) := r
    cases r' with
    | cons a b =>
      obtain ⟨i1, i2⟩ := pairs_reads (h := h) h3 b
      obtain ⟨a1, a2⟩ := a
      have a1' : p.1 = kv.1 := a1
      obtain ⟨t, ht⟩ : ∃ t, kv.2 = Value.int p.2 t := a2
      have k1 : Reads h e.key (keyD p.1) [] := key_reads (by rw [a1']; exact h1)
      have k2 : Reads h e.val (.int p.2) [] := by rw [h2, ht]; exact .int _ _
      exact ⟨.cons (as := []) (bs := []) k1 i1, .cons (as := []) (bs := []) k2 i2⟩
theorem dict_reads (I : Inv X pins σ H s) {q : Addr} {kvs : List (Key × Int)} (h : H q = some (.dK (dV kvs))) : ∃ as, Reads s.heap (.ref q) (dD kvs) as ∧ sysModules ∉ as := by
  obtain ⟨_, hd, vs, rel, o, es, ep, ho, hx, hdat, _, hp, _⟩ := dk_of I.hok h
  obtain ⟨i1, i2⟩ := pairs_reads (h := s.heap) hp rel
  refine ⟨_, .dict ho hx.1 hdat i1 i2, fun hm => ?_⟩
  have : sysModules = q := by simpa using hm
  rw [← this] at hd
  simp at hd
def DictsAt (H : Hp) (qs : List Addr) (kvss : List (List (Key × Int))) : Prop := Paired (fun q kvs => H q = some (.dK (dV kvs))) qs kvss
theorem dicts_reads (I : Inv X pins σ H s) {qs : List Addr} {kvss : List (List (Key × Int))} (h : DictsAt H qs kvss) : ∀ {us : List Value}, Vals (qs.map V.ref) us → ∃ as, ReadsAll s.heap us (kvss.map dD) as ∧ sysModules ∉ as := by
  unfold DictsAt at h
  induction h with
  | nil =>
    intro us r
    cases r
    exact ⟨[], .nil, by simp⟩
  | @cons q kvs qs kvss hq _ ih =>
    intro us r
    cases r with
    | cons r1 r2 =>
      rename_i u us
      obtain rfl : u = Value.ref q := r1
      obtain ⟨as, h1, n1⟩ := dict_reads I hq
      obtain ⟨bs, h2, n2⟩ := ih r2
      exact ⟨_, .cons h1 h2, fun hm => (List.mem_append.mp hm).elim n1 n2⟩
/-- the list repr's own call -/
theorem call_lD (I : Inv X pins σ H s) {A : Around} {a : Addr} {qs : List Addr} {kvss : List (List (Key × Int))} {Q : Value → Shared → Prop} {E : Value → Shared → Prop} (hl : SqL X.K H a (qs.map .ref)) (hp : DictsAt H qs kvss) (hs : (lD kvss).showable = true) (hz : (lD kvss).shown.length ≤ sizeLine)
    (hg : A.guards = some []) (hu : A.units + (lD kvss).depth < cLine) (hQ : ∀ h' u tk, (∀ b o, s.heap.get? b = some o → h'.get? b = some o) → Q (.str (lD kvss).shown u) { s with heap := h', toks := tk }) :
    s.TypeIs (.ref a) "list" ∧ wpAny (model X.prog X.w) A (call (.builtin "list.__repr__") [.ref a]) Q E s := by
  obtain ⟨its, rv, ⟨o, n, ho, hc, _, hdat⟩, _⟩ := I.list hl
  obtain ⟨as, hr, hno⟩ := dicts_reads I hp rv
  refine ⟨⟨o, ho, hc⟩, ?_⟩
  have hz' : (listText (PyData.shownAll (kvss.map dD))).length ≤ sizeLine := by simpa only [lD, PyData.shown] using hz
  have hQ' : ∀ h' u tk, (∀ b o, s.heap.get? b = some o → h'.get? b = some o) → Q (.str (listText (PyData.shownAll (kvss.map dD))) u) { s with heap := h', toks := tk } := by simpa only [lD, PyData.shown] using hQ
  have hsa : PyData.showableAll (kvss.map dD) = true := by simpa only [lD, PyData.showable] using hs
  have hu' : A.units + (PyData.depthAll (kvss.map dD) + 1) < cLine := by simpa only [lD, PyData.depth] using hu
  cases its with
  | nil =>
    have hn : kvss.map dD = [] := by
      generalize kvss.map dD = ds at hr
      cases hr
      rfl
    rw [hn] at hQ'
    exact call_list_repr_empty ⟨o, ho, hc⟩ ho hdat (hQ' s.heap _ _ fun _ _ e => e)
  | cons x its =>
    have whole : Reads s.heap (.ref a) (.list (kvss.map dD)) (a :: as) := .list ho hc hdat (by simpa using hr)
    obtain ⟨bs, hb, hk⟩ := ReprAllK.of_readsAll (prog := X.prog) (w := X.w) hr hsa (fun _ => hno) fun t ht => Nat.le_trans (listText_mem_le ht) hz'
    have hna : a ∉ bs := not_mem_of_deeper whole (by simp only [PyData.depth]; omega) hb
    exact call_list_reprK ho hc hdat hna (by simpa using hk.length_eq) (fun i y e => hk.item i y (by simpa using e)) hg (fun b _ => Clear.nil b) hu' (fun _ _ e => e) hQ' hz'
end
section
variable {X : Cx}
def rReprL (K : PySem.W.Frag) : List V → Hp → VK → Prop := fun xs H Q => ∃ a qs kvss, xs = [.ref a] ∧ SqL K H a (qs.map .ref) ∧ DictsAt H qs kvss ∧ (lD kvss).showable = true ∧ (lD kvss).depth ≤ 64 ∧ (lD kvss).shown.length ≤ sizeLine ∧ Q (.str (lD kvss).shown) H
theorem call_reprL (hgd : X.A.guards = some []) (hu : X.A.units + 66 < cLine) : CallR X (.builtin "repr") (rReprL X.K) := by
  intro pins s σ H xs us Q I r h
  obtain ⟨a, qs, kvss, rfl, hl, hp, hs, hdp, hz, q⟩ := h
  obtain ⟨u, rfl, rx⟩ := vals1 r
  obtain rfl : u = Value.ref a := rx
  obtain ⟨ty, hc⟩ := call_lD (A := X.A.in1) (E := X.xe) (Q := fun r s₁ => ∃ x t, r = .str x t ∧ EP X pins σ Q r s₁) I hl hp hs hz hgd (by show X.A.units + 1 + _ < cLine; omega) fun h' t tk k => ⟨_, _, rfl, .str (lD kvss).shown, H, I.kept (t' := tk) k, ⟨t, rfl⟩, q⟩
  exact call_repr_slot (by omega) ty PySem.F.slot_list_repr.toG hc
/-- {x!r} of a list of dicts -/
def tFmtL (K : PySem.W.Frag) (te : TE) : TE := fun σ H Q => te σ H fun x H1 => rReprL K [x] H1 Q
theorem pe_fmtL {e : Expr} {te : TE} {pos : Pos} (hgd : X.A.guards = some []) (hu : X.A.units + 66 < cLine) (he : PE X e te) : PE X (.FormattedValue e 114 none pos) (tFmtL X.K te) := by
  refine ⟨fun pins s σ H Q I h => ?_⟩
  refine wpAny_FormattedValue_repr (thn (he.run pins s σ H _ I h) fun v s1 hv => ?_)
  obtain ⟨x, H1, I1, r1, a, qs, kvss, ex, hl, hp, hs, hdp, hz, q⟩ := hv
  obtain rfl : x = .ref a := by cases ex; rfl
  obtain rfl : v = Value.ref a := r1
  obtain ⟨ty, hc⟩ := call_lD (A := X.A) (E := X.xe) (Q := fun r s₁ => ∃ x t, r = .str x t ∧ wpAny (model X.prog X.w) X.A (formatField r Str.empty) (EP X pins σ Q) X.xe s₁) I1 hl hp hs hz hgd (by omega) fun h' t tk k => ⟨_, _, rfl, wpAny_formatField_str ⟨.str (lD kvss).shown, H1, I1.kept (t' := tk) k, ⟨t, rfl⟩, q⟩ ⟨.str (lD kvss).shown, H1, (I1.kept (t' := tk) k).tok _, ⟨_, rfl⟩, q⟩ hz⟩
  exact wpAny_pyReprObj_slot (by omega) ty PySem.F.slot_list_repr.toG hc
/-- {x!r} of data without dicts -/
def tFmtD (K : PySem.W.Frag) (te : TE) : TE := fun σ H Q => te σ H fun x H1 => rReprD K [x] H1 Q
theorem pe_fmtD {e : Expr} {te : TE} {pos : Pos} (hgd : X.A.guards = some []) (hu : X.A.units + 66 < cLine) (he : PE X e te) : PE X (.FormattedValue e 114 none pos) (tFmtD X.K te) := by
  refine ⟨fun pins s σ H Q I h => ?_⟩
  refine wpAny_FormattedValue_repr (thn (he.run pins s σ H _ I h) fun v s1 hv => ?_)
  obtain ⟨x, H1, I1, r1, a, d, ex, hd, hs, hn, hdp, hz, q⟩ := hv
  obtain rfl : x = .ref a := by cases ex; rfl
  obtain ⟨as, rd⟩ := Dp.reads I1 d _ v hd r1
  obtain rfl : v = Value.ref a := r1
  refine pyReprObj_of_reads rd hs (fun z => by rw [hn] at z; cases z) hgd (by omega) (fun _ _ e => e) (fun h' t tk k => ?_) hz
  exact wpAny_formatField_str ⟨.str d.shown, H1, I1.kept (t' := tk) k, ⟨t, rfl⟩, q⟩ ⟨.str d.shown, H1, (I1.kept (t' := tk) k).tok _, ⟨_, rfl⟩, q⟩ hz
end
/-! ### an own method called by a built-in -/
section
variable {X : Cx}
/-- somewhere below the running body, no repr under way -/
theorem own_run {n : Nat} {f : Addr} {fd : FuncData} {ps : List Str} {sp : Sp} (F : FnG X.prog X.w X.K X.mg X.base n f fd ps sp) {A : Around} (sb : Sub X n A) (hgd : A.guards = some []) (hb : Binds X.K fd ps [])
    {pins : List (Addr × Obj)} {s : Shared} {σ : L2.St} {H : Hp} {vs : List V} {us : List Value} {q : V → Hp → Prop} (I : Inv X pins σ H s) (r : Vals vs us) (hq : sp vs H q E0) : wpAny (model X.prog X.w) A (call (.ref f) us) (EP X pins σ q) X.xe s := by
  have hl : us.length = ps.length := by rw [← r.length]; exact F.len _ _ _ _ hq
  have e0 : Env0 X.prog X.w X.K X.mg X.base A X.stack s H := by
    have e := I.env0
    exact ⟨by rw [sb.fr]; exact e.frames, e.mod, e.bs, e.bsz, e.funs, e.frf, e.hok, e.bare⟩
  have b := hb s us I.kIn (by simpa using hl)
  rw [List.append_nil] at b
  refine wpAny_call (codeAny_mono (F.run A X.stack s H ⟨us, []⟩ us vs _ E0 sb.room hgd e0 b r hq) fun r s' hz => ?_)
  cases r with
  | error e => exact pass0 pins σ H s e s' I hz
  | ok fl =>
    cases fl with
    | ret v => exact I.after hz
    | next => exact False.elim hz
    | brk => exact False.elim hz
    | cont => exact False.elim hz
/-- repr(o), by its own __repr__ -/
def rOwnRepr (C : Addr) (sp : Sp) : List V → Hp → VK → Prop := fun xs H Q => ∃ a dx fs, xs = [.ref a] ∧ H a = some (.ins C dx fs) ∧ sp [.ref a] H (fun v H' => ∃ y, v = .str y ∧ Q (.str y) H') E0
theorem call_ownRepr {n : Nat} {C f : Addr} {fd : FuncData} {ps : List Str} {sp : Sp} (F : FnG X.prog X.w X.K X.mg X.base n f fd ps sp) (hr : Room (n + 1) X.A) (hgd : X.A.guards = some [])
    (hs : PySem.W.findIn X.K (.ref C) "__repr__" = some (some (.ref f))) (hf : PySem.W.isFn X.K (.ref f) = true) (hb : Binds X.K fd ps []) : CallR X (.builtin "repr") (rOwnRepr C sp) := by
  intro pins s σ H xs us Q I r h
  obtain ⟨a, dx, fs, rfl, ha, hq⟩ := h
  obtain ⟨u, rfl, rx⟩ := vals1 r
  obtain rfl : u = Value.ref a := rx
  obtain ⟨mA, J, _⟩ := ins_get I.hok ha
  obtain ⟨od, J, _⟩ := J.look
  obtain ⟨m, hF⟩ := I.fr
  have sb : Sub X n X.A.in1 := Sub.in1 ⟨hr, rfl⟩
  refine PySem.W.repr_K sb.room.units0 hF I.ok.mod.kin J hs hf (wpAny_mono (own_run (vs := [.ref a]) F sb hgd hb I (.cons rfl .nil) hq) (fun z s' hz => ?_) fun _ _ e => e)
  obtain ⟨b', H', I', rb, y, rfl, hQ⟩ := hz
  obtain ⟨t, rfl⟩ := rb
  exact ⟨.str y, H', I', ⟨t, rfl⟩, hQ⟩
/-- len(o), by its own __len__ -/
def rOwnLen (C : Addr) (sp : Sp) : List V → Hp → VK → Prop := fun xs H Q => ∃ a dx fs, xs = [.ref a] ∧ H a = some (.ins C dx fs) ∧ sp [.ref a] H (fun v H' => ∃ i : Int, v = .int i ∧ 0 ≤ i ∧ i < 1000000 ∧ Q (.int i) H') E0
theorem call_ownLen {n : Nat} {C f : Addr} {fd : FuncData} {ps : List Str} {sp : Sp} (F : FnG X.prog X.w X.K X.mg X.base n f fd ps sp) (hr : Room (n + 1) X.A) (hgd : X.A.guards = some [])
    (hs : PySem.W.findIn X.K (.ref C) "__len__" = some (some (.ref f))) (hf : PySem.W.isFn X.K (.ref f) = true) (hb : Binds X.K fd ps []) : CallR X (.builtin "len") (rOwnLen C sp) := by
  intro pins s σ H xs us Q I r h
  obtain ⟨a, dx, fs, rfl, ha, hq⟩ := h
  obtain ⟨u, rfl, rx⟩ := vals1 r
  obtain rfl : u = Value.ref a := rx
  obtain ⟨mA, J, _⟩ := ins_get I.hok ha
  obtain ⟨od, J, _⟩ := J.look
  obtain ⟨m, hF⟩ := I.fr
  have sb : Sub X n X.A.in1 := Sub.in1 ⟨hr, rfl⟩
  refine PySem.W.len_K hF I.ok.mod.kin J hs hf (wpAny_mono (own_run (vs := [.ref a]) F sb hgd hb I (.cons rfl .nil) hq) (fun z s' hz => ?_) fun _ _ e => e)
  obtain ⟨b', H', I', rb, i, rfl, h0, h1, hQ⟩ := hz
  obtain ⟨t, rfl⟩ := rb
  exact ⟨⟨h0, Int.lt_trans h1 (by decide)⟩, .int i, H', I'.tok _, ⟨_, rfl⟩, hQ⟩
/-- o.m(k = v, ..) -/
def tMethK (C : Addr) (m : Str) (n : Nat) (sp : Sp) (gV : List V → List V → List V) (E : XK) (ta : TE) (tk : TA) : TE := fun σ H Q => ta σ H fun x H1 => ∃ a dx fs, x = .ref a ∧ H1 a = some (.ins C dx fs) ∧ fs.lookup m = none ∧ tk σ H1 fun zs H2 => zs.length = n ∧ sp (gV [.ref a] zs) H2 Q E
theorem pe_methK0 {CX : CXT} {k : Nat} {C f : Addr} {fd : FuncData} {ps ks : List Str} {sp : Sp} {E : XK} {m : Str} {o : Expr} {kws : List Keyword} {ta : TE} {tk : TA} {g : List Value → List Value → List Value} {gV : List V → List V → List V} {pos apos : Pos} {pl : Sem Bool}
    (he : PE X o ta) (c : Cls X.K C) (hm : Meth X.K C m f) (F : FnOk X.prog X.w X.K X.mg X.base CX k f fd ps sp) (hr : Room k X.A) (hb : KBn X.K fd ps 1 ks g gV) (hx : Passes CX X E) (hkw : PK X kws tk)
    (hall : (backToKw pos (keywordEach kws X.env)).all (·.1.isSome) = true := by rfl) (hks : (backToKw pos (keywordEach kws X.env)).filterMap (·.1) = ks := by rfl)
    (hpl : ((backTo pos (starEach [] X.env)).any (·.1) || (backToKw pos (keywordEach kws X.env)).any (·.1.isNone)) = false := by rfl)
    (ht : eval (.Call (.Attribute o m apos) [] kws pos) X.env = (do
      let ov ← eval o X.env
      standAt apos.atName
      let (f, first) ← holding [ov] (getMethod ov m pl)
      callWith pos f first (backTo pos (starEach [] X.env)) (backToKw pos (keywordEach kws X.env))) := by rfl) :
    PE X (.Call (.Attribute o m apos) [] kws pos) (tMethK C m ks.length sp gV E ta tk) := by
  refine ⟨fun pins s σ H Q I h => ?_⟩
  refine PySem.W.methodCall_KW (pl := pl) (thn (he.run pins s σ H _ I h) fun u s1 ⟨x, H1, I1, rx, a, dx, fs, ex, ea, l, q⟩ => ?_) ht
  subst ex
  obtain rfl : u = Value.ref a := rx
  refine getmeth_ok I1 ea c hm l ?_
  refine PySem.W.callWith_KW0 (first := [.ref a]) (h₀ := X.base) I.ok.mod.kin hm.kp hall ?_ hpl
  refine thn (hkw.run pos pins s1 σ H1 _ I1 q) fun ws s2 ⟨zs, H2, I2, rz, l2, q2⟩ => ⟨I2.kIn, ?_⟩
  rw [hks]
  have r1 : Vals [V.ref a] [Value.ref a] := .cons rfl .nil
  refine wpAny_call (codeAny_mono (F.run X.A X.stack s2 H2 ⟨[.ref a] ++ [], ks.zip ws⟩ (g [.ref a] ws) (gV [.ref a] zs) Q E hr I2.env0 (hb.to _ [.ref a] ws I2.kIn rfl (rz.length.symm.trans l2)) (hb.rel r1 rz) q2) fun r s' hq => ?_)
  cases r with
  | error e => exact hx pins σ _ _ e s' I2 hq
  | ok fl =>
    cases fl with
    | ret u => exact I2.after hq
    | next => exact False.elim hq
    | brk => exact False.elim hq
    | cont => exact False.elim hq
end
/-! ### x != y by the own __eq__ -/
section
variable {prog : Program} {w : World} {A : Around} {E : Value → Shared → Prop} {s : Shared} {K : PySem.W.Frag} {x C L f : Addr} {h₀ : Heap} {m : Str → Option Value} {ox : Obj} {od : Option Obj}
theorem slot_ne_object : Slot "object" "__ne__" "object.__ne__" := PySem.F.cmp_object.ne
/-- object's own !=, bound for an instance -/
theorem ifBound_ne {args : List Value} {Q : Option Value → Shared → Prop} (X : K.In s.heap) (I : PySem.W.InstAt s.heap x ox C od) (hs : PySem.W.findIn K (.ref C) "__ne__" = some (some (.builtin "object.__ne__")))
    (h : wpAny (model prog w) A (call (.builtin "object.__ne__") (.ref x :: args)) (fun v => Q (some v)) E s) : wpAny (model prog w) A (callSpecialIfBound? (.ref x) "__ne__" args) Q E s := by
  simp only [callSpecialIfBound?, bindSpecialIfBound?]
  refine wpAny_holding (wpAny_bind (wpAny_bind (wpAny_bind (I.type.here ((PySem.W.looks_findIn X hs).here ?_)))))
  simp only [slot_ne_object.bind]
  refine wpAny_bind (wpAny_askSetting (wpAny_ite ?_))
  have fin : wpAny (model prog w) A (call (.builtin "object.__ne__") ([.ref x] ++ args) >>= fun v => pure (some v)) Q E s := wpAny_bind (wpAny_mono h (fun v s' h' => wpAny_pure h') fun _ _ h' => h')
  split
  · exact wpAny_bind (wpAny_pure (wpAny_pure fin))
  · exact wpAny_tryCatch (wpAny_bind (wpAny_pure (wpAny_pure fin)))
theorem check_ne {rest : List Value} {Q : Unit → Shared → Prop} {M : Model} (X : K.In s.heap) (I : PySem.W.InstAt s.heap x ox C od) (hsub : PySem.W.subIn K (.ref C) (.type "object") = some true) (ha : argsOk "object.__ne__" ⟨.ref x :: rest, []⟩) (hq : Q () s) :
    wpAny M A (checkBuiltinCall "object.__ne__" ⟨.ref x :: rest, []⟩) Q E s := by
  simp only [checkBuiltinCall, PySem.F.cmpKind_ne, PySem.F.cmpSplit_ne]
  refine wpAny_bind ?_
  unfold isInstance
  refine wpAny_bind (I.type.here ((PySem.W.looks_subIn X hsub).here ?_))
  simp only [Bool.not_true, Bool.false_eq_true, if_false]
  cases hsig : Manifest.signature? "object.__ne__" with
  | none => exact wpAny_pure hq
  | some sig =>
    simp only [argsOk, hsig] at ha
    have h2 : Bind.checkArgs "object.__ne__" sig ⟨.ref x :: rest, []⟩ = pure () := ha
    show wpAny M A (Bind.checkArgs "object.__ne__" sig ⟨.ref x :: rest, []⟩) Q E _
    rw [h2]; exact wpAny_pure hq
theorem body_ne {b : Value} (X : K.In s.heap) (I : PySem.W.InstAt s.heap x ox C od) (hs : PySem.W.findIn K (.ref C) "__eq__" = some (some (.ref f))) (hf : PySem.W.isFn K (.ref f) = true) (hu : A.units < cLine) {Q : Fin → Shared → Prop}
    (h : wpAny (model prog w) A (call (.ref f) [.ref x, b]) (fun v s' => ∃ r, v = .bool r ∧ Q (.done (.ret (.bool (!r)))) s') E s) : wpAny (model prog w) A (Builtin.«object.__ne__» ⟨[.ref x, b], []⟩) Q E s := by
  unfold Builtin.«object.__ne__»
  refine wpAny_bind (m := slotArgs "__ne__" 1 _) (wpAny_pure ?_)
  refine wpAny_bind (wpAny_cRoomFor hu ?_)
  refine wpAny_bind (m := callSpecialIfBound? (.ref x) (Str.ofString "__eq__") [b]) (PySem.W.ifBound_K X I hs hf (wpAny_mono h (fun v s' hv => ?_) fun _ _ e => e))
  obtain ⟨r, rfl, hq⟩ := hv
  exact wpAny_bind (m := truthy (.bool r)) (wpAny_truthy_bool (wpAny_pure hq))
theorem ne_K {b : Value} {Q : Value → Shared → Prop} (hu : A.units + 1 < cLine) (F : Fr h₀ L s.heap m) (X₀ : K.In h₀) (I : PySem.W.InstAt s.heap x ox C od) (hb : PySem.W.Looks (model prog w) s.heap (typeOf b) (.ref C))
    (hn : PySem.W.findIn K (.ref C) "__ne__" = some (some (.builtin "object.__ne__"))) (hsub : PySem.W.subIn K (.ref C) (.type "object") = some true)
    (hs : PySem.W.findIn K (.ref C) "__eq__" = some (some (.ref f))) (hf : PySem.W.isFn K (.ref f) = true)
    (h : wpAny (model prog w) A.in1 (call (.ref f) [.ref x, b]) (fun v s' => ∃ r, v = .bool r ∧ Q (.bool (!r)) s') E s) : wpAny (model prog w) A (richCompare .NotEq (.ref x) b) Q E s := by
  have X := X₀.keeps F.keep
  have one : wpAny (model prog w) A (tryCompare (.ref x) "__ne__" b) (fun r s' => ∃ v, r = some v ∧ Q v s') E s := by
    unfold tryCompare
    refine wpAny_bind (ifBound_ne X I hn (wpAny_call (codeAny_call_builtin slot_ne_object.plain PySem.F.cmpEntry_ne (check_ne X I hsub (PySem.F.cmpArgs_ne _ _) (body_ne (A := A.in1) X I hs hf hu (wpAny_mono h (fun v s' hv => ?_) fun _ _ e => e))))))
    obtain ⟨r, rfl, hq⟩ := hv
    exact ⟨r, rfl, wpAny_pure ⟨_, rfl, hq⟩⟩
  unfold richCompare
  simp only [oneThing_ref]
  refine wpAny_holding (wpAny_bind (wpAny_cRoomFor (Nat.lt_of_succ_lt hu) ?_))
  refine wpAny_bind (I.type.here (wpAny_bind (hb.here ?_)))
  rw [if_neg (by simp)]
  refine wpAny_bind (wpAny_pure ?_)
  simp only [Bool.false_eq_true, if_false]
  refine wpAny_bind (wpAny_mono one (fun r s' z => ?_) fun _ _ e => e)
  obtain ⟨v, rfl, hq⟩ := z
  exact wpAny_pure hq
end
section
variable {X : Cx}
/-- x == y, by the own __eq__ -/
def rOwnEq (C : Addr) (sp : Sp) (neg : Bool) : R2 := fun x y H Q => ∃ a b dx dy fs gs, x = .ref a ∧ y = .ref b ∧ H a = some (.ins C dx fs) ∧ H b = some (.ins C dy gs) ∧ sp [.ref a, .ref b] H (fun v H' => ∃ r, v = .bl r ∧ Q (.bl (if neg then !r else r)) H') E0
theorem op_eqOwn {n : Nat} {C f : Addr} {fd : FuncData} {ps : List Str} {sp : Sp} (F : FnG X.prog X.w X.K X.mg X.base n f fd ps sp) (hr : Room n X.A) (hgd : X.A.guards = some [])
    (hs : PySem.W.findIn X.K (.ref C) "__eq__" = some (some (.ref f))) (hf : PySem.W.isFn X.K (.ref f) = true) (hb : Binds X.K fd ps []) : OpR X (compareOp .Eq) (rOwnEq C sp false) := by
  intro pins s σ H x y v u Q I rx ry h
  obtain ⟨a, b, dx, dy, fs, gs, rfl, rfl, ha, hb', hq⟩ := h
  cases rx
  cases ry
  obtain ⟨mA, J, _⟩ := ins_get I.hok ha
  obtain ⟨mB, J', _⟩ := ins_get I.hok hb'
  obtain ⟨od, J, _⟩ := J.look
  obtain ⟨od', J', _⟩ := J'.look
  obtain ⟨m, hF⟩ := I.fr
  show wpAny (model X.prog X.w) X.A (richCompare .Eq (.ref a) (.ref b)) (EP X pins σ Q) X.xe s
  refine PySem.W.cmp_K (op := .Eq) (tb := .ref C) hr.units0 hF I.ok.mod.kin J J'.type (by simp [PySem.W.notFirst]) hs hf (wpAny_mono (own_run (vs := [.ref a, .ref b]) F ⟨hr, rfl⟩ hgd hb I (.cons rfl (.cons rfl .nil)) hq) (fun z s' hz => ?_) fun _ _ e => e)
  obtain ⟨b', H', I', rb, r, rfl, hQ⟩ := hz
  cases rb
  exact ⟨.bl r, H', I', rfl, hQ⟩
theorem op_neOwn {n : Nat} {C f : Addr} {fd : FuncData} {ps : List Str} {sp : Sp} (F : FnG X.prog X.w X.K X.mg X.base n f fd ps sp) (hr : Room (n + 1) X.A) (hgd : X.A.guards = some [])
    (hn : PySem.W.findIn X.K (.ref C) "__ne__" = some (some (.builtin "object.__ne__"))) (hsub : PySem.W.subIn X.K (.ref C) (.type "object") = some true)
    (hs : PySem.W.findIn X.K (.ref C) "__eq__" = some (some (.ref f))) (hf : PySem.W.isFn X.K (.ref f) = true) (hb : Binds X.K fd ps []) : OpR X (compareOp .NotEq) (rOwnEq C sp true) := by
  intro pins s σ H x y v u Q I rx ry h
  obtain ⟨a, b, dx, dy, fs, gs, rfl, rfl, ha, hb', hq⟩ := h
  cases rx
  cases ry
  obtain ⟨mA, J, _⟩ := ins_get I.hok ha
  obtain ⟨mB, J', _⟩ := ins_get I.hok hb'
  obtain ⟨od, J, _⟩ := J.look
  obtain ⟨od', J', _⟩ := J'.look
  obtain ⟨m, hF⟩ := I.fr
  have sb : Sub X n X.A.in1 := Sub.in1 ⟨hr, rfl⟩
  show wpAny (model X.prog X.w) X.A (richCompare .NotEq (.ref a) (.ref b)) (EP X pins σ Q) X.xe s
  refine ne_K sb.room.units0 hF I.ok.mod.kin J J'.type hn hsub hs hf (wpAny_mono (own_run (vs := [.ref a, .ref b]) F sb hgd hb I (.cons rfl (.cons rfl .nil)) hq) (fun z s' hz => ?_) fun _ _ e => e)
  obtain ⟨b', H', I', rb, r, rfl, hQ⟩ := hz
  cases rb
  exact ⟨r, rfl, .bl (!r), H', I', rfl, hQ⟩
end
end SR

set_option maxRecDepth 100000
set_option maxHeartbeats 4000000
namespace SR
open PySem PySem.Spec PyProof.Rows L2
theorem u66 {k : Nat} {A : Around} (r : Room k A) : A.units + 66 < cLine := by have := r.un; omega
/-! ### data in which lists stand at the top alone; dicts may be within -/
mutual
inductive Dq (K : PySem.W.Frag) (H : Hp) : V → PyData → Prop
  | non : Dq K H .non .none
  | bl (b : Bool) : Dq K H (.bl b) (.bool b)
  | int (i : Int) : Dq K H (.int i) (.int i)
  | str (x : Str) : Dq K H (.str x) (.str x)
  | tup {a : Addr} {xs : List V} {ds : List PyData} : SqT K H a xs → DqAll K H xs ds → Dq K H (.ref a) (.tuple ds)
  | dic {a : Addr} {kvs : List (Key × V)} {ps : List (PyData × PyData)} : H a = some (.dK kvs) → DqKv K H kvs ps → Dq K H (.ref a) (.dict ps)
inductive DqAll (K : PySem.W.Frag) (H : Hp) : List V → List PyData → Prop
  | nil : DqAll K H [] []
  | cons {v : V} {vs : List V} {d : PyData} {ds : List PyData} : Dq K H v d → DqAll K H vs ds → DqAll K H (v :: vs) (d :: ds)
inductive DqKv (K : PySem.W.Frag) (H : Hp) : List (Key × V) → List (PyData × PyData) → Prop
  | nil : DqKv K H [] []
  | cons {k : Key} {v : V} {kvs : List (Key × V)} {d : PyData} {ps : List (PyData × PyData)} : Dq K H v d → DqKv K H kvs ps → DqKv K H ((k, v) :: kvs) ((keyD k, d) :: ps)
end
section
variable {X : Cx} {pins : List (Addr × Obj)} {σ : L2.St} {H : Hp} {s : Shared}
mutual
theorem Dq.rds (I : Inv X pins σ H s) : ∀ (d : PyData) (v : V) (u : Value), Dq X.K H v d → RelV v u → ∃ as, Reads s.heap u d as ∧ sysModules ∉ as
  | .none, _, _, h, r => by
    cases h; cases r
    exact ⟨_, .none, nofun⟩
  | .bool b, _, _, h, r => by
    cases h; cases r
    exact ⟨_, .bool b, nofun⟩
  | .int i, _, _, h, r => by
    cases h
    obtain ⟨t, rfl⟩ := r
    exact ⟨_, .int i t, nofun⟩
  | .str x, _, _, h, r => by
    cases h
    obtain ⟨t, rfl⟩ := r
    exact ⟨_, .str x t, nofun⟩
  | .list ds, _, _, h, _ => by cases h
  | .tuple ds, _, _, h, r => by
    cases h with
    | tup hs ha =>
      cases r
      obtain ⟨its, rv, ⟨o, e1, e2, n, e3⟩, _⟩ := I.tuple hs
      obtain ⟨as, q1, q2⟩ := DqAll.rds I ds _ its ha rv
      exact ⟨as, .tuple e1 e2 e3 q1, q2⟩
  | .dict ps, _, _, h, r => by
    cases h with
    | @dic a kvs _ hd hk =>
      cases r
      obtain ⟨_, ns, vs, rel, o, es, ep, ho, hx, hdat, _, hp, _⟩ := dk_of I.hok hd
      obtain ⟨⟨as, p1, n1⟩, ⟨bs, p2, n2⟩⟩ := DqKv.rds I ps kvs vs es.toList hk rel hp
      refine ⟨_, .dict ho hx.1 hdat p1 p2, fun hm => ?_⟩
      rcases List.mem_append.mp hm with z | z
      · rcases List.mem_cons.mp z with e | z
        · rw [← e] at ns
          simp at ns
        · exact n1 z
      · exact n2 z
theorem DqAll.rds (I : Inv X pins σ H s) : ∀ (ds : List PyData) (vs : List V) (us : List Value), DqAll X.K H vs ds → Vals vs us → ∃ as, ReadsAll s.heap us ds as ∧ sysModules ∉ as
  | [], _, _, h, r => by
    cases h; cases r
    exact ⟨_, .nil, nofun⟩
  | d :: ds, _, _, h, r => by
    cases h with
    | cons h1 h2 =>
      cases r with
      | cons r1 r2 =>
        obtain ⟨as, p1, n1⟩ := Dq.rds I d _ _ h1 r1
        obtain ⟨bs, p2, n2⟩ := DqAll.rds I ds _ _ h2 r2
        exact ⟨_, .cons p1 p2, fun hm => (List.mem_append.mp hm).elim n1 n2⟩
theorem DqKv.rds (I : Inv X pins σ H s) : ∀ (ps : List (PyData × PyData)) (kvs : List (Key × V)) (vs : List (Key × Value)) (es : List DictEntry), DqKv X.K H kvs ps → KV kvs vs → Pairs (mixKind X.prog X.w) es vs →
    (∃ as, ReadsAll s.heap (es.map (·.key)) (ps.map (·.1)) as ∧ sysModules ∉ as) ∧ ∃ bs, ReadsAll s.heap (es.map (·.val)) (ps.map (·.2)) bs ∧ sysModules ∉ bs
  | [], _, _, _, h, r, e => by
    cases h; cases r; cases e
    exact ⟨⟨[], .nil, nofun⟩, ⟨[], .nil, nofun⟩⟩
  | (a, d) :: ps, _, _, _, h, r, e => by
    cases h with
    | cons h1 h2 =>
      cases r with
      | cons ra rb =>
        cases e with
        | cons c1 c2 c3 =>
          obtain ⟨⟨as, p1, n1⟩, ⟨bs, p2, n2⟩⟩ := DqKv.rds I ps _ _ _ h2 rb c3
          obtain ⟨cs, p3, n3⟩ := Dq.rds I d _ _ h1 ra.2
          obtain ⟨ra1, ra2⟩ := ra
          have ra1' := ra1.symm
          dsimp only at ra1' ra2 c1 c2
          rw [ra1'] at c1
          rw [← c2] at p3
          exact ⟨⟨_, .cons (as := []) (key_reads c1) p1, n1⟩, ⟨_, .cons (as := cs) p3 p2, fun hm => (List.mem_append.mp hm).elim n3 n2⟩⟩
end
/-- the list repr's own call -/
theorem call_listQ (I : Inv X pins σ H s) {A : Around} {a : Addr} {xs : List V} {ds : List PyData} {Q : Value → Shared → Prop} {E : Value → Shared → Prop} (hl : SqL X.K H a xs) (hp : DqAll X.K H xs ds) (hs : PyData.showableAll ds = true) (hz : (PyData.shown (.list ds)).length ≤ sizeLine)
    (hg : A.guards = some []) (hu : A.units + (PyData.depthAll ds + 1) < cLine) (hQ : ∀ h' u tk, (∀ b o, s.heap.get? b = some o → h'.get? b = some o) → Q (.str (PyData.shown (.list ds)) u) { s with heap := h', toks := tk }) :
    s.TypeIs (.ref a) "list" ∧ wpAny (model X.prog X.w) A (call (.builtin "list.__repr__") [.ref a]) Q E s := by
  obtain ⟨its, rv, ⟨o, n, ho, hc, _, hdat⟩, _⟩ := I.list hl
  obtain ⟨as, hr, hno⟩ := DqAll.rds I ds xs its hp rv
  refine ⟨⟨o, ho, hc⟩, ?_⟩
  simp only [PyData.shown] at hz hQ
  rcases its with _ | ⟨x, its⟩
  · cases hr
    exact call_list_repr_empty ⟨o, ho, hc⟩ ho hdat (hQ s.heap _ _ fun _ _ e => e)
  · obtain ⟨bs, hb, hk⟩ := ReprAllK.of_readsAll (prog := X.prog) (w := X.w) hr hs (fun _ => hno) fun t ht => Nat.le_trans (listText_mem_le ht) hz
    have deep : a ∉ bs := not_mem_of_deeper (.list ho hc hdat (by simpa using hr)) (by simp only [PyData.depth]; omega) hb
    exact call_list_reprK ho hc hdat deep (by simpa using hk.length_eq) (fun i y e => hk.item i y (by simpa using e)) hg (fun b _ => Clear.nil b) hu (fun _ _ e => e) hQ hz
end
section
variable {X : Cx}
def rReprQ (K : PySem.W.Frag) : List V → Hp → VK → Prop := fun us H Q => ∃ a xs ds, us = [.ref a] ∧ SqL K H a xs ∧ DqAll K H xs ds ∧ PyData.showableAll ds = true ∧ PyData.depthAll ds ≤ 60 ∧ (PyData.shown (.list ds)).length ≤ sizeLine ∧ Q (.str (PyData.shown (.list ds))) H
theorem call_reprQ (hgd : X.A.guards = some []) (hu : X.A.units + 66 < cLine) : CallR X (.builtin "repr") (rReprQ X.K) := by
  intro pins s σ H xs us Q I r ⟨a, vs, ds, ex, hl, hp, hs, hdp, hz, q⟩
  subst ex
  obtain ⟨u, rfl, rx⟩ := vals1 r
  obtain rfl : u = Value.ref a := rx
  obtain ⟨ty, hc⟩ := call_listQ (A := X.A.in1) (E := X.xe) (Q := fun r s₁ => ∃ x t, r = .str x t ∧ EP X pins σ Q r s₁) I hl hp hs hz hgd (by show X.A.units + 1 + _ < cLine; omega) fun h' t tk k => ⟨_, _, rfl, .str (PyData.shown (.list ds)), H, I.kept (t' := tk) k, ⟨t, rfl⟩, q⟩
  exact call_repr_slot (by omega) ty PySem.F.slot_list_repr.toG hc
/-- {x!r} of such a list -/
def tFmtQ (K : PySem.W.Frag) (te : TE) : TE := fun σ H Q => te σ H fun x H1 => rReprQ K [x] H1 Q
theorem pe_fmtQ {e : Expr} {te : TE} {pos : Pos} (hgd : X.A.guards = some []) (hu : X.A.units + 66 < cLine) (he : PE X e te) : PE X (.FormattedValue e 114 none pos) (tFmtQ X.K te) := by
  refine ⟨fun pins s σ H Q I h => wpAny_FormattedValue_repr (thn (he.run pins s σ H _ I h) fun v s1 ⟨x, H1, I1, r1, a, vs, ds, ex, hl, hp, hs, hdp, hz, q⟩ => ?_)⟩
  obtain rfl : x = .ref a := by cases ex; rfl
  obtain rfl : v = Value.ref a := r1
  obtain ⟨ty, hc⟩ := call_listQ (A := X.A) (E := X.xe) (Q := fun r s₁ => ∃ x t, r = .str x t ∧ wpAny (model X.prog X.w) X.A (formatField r Str.empty) (EP X pins σ Q) X.xe s₁) I1 hl hp hs hz hgd (by omega) fun h' t tk k => ⟨_, _, rfl, wpAny_formatField_str ⟨.str (PyData.shown (.list ds)), H1, I1.kept (t' := tk) k, ⟨t, rfl⟩, q⟩ ⟨.str (PyData.shown (.list ds)), H1, (I1.kept (t' := tk) k).tok _, ⟨_, rfl⟩, q⟩ hz⟩
  exact wpAny_pyReprObj_slot (by omega) ty PySem.F.slot_list_repr.toG hc
end
/-! ### a def called by keywords alone -/
def tCallW (sp : Sp) (n : Nat) (gV : List V → List V → List V) (E : XK) (tk : TA) : TE := fun σ H Q => tk σ H fun zs H1 => zs.length = n ∧ sp (gV [] zs) H1 Q E
structure CalW (P : Program) (w : World) (K : PySem.W.Frag) (mg : Str → Option Value) (base : Heap) (x : Str) (k : Nat) (ks : List Str) (gV : List V → List V → List V) (sp : Sp) : Prop where
  ex : ∃ (f : Addr) (fd : FuncData) (ps : List Str) (g : List Value → List Value → List Value), FnOk P w K mg base CX0 k f fd ps sp ∧ mg x = some (.ref f) ∧ PySem.W.keepIn K (.ref f) = true ∧ KBn K fd ps 0 ks g gV
theorem pe_calW {X : Cx} {x : Str} {k : Nat} {ks : List Str} {gV : List V → List V → List V} {sp : Sp} {kws : List Keyword} {tk : TA} {p pos : Pos} (C : CalW X.prog X.w X.K X.mg X.base x k ks gV sp) (hr : Room k X.A) (hkw : PK X kws tk) (hg : Gl X x := by rfl) (hdb : (x == ("__debug__" : Str)) = false := by decide)
    (hall : (backToKw pos (keywordEach kws X.env)).all (·.1.isSome) = true := by rfl) (hks : (backToKw pos (keywordEach kws X.env)).filterMap (·.1) = ks := by rfl)
    (hpl : ((backTo pos (starEach [] X.env)).any (·.1) || (backToKw pos (keywordEach kws X.env)).any (·.1.isNone)) = false := by rfl) : PE X (.Call (.Name x p) [] kws pos) (tCallW sp ks.length gV E0 tk) := by
  obtain ⟨f, fd, ps, g, F, m, kp, hb⟩ := C.ex
  refine ⟨fun pins s σ H Q I h => wpAny_Call_Name_kw (ld_glob I hg m ?_ hdb)⟩
  refine PySem.W.callWith_KW0 (h₀ := X.base) I.ok.mod.kin kp hall (thn (hkw.run pos pins s σ H _ I h) fun ws s2 ⟨zs, H2, I2, rz, l2, q2⟩ => ⟨I2.kIn, ?_⟩) hpl
  rw [hks]
  refine wpAny_call (codeAny_mono (F.run X.A X.stack s2 H2 ⟨[] ++ [], ks.zip ws⟩ (g [] ws) (gV [] zs) Q E0 hr I2.env0 (hb.to _ [] ws I2.kIn rfl (rz.length.symm.trans l2)) (hb.rel .nil rz) q2) fun r s' hq => ?_)
  rcases r with e | fl
  · exact pass0 pins σ _ _ e s' I2 hq
  · cases fl with
    | ret u => exact I2.after hq
    | next => exact hq.elim
    | brk => exact hq.elim
    | cont => exact hq.elim
/-- two and three keywords, the other way round -/
def gW2 {α : Type} : List α → List α → List α
  | [], [b, a] => [a, b]
  | _, _ => []
def gW3 {α : Type} : List α → List α → List α
  | [], [c, b, a] => [a, b, c]
  | _, _ => []
theorem gW2_rel {vs zs : List V} {us ws : List Value} (r1 : Vals vs us) (r2 : Vals zs ws) : Vals (gW2 vs zs) (gW2 us ws) := by
  cases r1 with
  | cons _ _ => exact .nil
  | nil =>
    rcases r2 with _ | ⟨a, r2⟩
    · exact .nil
    · rcases r2 with _ | ⟨b, r2⟩
      · exact .nil
      · rcases r2 with _ | ⟨c, r2⟩
        · exact .cons b (.cons a .nil)
        · exact .nil
theorem gW3_rel {vs zs : List V} {us ws : List Value} (r1 : Vals vs us) (r2 : Vals zs ws) : Vals (gW3 vs zs) (gW3 us ws) := by
  cases r1 with
  | cons _ _ => exact .nil
  | nil =>
    rcases r2 with _ | ⟨a, r2⟩
    · exact .nil
    · rcases r2 with _ | ⟨b, r2⟩
      · exact .nil
      · rcases r2 with _ | ⟨c, r2⟩
        · exact .nil
        · rcases r2 with _ | ⟨d, r2⟩
          · exact .cons c (.cons b (.cons a .nil))
          · exact .nil
theorem Fun.kb2 {K : PySem.W.Frag} {x qual : Str} {st : Stmt} {f : Addr} {fd : FuncData} {ps ks : List Str} (F : Fun K x qual st f fd) (hk : ks.length = 2)
    (h : ∀ (kV doc pm : Value) (an : Option Addr) (cdv ct a b : Value), bindArgs (PySem.W.fnOf x qual (defArgs st) (defBody st) (defScope st) .none kV doc pm an cdv ct) ⟨[], ks.zip [b, a]⟩ = pure (ps.zip [a, b])) : KBn K fd ps 0 ks gW2 gW2 := by
  obtain ⟨oc, od, kV, doc, pm, an, cdv, ct, osl, rfl, lk, hcd⟩ := F.ex
  refine ⟨fun s us ws X l1 l2 => ?_, gW2_rel⟩
  rw [hk] at l2
  match us, l1, ws, l2 with
  | [], _, [b, a], _ => exact .of_eq (h kV doc pm an cdv ct a b)
theorem Fun.kb3 {K : PySem.W.Frag} {x qual : Str} {st : Stmt} {f : Addr} {fd : FuncData} {ps ks : List Str} (F : Fun K x qual st f fd) (hk : ks.length = 3)
    (h : ∀ (kV doc pm : Value) (an : Option Addr) (cdv ct a b c : Value), bindArgs (PySem.W.fnOf x qual (defArgs st) (defBody st) (defScope st) .none kV doc pm an cdv ct) ⟨[], ks.zip [c, b, a]⟩ = pure (ps.zip [a, b, c])) : KBn K fd ps 0 ks gW3 gW3 := by
  obtain ⟨oc, od, kV, doc, pm, an, cdv, ct, osl, rfl, lk, hcd⟩ := F.ex
  refine ⟨fun s us ws X l1 l2 => ?_, gW3_rel⟩
  rw [hk] at l2
  match us, l1, ws, l2 with
  | [], _, [c, b, a], _ => exact .of_eq (h kV doc pm an cdv ct a b c)
end SR

set_option maxRecDepth 100000
set_option maxHeartbeats 4000000
/-! repr of odd values, whatever repr is under way; an own base's __init__ -/
namespace SR
open PySem PySem.Spec PyProof.Rows L2
section
variable {M : Model} {A : Around} {E : Value → Shared → Prop} {s : Shared}
/-- what is under way may be named -/
theorem guards_any {α : Type} {t : Sem α} {Q : α → Shared → Prop} (h : ∀ g, wpAny M { A with guards := some g } t Q E s) : wpAny M A t Q E s := fun Γ p hΓ =>
  h (Γ.code.guards ++ guardsOf Γ.below) Γ p ⟨hΓ.1, hΓ.2.1, hΓ.2.2.1, fun g e => by cases e; rfl, hΓ.2.2.2.2⟩
theorem list_at_any {Q : Fin → Shared → Prop} {a : Addr} {o : Obj} {x : Value} {l : List Value} {n b : Nat} (ha : s.heap.get? a = some o) (hd : o.data = .seq (x :: l).toArray n)
    (h1 : wpAny M A (retStr "[...]") Q E s) (h2 : wpAny M A (do again (.builtin "list.__repr__.loop" ⟨[.ref a, rawInt 0, ← newList [], rawInt b], []⟩)) Q E s) : wpAny M A (Builtin.listReprAt b ⟨[.ref a], []⟩) Q E s := by
  intro Γ p hΓ
  have k1 := h1 Γ p hΓ
  have k2 := h2 Γ p hΓ
  unfold Builtin.listReprAt
  simp [slotArgs, Builtin.List.listItems, seqItems?, Sem.wp_load_of (h := ha), hd, stack]
  show Sem.wp M Γ (if (Γ.below.any _) = true then _ else _) _ _ p s
  split
  · exact k1
  · exact k2
end
section
variable {prog : Program} {w : World} {A : Around} {E : Value → Shared → Prop} {s : Shared} {a : Addr} {o : Obj}
def shortTo (Q : Value → Shared → Prop) (s : Shared) : Prop := ∀ (x : Str) (u : Tok) (h' : Heap) (tk : Nat), x.length ≤ 80 → (∀ b ob, s.heap.get? b = some ob → h'.get? b = some ob) → Q (.str x u) { s with heap := h', toks := tk }
theorem repr_list1 {x : Value} {tx : Str} {n : Nat} {Q : Value → Shared → Prop} (hu : A.units < cLine) (ha : s.heap.get? a = some o) (hc : o.cls = .type "list") (hd : o.data = .seq [x].toArray n) (hx : ReprIs prog w x tx) (hz : tx.length ≤ 64) (hQ : shortTo Q s) :
    wpAny (model prog w) A (pyReprObj (.ref a)) Q E s := by
  have ty : s.TypeIs (.ref a) "list" := ⟨o, ha, hc⟩
  refine wpAny_pyReprObj_slot hu ty F.slot_list_repr.toG (wpAny_call (codeAny_call_builtin F.slot_list_repr.plain F.entry_list_repr (F.slot_list_repr.check _ _ _ _ _ _ _ _ ty (F.args_list_repr_1 _) ?_)))
  refine list_at_any ha hd ?_ ?_
  · exact wpAny_bind (wpAny_mkStr (wpAny_pure ⟨_, _, rfl, hQ _ _ _ _ (by decide) fun _ _ e => e⟩) (by decide))
  · refine wpAny_bind (m := newList []) (wpAny_newObj_type ?_)
    refine wpAny_pure ⟨F.quiet_list_repr_loop _, ?_⟩
    have sz := sizeLine_eq
    have hl : (listText [tx]).length ≤ 80 := by
      have e : (listText [tx]).length = 1 + (tx).length + 1 := by
        rw [show listText [tx] = ("[" : Str) ++ tx ++ ("]" : Str) from rfl, strLen_append, strLen_append]
        rfl
      omega
    refine codeAny_list_repr_start (P := s.heap.objs.size) (ts := [tx]) (Nat.ne_of_lt (Heap.lt_size ha)) rfl (fun i y e => ?_) (Heap.get?_push_of_some _ ha) hd (Heap.get?_push_size _ rfl) (fun h' u tk k => ⟨_, _, rfl, ?_⟩) (by omega)
    · cases i with
      | zero =>
        cases e
        exact ⟨_, rfl, hx⟩
      | succ i => exact nomatch e
    · exact hQ _ _ _ _ hl fun b ob e => k b ob (Nat.ne_of_lt (Heap.lt_size e)) (Heap.get?_push_of_some _ e)
theorem repr_tup {its : Array Value} {n : Nat} {ts : List Str} {Q : Value → Shared → Prop} (hu : A.units < cLine) (ha : s.heap.get? a = some o) (hc : o.cls = .type "tuple") (hd : o.data = .seq its n) (hT : ReprAll prog w its.toList ts) (hz : (tupleText ts).length ≤ 80) (hQ : shortTo Q s) :
    wpAny (model prog w) A (pyReprObj (.ref a)) Q E s := by
  refine guards_any fun g => ?_
  have ty : s.TypeIs (.ref a) "tuple" := ⟨o, ha, hc⟩
  have sz := sizeLine_eq
  refine wpAny_pyReprObj_slot hu ty F.slot_tuple_repr (wpAny_call (codeAny_call_builtin_own (Code.quiet_builtin _ (by decide +kernel)) F.entry_tuple_repr (F.slot_tuple_repr.check _ _ _ _ _ _ _ _ ty (F.args_tuple_repr_1 _) ?_)))
  show wpOwn _ _ _ (Builtin.tupleReprAt 0 ⟨[.ref a], []⟩) _ _ s
  rw [tuple_repr_tree, tupleReprUnderWay_eq]
  refine wpOwn_bind (wpOwn_stackTailAny (g := g) rfl (tupGuardF_off _) (tupGuardF_pos _) ?_)
  cases (g.any fun c => tupGuardF (.ref a) (c, default)) with
  | true => exact wpOwn_of_wpAny (wpAny_bind (wpAny_rule (wpAny_bind (wpAny_mkStr (wpAny_pure ⟨_, _, rfl, hQ _ _ _ _ (by decide) fun _ _ e => e⟩) (by decide)))))
  | false => exact wpOwn_of_wpAny (wpAny_tupleReprRest ha hd hT (fun u tk => ⟨_, _, rfl, hQ _ _ _ _ hz fun _ _ e => e⟩) (by omega))
theorem repr_dict0 {n : Nat} {Q : Value → Shared → Prop} (hu : A.units < cLine) (ha : s.heap.get? a = some o) (hc : o.cls = .type "dict") (hd : o.data = .dict #[] n) (hsys : (a == sysModules) = false) (hQ : shortTo Q s) :
    wpAny (model prog w) A (pyReprObj (.ref a)) Q E s := by
  refine guards_any fun g => ?_
  have ty : s.TypeIs (.ref a) "dict" := ⟨o, ha, hc⟩
  have sz := sizeLine_eq
  refine wpAny_pyReprObj_slot hu ty F.slot_dict_repr (wpAny_call (codeAny_call_builtin_own (Code.quiet_builtin _ (by decide +kernel)) F.entry_dict_repr (F.slot_dict_repr.check _ _ _ _ _ _ _ _ ty (F.args_dict_repr_1 _) ?_)))
  show wpOwn _ _ _ (Builtin.dictReprAt 0 ⟨[.ref a], []⟩) _ _ s
  unfold Builtin.dictReprAt
  refine wpOwn_bind (wpOwn_of_wpAny ?_)
  unfold Builtin.Dict.dictSlotNone
  refine wpAny_bind (wpAny_notOrdered_dict ty (wpAny_pure ?_))
  rw [dictReprRunning_eq]
  refine wpOwn_bind (wpOwn_stackTailAny (g := g) rfl (dictGuardF_off _) (dictGuardF_pos _) ?_)
  cases (g.any fun c => dictGuardF (.ref a) (c, default)) with
  | true => exact wpOwn_of_wpAny (wpAny_bind (wpAny_rule (wpAny_bind (wpAny_mkStr (wpAny_pure ⟨_, _, rfl, hQ _ _ _ _ (by decide) fun _ _ e => e⟩) (by decide)))))
  | false =>
    refine wpOwn_of_wpAny ?_
    refine wpAny_bind (m := Builtin.Dict.addrOf (.ref a)) (wpAny_pure (wpAny_bind (m := Builtin.Dict.showsAll a) ?_))
    unfold Builtin.Dict.showsAll
    rw [if_neg (by rw [hsys]; exact Bool.false_ne_true)]
    refine wpAny_pure (wpAny_bind (wpAny_dictEpoch ha hd (wpAny_bind (wpAny_dictEntries ha hd ?_))))
    rw [Std.Legacy.Range.forIn_eq_forIn_range']
    refine wpAny_bind (wpAny_of_eq (a := ((#[] : Array Str), (0 : Nat))) (by first | rfl | simp) ?_)
    exact wpAny_bind (wpAny_mkStr (wpAny_pure ⟨_, _, rfl, hQ _ _ _ _ (by decide) fun _ _ e => e⟩) (by decide))
end
/-- values that are shown shortly -/
inductive Odd (K : PySem.W.Frag) (H : Hp) : V → Prop
  | non : Odd K H .non
  | bl (b : Bool) : Odd K H (.bl b)
  | int (i : Int) : i.natAbs.log2 < 100 → (Str.ofString (toString i)).length ≤ 64 → Odd K H (.int i)
  | str (x : Str) : (reprText x).length ≤ 64 → Odd K H (.str x)
  | lst {a : Addr} {x : Str} : SqL K H a [.str x] → (reprText x).length ≤ 64 → Odd K H (.ref a)
  | tup {a : Addr} {x : Str} : SqT K H a [.str x] → (reprText x).length ≤ 64 → Odd K H (.ref a)
  | tup0 {a : Addr} : SqT K H a [] → Odd K H (.ref a)
  | dic {a : Addr} : H a = some (.dK []) → Odd K H (.ref a)
  | lstI {a : Addr} {i : Int} : SqL K H a [.int i] → i.natAbs.log2 < 100 → (Str.ofString (toString i)).length ≤ 64 → Odd K H (.ref a)
  | tupI {a : Addr} {i : Int} : SqT K H a [.int i] → i.natAbs.log2 < 100 → (Str.ofString (toString i)).length ≤ 64 → Odd K H (.ref a)
def tFmtO (K : PySem.W.Frag) (te : TE) : TE := fun σ H Q => te σ H fun x H1 => Odd K H1 x ∧ ∀ y : Str, y.length ≤ 80 → Q (.str y) H1
section
variable {X : Cx} {e : Expr} {te : TE} {pos : Pos}
theorem pe_fmtO (hu : X.A.units < cLine) (he : PE X e te) : PE X (.FormattedValue e 114 none pos) (tFmtO X.K te) := by
  refine ⟨fun pins s σ H Q I h => ?_⟩
  refine wpAny_FormattedValue_repr (thn (he.run pins s σ H _ I h) fun v s1 ⟨x, H1, I1, r1, hO, q⟩ => ?_)
  have sz := sizeLine_eq
  have fin : ∀ (y : Str) (u : Tok) (h' : Heap) (tk : Nat), y.length ≤ 80 → (∀ b ob, s1.heap.get? b = some ob → h'.get? b = some ob) → wpAny (model X.prog X.w) X.A (formatField (.str y u) Str.empty) (EP X pins σ Q) X.xe { s1 with heap := h', toks := tk } := fun y u h' tk hy k =>
    wpAny_formatField_str ⟨.str y, H1, I1.kept (t' := tk) k, ⟨_, rfl⟩, q y hy⟩ ⟨.str y, H1, (I1.kept (t' := tk) k).tok _, ⟨_, rfl⟩, q y hy⟩ (by omega)
  have kp : ∀ b ob, s1.heap.get? b = some ob → s1.heap.get? b = some ob := fun _ _ e => e
  cases hO with
  | non =>
    cases r1
    exact pyReprObj_none (fin _ _ s1.heap _ (by decide) kp)
  | bl b =>
    cases r1
    exact pyReprObj_bool (fin _ _ s1.heap _ (by cases b <;> decide) kp)
  | int i h1 h2 =>
    obtain ⟨t, rfl⟩ := r1
    exact pyReprObj_int (by omega) (fin _ _ s1.heap _ (Nat.le_trans h2 (by decide)) kp)
  | str x hz =>
    obtain ⟨t, rfl⟩ := r1
    exact pyReprObj_str (fin _ _ s1.heap _ (by omega) kp) (by omega)
  | @lst a x hl hz =>
    obtain rfl : v = Value.ref a := r1
    obtain ⟨its, rv, ⟨o, n, ho, hc, _, hdat⟩, _⟩ := I1.list hl
    obtain ⟨u, rfl, t, rfl⟩ := vals1 rv
    exact repr_list1 hu ho hc hdat (.str x t (by omega)) hz fun y u h' tk hy k => fin y u h' tk hy k
  | @tup a x hl hz =>
    obtain rfl : v = Value.ref a := r1
    obtain ⟨its, rv, ⟨o, ho, hc, n, hdat⟩, _⟩ := I1.tuple hl
    obtain ⟨u, rfl, t, rfl⟩ := vals1 rv
    refine repr_tup (ts := [reprText x]) hu ho hc hdat (.cons (.str x t (by omega)) .nil) ?_ fun y u h' tk hy k => fin y u h' tk hy k
    have e : (tupleText [reprText x]).length = 1 + (reprText x).length + 2 := by
      unfold tupleText
      rw [strLen_append, strLen_append]
      rfl
    omega
  | @tup0 a hl =>
    obtain rfl : v = Value.ref a := r1
    obtain ⟨its, rv, ⟨o, ho, hc, n, hdat⟩, _⟩ := I1.tuple hl
    cases rv
    exact repr_tup (ts := []) hu ho hc hdat .nil (by decide) fun y u h' tk hy k => fin y u h' tk hy k
  | @dic a hl =>
    obtain rfl : v = Value.ref a := r1
    obtain ⟨_, ns, vs, rel, o, es, ep, ho, hx, hdat, _, hp, _⟩ := dk_of I1.hok hl
    cases rel
    have e0 : es = #[] := by
      obtain ⟨l⟩ := es
      have hp' : Pairs (mixKind X.prog X.w) l [] := hp
      cases hp'
      rfl
    subst e0
    exact repr_dict0 hu ho hx.1 hdat ns fun y u h' tk hy k => fin y u h' tk hy k
  | @lstI a i hl h1 h2 =>
    obtain rfl : v = Value.ref a := r1
    obtain ⟨its, rv, ⟨o, n, ho, hc, _, hdat⟩, _⟩ := I1.list hl
    obtain ⟨u, rfl, t, rfl⟩ := vals1 rv
    exact repr_list1 hu ho hc hdat (ReprIs.int t (by omega)) h2 fun y u h' tk hy k => fin y u h' tk hy k
  | @tupI a i hl h1 h2 =>
    obtain rfl : v = Value.ref a := r1
    obtain ⟨its, rv, ⟨o, ho, hc, n, hdat⟩, _⟩ := I1.tuple hl
    obtain ⟨u, rfl, t, rfl⟩ := vals1 rv
    refine repr_tup (ts := [(toString i : Str)]) hu ho hc hdat (.cons (ReprIs.int t (by omega)) .nil) ?_ fun y u h' tk hy k => fin y u h' tk hy k
    have e : (tupleText [(toString i : Str)]).length = 1 + (toString i : Str).length + 2 := by
      unfold tupleText
      rw [strLen_append, strLen_append]
      rfl
    have h2 : (toString i : Str).length ≤ 64 := h2
    omega
/-- Z.__init__(self, ..), Z an own class whose __init__ is ValueError's -/
structure ZinV (K : PySem.W.Frag) (mg : Str → Option Value) (x : Str) (Z : Addr) : Prop where
  mgZ : mg x = some (.ref Z)
  cr : ClX.CRead K Z (.type "type")
  vI : PySem.W.findCls K (.ref Z) (.type "type") "__init__" = some (.val (.builtin "ValueError.__init__"))
theorem pe_reinitZ {es : List Expr} {ta : TA} {x : Str} {Z : Addr} {p1 p2 : Pos} {pl : Sem Bool} (hg : Gl X x) (z : ZinV X.K X.mg x Z) (ha : PA X (e :: es) ta) (hdb : (x == ("__debug__" : Str)) = false := by decide)
    (hc : eval (.Call (.Attribute (.Name x p1) "__init__" p2) (e :: es) [] pos) X.env = (do
      let ov ← eval (.Name x p1) X.env
      standAt p2.atName
      let (f, first) ← holding [ov] (getMethod ov "__init__" pl)
      callWith pos f first (backTo pos (starEach (e :: es) X.env)) (backToKw pos (keywordEach [] X.env))) := by rfl)
    (he : starEach (e :: es) X.env = (false, eval e X.env) :: starEach es X.env := by rfl) (hpl : (backTo pos (starEach es X.env)).any (·.1) = false := by rfl) :
    PE X (.Call (.Attribute (.Name x p1) "__init__" p2) (e :: es) [] pos) (tIniB "ValueError.__new__" tlV X.K ta) := by
  refine ⟨fun pins s σ H Q I h => ?_⟩
  refine PySem.W.methodCall_KW (ld_glob I hg z.mgZ ?_ hdb) hc
  refine PySem.W.method_cls I.kIn z.cr.ga (PySem.W.cls_value I.kIn z.cr.rd z.vI (by decide +kernel) ?_)
  show wpAny _ _ (callWith pos (Value.builtin "ValueError.__init__") [] (backTo pos (starEach (e :: es) X.env)) []) _ _ _
  refine PyProof.Rows.callWith_method1 (thn (ha.run pos pins _ σ H _ (I.tok _) h) fun us s1 ⟨vs, H1, I1, r1, a, C, ws, ev, hl, O, ea, q⟩ => ?_) he hpl
  subst ev
  cases r1 with
  | @cons _ u0 _ ur ra rw' =>
    obtain rfl : u0 = Value.ref a := ra
    exact oinitB_ok baseV O I1 ea (by rw [← Paired.length rw', sizeLine_eq]; omega) fun s' J => ⟨.non, H1, J, rfl, q⟩
end
end SR

set_option maxRecDepth 100000
set_option maxHeartbeats 4000000
namespace SS
open PySem L2
def top (i : Nat) : Stmt := PySem.Challenge.pw_sealedslots_k14_steps_and_passed.main.body.getD i (.Pass ⟨0, 0, 0, 0⟩)
abbrev sDraw : Stmt := top 32
theorem scDraw : FnScope ["_law_rng_here", "_law_many", "_law_digit"] ["_law_rng_here", "_law_many"] (defScope sDraw) := ⟨rfl, rfl, rfl, by decide +kernel, rfl, by decide +kernel, by decide +kernel⟩

/-- the built-ins that the top leaves alone -/
structure Bl (mg : Str → Option Value) : Prop where
  len : mg "len" = none
  range : mg "range" = none
  int : mg "int" = none
  list : mg "list" = none
  dict : mg "dict" = none
  tuple : mg "tuple" = none
  set : mg "set" = none
  sorted : mg "sorted" = none
  all : mg "all" = none
  any : mg "any" = none
  max : mg "max" = none
  min : mg "min" = none
  abs : mg "abs" = none
  divmod : mg "divmod" = none
  repr : mg "repr" = none
  isinstance : mg "isinstance" = none
  enumerate : mg "enumerate" = none
  str : mg "str" = none
  bool : mg "bool" = none
/-- the numbers of a drawing list -/
def RngOk (a b : Int) : Prop := 0 ≤ a ∧ 0 ≤ b ∧ b < 4294967296
def spDraw1 : Sp := fun vs H Q _ => ∃ (r : Addr) (m a b : Int), vs = [.ref r, .int m] ∧ 0 < m ∧ m < 1000 ∧ H r = some (.lst [.int a, .int b]) ∧ RngOk a b ∧
  ∀ (d a' b' : Int) (H' : Hp), 0 ≤ d → d < m → RngOk a' b' → (∀ x o, x ≠ r → H x = some o → H' x = some o) → H' r = some (.lst [.int a', .int b']) → Q (.int d) H'
section
variable {P : Program} {w : World} {K : PySem.W.Frag} {mg : Str → Option Value} {base : Heap}
theorem ok_draw1 {f : Addr} {fd : FuncData} (F : Fun K "_law_draw" "_law_draw" sDraw f fd) (B : Bl mg) : FnOk P w K mg base CX0 1 f fd ["_law_rng_here", "_law_many"] spDraw1 := by
  refine F.ok scDraw (fun vs H Q E h => ?_) (fun cdv A outer s H vs Q E hr h => ?_)
  · obtain ⟨r, m, a, b, rfl, _⟩ := h
    rfl
  · obtain ⟨r, m, a, b, rfl, m0, m1, hR, ⟨a0, b0, b1⟩, k⟩ := h
    refine ⟨_, pss_cons (ps_if (pt_cmpR op_gt (pe_ix ix_list (pv 0) pe_int (fun _ _ => rfl)) pe_int (nomark _))
        (pss_cons (ps_asg (pe_callB call_divmod (by rfl) B.divmod (by decide +kernel) (pa_cons (pe_ix ix_list (pv 0) pe_int (fun _ _ => rfl)) (pa_cons (pv 1) pa_nil)))
            (pg_tup rfl (pgs_cons (pg_sub (pv 0) pe_int set_list) (pgs_cons (pg_name (i := 2) scDraw.nd rfl (.inl rfl)) pgs_nil))))
          (pss_one (ps_ret (pv 2)))) pss_nil)
      (pss_cons (ps_asg (pe_op op_mod (pe_callTy call_int1 (by rfl) B.int (by decide +kernel) (pa_cons (pe_op op_add (pe_op op_mul (pe_ix ix_list (pv 0) pe_int (fun _ _ => rfl)) pe_int) pe_int) pa_nil)) pe_int)
          (pg_sub (pv 0) pe_int set_list))
      (pss_one (ps_ret (pe_op op_mod (pe_op op_fdiv (pe_op op_mod (pe_callTy call_int1 (by rfl) B.int (by decide +kernel) (pa_cons (pe_op op_mul (pe_ix ix_list (pv 0) pe_int (fun _ _ => rfl)) (pe_ix ix_list (pv 0) pe_int (fun _ _ => rfl))) pa_nil)) pe_int) pe_int) (pv 1))))), ?_⟩
    refine ⟨_, rfl, r, _, _, _, rfl, rfl, SqL.of hR, rfl, _, _, rfl, rfl, _, rfl, ?_⟩
    refine ite2 (fun ha => ?_) (fun ha => ?_)
    · refine ⟨_, rfl, r, _, _, _, rfl, rfl, SqL.of hR, rfl, _, rfl, _, _, rfl, ⟨by omega, by omega⟩, fun p hp => ?_⟩
      have nrp : r ≠ p := ne_of_none hR hp
      refine ⟨p, _, rfl, SqT.of upd_same, rfl, _, _, rfl, _, rfl, r, _, _, 0, rfl, rfl, (by rw [upd_ne nrp]; exact hR), rfl, _, _, rfl, rfl, _, rfl, ?_⟩
      refine k (a % m) (a / m) b _ (Int.emod_nonneg _ (by omega)) (Int.emod_lt_of_pos _ m0) ⟨Int.ediv_nonneg a0 (by omega), b0, b1⟩ (fun x o hx e => ?_) upd_same
      rw [upd_ne hx, upd_ne (ne_of_none e hp)]
      exact e
    · refine ⟨_, rfl, r, _, _, _, rfl, rfl, SqL.of hR, rfl, _, _, rfl, rfl, .inl ⟨by omega, by omega⟩, _, _, rfl, rfl, .inl ⟨_, rfl, _, _, rfl, rfl, (by show (0 : Int) < 2147483563; decide), ?_⟩⟩
      refine ⟨_, rfl, r, _, _, 1, rfl, rfl, hR, rfl, ?_⟩
      have b2 : 0 ≤ (b * 39373 + 30011) % 2147483563 := Int.emod_nonneg _ (by decide)
      have b3 : (b * 39373 + 30011) % 2147483563 < 2147483563 := Int.emod_lt_of_pos _ (by decide)
      refine ⟨_, rfl, r, _, _, _, rfl, rfl, SqL.of upd_same, rfl, _, rfl, r, _, _, _, rfl, rfl, SqL.of upd_same, rfl, _, _, rfl, rfl, .inl ⟨by omega, by omega⟩, .inl ⟨_, rfl, _, _, rfl, rfl, (by show (0 : Int) < 2147483497; decide), _, _, rfl, rfl, ⟨by decide, by decide⟩, _, rfl, _, _, rfl, rfl, m0, ?_⟩⟩
      refine k _ a ((b * 39373 + 30011) % 2147483563) _ (Int.emod_nonneg _ (by omega)) (Int.emod_lt_of_pos _ m0) ⟨a0, b2, by omega⟩ (fun x o hx e => ?_) upd_same
      rw [upd_ne hx]
      exact e

/-! ### the drawing list, hidden -/
def rngO (r : Addr) : HO := .ext fun h => ∃ (its : List Value) (n : Nat) (a b : Int), RngOk a b ∧ Vals [.int a, .int b] its ∧ h.get? r = some { cls := .type "list", data := .seq its.toArray n }
theorem rngO_ok {H : Hp} {h : Heap} {r : Addr} {a b : Int} (z : RngOk a b) (o : ObjOk P w H h r (.lst [.int a, .int b])) (H' : Hp) : ObjOk P w H' h r (rngO r) := by
  obtain ⟨_, its, n, v, e⟩ := o
  refine ⟨⟨its, n, a, b, z, v, e⟩, ⟨_, e⟩, fun h1 h2 q k => ?_⟩
  obtain ⟨its, n, a, b, z, v, e⟩ := q
  exact ⟨its, n, a, b, z, v, k _ e⟩
theorem rngO_open {H : Hp} {h : Heap} {r : Addr} (o : ObjOk P w H h r (rngO r)) (H' : Hp) : ∃ a b, RngOk a b ∧ ObjOk P w H' h r (.lst [.int a, .int b]) := by
  obtain ⟨⟨its, n, a, b, z, v, e⟩, _, _⟩ := o
  exact ⟨a, b, z, by show 2 ≤ sizeLine; decide, its, n, v, e⟩
theorem hok_swap {H : Hp} {h : Heap} {r : Addr} {u o : HO} (k : HOk P w H h) (hr : H r = some u) (nt : ∀ xs, u ≠ .tup xs) (nw : ∀ x, u ≠ .own x) (new : ObjOk P w (upd H r o) h r o) : HOk P w (upd H r o) h := fun b v e => by
  by_cases hb : b = r
  · subst hb; rw [upd_same] at e; cases e; exact new
  · rw [upd_ne hb] at e
    refine (k b v e).stay (fun _ _ _ q => q) (fun c q => ?_) fun c xs q => ?_
    · rw [upd_ne (fun z => by subst z; rw [hr] at q; exact nw _ (Option.some.inj q))]; exact q
    · rw [upd_ne (fun z => by subst z; rw [hr] at q; exact nt _ (Option.some.inj q))]; exact q
def spDraw : Sp := fun vs H Q _ => ∃ (r : Addr) (m : Int), vs = [.ref r, .int m] ∧ 0 < m ∧ m < 1000 ∧ H r = some (rngO r) ∧ ∀ (d : Int) (H' : Hp), 0 ≤ d → d < m → Same H H' → Q (.int d) H'
theorem ok_draw {f : Addr} {fd : FuncData} {k : Nat} {ps : List Str} (F : FnOk P w K mg base CX0 k f fd ps spDraw1) (hps : ps.length = 2) : FnOk P w K mg base CX0 k f fd ps spDraw := by
  refine ⟨fun vs H Q E h => ?_, fun A outer s H args us vs Q E hr e0 hb hv hs => ?_⟩
  · obtain ⟨r, m, rfl, _⟩ := h
    exact hps.symm
  · obtain ⟨r, m, rfl, m0, m1, hR, k⟩ := hs
    obtain ⟨a, b, z, ob⟩ := rngO_open (e0.hok r _ hR) (upd H r (.lst []))
    have ob' : ∀ H', ObjOk P w H' s.heap r (.lst [.int a, .int b]) := fun _ => ob
    have hN : ∀ {c : Addr}, H c = none → upd H r (.lst [.int a, .int b]) c = none := fun {c} q => by rw [upd_ne (fun z => by subst z; rw [hR] at q; cases q)]; exact q
    have e1 : Env0 P w K mg base A outer s (upd H r (.lst [.int a, .int b])) := ⟨e0.frames, e0.mod, fun c o q => ⟨(e0.bs c o q).1, hN (e0.bs c o q).2⟩, e0.bsz, e0.funs, fun c q => hN (e0.frf c q), hok_swap e0.hok hR (fun _ => nofun) (fun _ => nofun) (ob' _), e0.bare⟩
    refine codeAny_mono (F.run A outer s _ args us _ (fun v H' => ∃ d a' b', v = .int d ∧ 0 ≤ d ∧ d < m ∧ RngOk a' b' ∧ (∀ x o, x ≠ r → H x = some o → H' x = some o) ∧ H' r = some (.lst [.int a', .int b'])) E hr e1 hb hv
      ⟨r, m, a, b, rfl, m0, m1, upd_same, z, fun d a' b' H' h0 h1 hz hk hr' => ⟨d, a', b', rfl, h0, h1, hz, fun x o hx q => hk x o hx (by rw [upd_ne hx]; exact q), hr'⟩⟩) fun res s' hres => ?_
    unfold CR at hres ⊢
    split at hres
    · obtain ⟨v, H', os, bare, un, hok, rv, d, a', b', rfl, h0, h1, hz, hk, hr'⟩ := hres
      refine ⟨.int d, upd H' r (rngO r), os, bare, ?_, hok_swap hok hr' (fun _ => nofun) (fun _ => nofun) (rngO_ok hz (hok r _ hr') _), rv, k d _ h0 h1 fun c o q => ?_⟩
      · refine ⟨fun c o q n => un.keep c o q (hN n), fun c o q n => un.slot c o q (hN n), fun c o q n hx => ?_, un.there, fun c xs q => ?_, fun c o u q => ?_, fun c ps q => ?_⟩
        · have n' := un.free c o q (hN n) hx
          rw [upd_ne (fun z => by subst z; rw [hR] at n; cases n)]
          exact n'
        · have nc : c ≠ r := fun z => by subst z; rw [hR] at q; cases q
          rw [upd_ne nc]; exact un.tups c xs (by rw [upd_ne nc]; exact q)
        · have nc : c ≠ r := fun z => by subst z; rw [hR] at q; cases q
          rw [upd_ne nc]; exact un.frzs c o u (by rw [upd_ne nc]; exact q)
        · have nc : c ≠ r := fun z => by subst z; rw [hR] at q; cases q
          obtain ⟨more, e⟩ := un.tbls c ps (by rw [upd_ne nc]; exact q)
          exact ⟨more, by rw [upd_ne nc]; exact e⟩
      · by_cases hc : c = r
        · subst hc; rw [hR] at q; cases q; exact upd_same
        · rw [upd_ne hc]; exact hk c o hc q
    · exact hres
    · exact hres
end
end SS

set_option maxRecDepth 100000
set_option maxHeartbeats 4000000
namespace SS
open PySem L2
abbrev sRng : Stmt := top 31
theorem scRng : FnScope ["_law_script", "_law_k", "_law_cell"] ["_law_script", "_law_k"] (defScope sRng) := ⟨rfl, rfl, rfl, by decide +kernel, rfl, by decide +kernel, by decide +kernel⟩
def spRng1 (K : PySem.W.Frag) : Sp := fun vs H Q _ => ∃ (a : Addr) (k : Int) (ns : List Int), vs = [.ref a, .int k] ∧ SqL K H a (ns.map V.int) ∧ 0 ≤ k ∧ k < 1000 ∧
  ∀ (x y : Int) (p : Addr), RngOk x y → H p = none → Q (.ref p) (upd H p (.lst [.int x, .int y]))
section
variable {P : Program} {w : World} {K : PySem.W.Frag} {mg : Str → Option Value} {base : Heap}
theorem absI_nn (i : Int) : 0 ≤ (if i < 0 then -i else i) := by split <;> omega
theorem rng_nums (k i : Int) : RngOk (if (if i < 0 then -i else i) - 10 ^ (18 : Int).toNat > 0 then (if i < 0 then -i else i) - 10 ^ (18 : Int).toNat else 0) (((if i < 0 then -i else i) % 2147483549 + 1) * (2 * k + 3) ^ (3 : Int).toNat % 2147483543 + 1) := by
  refine ⟨?_, ?_, ?_⟩
  · split <;> omega
  · have := Int.emod_nonneg (((if i < 0 then -i else i) % 2147483549 + 1) * (2 * k + 3) ^ (3 : Int).toNat) (show (2147483543 : Int) ≠ 0 by decide)
    omega
  · have := Int.emod_lt_of_pos (((if i < 0 then -i else i) % 2147483549 + 1) * (2 * k + 3) ^ (3 : Int).toNat) (show (0 : Int) < 2147483543 by decide)
    omega
theorem ok_rng1 {f : Addr} {fd : FuncData} (F : Fun K "_law_rng" "_law_rng" sRng f fd) (B : Bl mg) : FnOk P w K mg base CX0 1 f fd ["_law_script", "_law_k"] (spRng1 K) := by
  refine F.ok scRng (fun vs H Q E h => ?_) (fun cdv A outer s H vs Q E hr h => ?_)
  · obtain ⟨a, k, ns, rfl, _⟩ := h
    rfl
  · obtain ⟨a, k, ns, rfl, hS, k0, k1, hQ⟩ := h
    refine ⟨_, pss_cons (ps_set (i := 2) scRng.nd rfl (.inl rfl) (pe_op op_add (pe_op op_mul pe_int (pv 1)) pe_int))
      (pss_cons (ps_if (pt_cmpR op_lt (pv 1) (pe_callB call_len_seq (by rfl) B.len boot_len (pa_cons (pv 0) pa_nil)) (nomark _))
        (pss_one (ps_set (i := 2) scRng.nd rfl (.inl rfl) (pe_ix ix_list (pv 0) (pv 1) (fun _ _ => rfl)))) pss_nil)
      (pss_one (ps_ret (pe_lst (pa_cons (pe_callB (call_max2 rfl) (by rfl) B.max (by decide +kernel) (pa_cons pe_int (pa_cons (pe_op op_sub (pe_callB call_abs (by rfl) B.abs (by decide +kernel) (pa_cons (pv 2) pa_nil)) (pe_op op_pow pe_int pe_int)) pa_nil)))
        (pa_cons (pe_op op_add (pe_op op_mod (pe_op op_mul (pe_callTy call_int1 (by rfl) B.int (by decide +kernel) (pa_cons (pe_op op_add (pe_op op_mod (pe_callTy call_int1 (by rfl) B.int (by decide +kernel) (pa_cons (pe_callB call_abs (by rfl) B.abs (by decide +kernel) (pa_cons (pv 2) pa_nil)) pa_nil)) pe_int) pe_int) pa_nil)) (pe_op op_pow (pe_op op_add (pe_op op_mul pe_int (pv 1)) pe_int) pe_int)) pe_int) pe_int) pa_nil)))))), ?_⟩
    have fin : ∀ (i : Int) (D : Ends) (σ : St), D.rt = Q → σ[1]? = some (some (V.int k)) → σ[2]? = some (some (V.int i)) → (tRet (tLst (tCons (tCB (fun xs H Q => ∃ i j, xs = [V.int i, V.int j] ∧ Q (V.int (if j > i then j else i)) H) (tCons (tC (V.int 0)) (tCons (tOp (rI0 fun i j => .int (i - j)) (tCB (fun xs H Q => ∃ i, xs = [V.int i] ∧ Q (V.int (if i < 0 then -i else i)) H) (tCons (tVar 2) tNil)) (tOp (rI CPow fun i j => .int (i ^ j.toNat)) (tC (V.int 10)) (tC (V.int 18)))) tNil))) (tCons (tOp (rI0 fun i j => .int (i + j)) (tOp (rI (fun _ j => 0 < j) fun i j => .int (i % j)) (tOp (rI CMul fun i j => .int (i * j)) (tCB (fun xs H Q => (∃ i, xs = [V.int i] ∧ Q (V.int i) H) ∨ ∃ k, xs = [V.bl k] ∧ Q (V.int (if k = true then 1 else 0)) H) (tCons (tOp (rI0 fun i j => .int (i + j)) (tOp (rI (fun _ j => 0 < j) fun i j => .int (i % j)) (tCB (fun xs H Q => (∃ i, xs = [V.int i] ∧ Q (V.int i) H) ∨ ∃ k, xs = [V.bl k] ∧ Q (V.int (if k = true then 1 else 0)) H) (tCons (tCB (fun xs H Q => ∃ i, xs = [V.int i] ∧ Q (V.int (if i < 0 then -i else i)) H) (tCons (tVar 2) tNil)) tNil)) (tC (V.int 2147483549))) (tC (V.int 1))) tNil)) (tOp (rI CPow fun i j => .int (i ^ j.toNat)) (tOp (rI0 fun i j => .int (i + j)) (tOp (rI CMul fun i j => .int (i * j)) (tC (V.int 2)) (tVar 1)) (tC (V.int 3))) (tC (V.int 3)))) (tC (V.int 2147483543))) (tC (V.int 1))) tNil)))) D σ H := by
      intro i D σ hD e1 e2
      have p0 : 0 ≤ (if i < 0 then -i else i) % 2147483549 := Int.emod_nonneg _ (by decide)
      have p1 : (if i < 0 then -i else i) % 2147483549 < 2147483549 := Int.emod_lt_of_pos _ (by decide)
      refine ⟨_, e2, _, rfl, _, _, rfl, rfl, ⟨by decide, by decide, by decide⟩, _, _, rfl, rfl, _, _, rfl, ?_⟩
      refine ⟨_, e2, _, rfl, .inl ⟨_, rfl, _, _, rfl, rfl, (by show (0 : Int) < 2147483549; decide), _, _, rfl, rfl, .inl ⟨_, rfl, ?_⟩⟩⟩
      refine ⟨_, e1, _, _, rfl, rfl, .inl ⟨by decide, by decide⟩, _, _, rfl, rfl, _, _, rfl, rfl, ⟨by decide, by decide, by omega⟩, _, _, rfl, rfl, .inl ⟨by omega, by omega⟩, _, _, rfl, rfl, (by show (0 : Int) < 2147483543; decide), _, _, rfl, rfl, ?_⟩
      refine ⟨(by show 2 ≤ sizeLine; decide), fun p hp => ?_⟩
      rw [hD]
      exact hQ _ _ p (rng_nums k i) hp
    refine ⟨_, rfl, _, _, rfl, rfl, .inl ⟨by decide, by decide⟩, _, _, rfl, rfl, ?_⟩
    refine ⟨_, rfl, _, rfl, a, _, rfl, .inl hS, _, _, rfl, rfl, _, rfl, ?_⟩
    refine ite2 (fun hk => ?_) (fun hk => ?_)
    · have hk' : k < ((ns.map V.int).length : Int) := of_decide_eq_true hk
      have hlt : k.toNat < ns.length := by rw [List.length_map] at hk'; omega
      have e : atI (ns.map V.int) k = some (V.int ns[k.toNat]) := by
        have := atI_nat (xs := ns.map V.int) (j := k.toNat) (v := V.int ns[k.toNat]) (by simp [hlt])
        rw [Int.toNat_of_nonneg k0] at this
        exact this
      refine ⟨_, rfl, _, rfl, a, _, _, _, rfl, rfl, hS, e, ?_⟩
      exact fin _ _ _ rfl rfl rfl
    · exact fin _ _ _ rfl rfl rfl
end
end SS

set_option maxRecDepth 100000
set_option maxHeartbeats 4000000
namespace SS
open PySem L2 SR
/-- a def of the top that may be called: where it stands, what it promises -/
structure Cal (P : Program) (w : World) (K : PySem.W.Frag) (mg : Str → Option Value) (base : Heap) (x : Str) (k : Nat) (ps : List Str) (sp : Sp) : Prop where
  ex : ∃ f fd, FnOk P w K mg base CX0 k f fd ps sp ∧ mg x = some (.ref f) ∧ PySem.W.keepIn K (.ref f) = true ∧ Binds K fd ps []
theorem pe_cal {X : Cx} {x : Str} {k : Nat} {ps : List Str} {sp : Sp} {e : Expr} {es : List Expr} {t : TA} {p pos : Pos} (C : Cal X.prog X.w X.K X.mg X.base x k ps sp) (hr : Room k X.A) (ha : PA X (e :: es) t) (hg : Gl X x := by rfl) (hdb : (x == ("__debug__" : Str)) = false := by decide)
    (he : starEach (e :: es) X.env = (false, eval e X.env) :: starEach es X.env := by rfl) (hpl : (backTo pos (starEach es X.env)).any (·.1) = false := by rfl) : PE X (.Call (.Name x p) (e :: es) [] pos) (tCall sp [] E0 t) := by
  obtain ⟨f, fd, F, m, kp, b⟩ := C.ex
  exact pe_call F hr hg m kp b .nil pass0 ha hdb he hpl
theorem same_new {H : Hp} {p : Addr} {o : HO} (h : H p = none) : Same H (upd H p o) := fun a u e => by
  rw [upd_ne (ne_of_none e h)]
  exact e
theorem same_upd {H H' : Hp} {p : Addr} {o : HO} (e : Same H H') (h : H p = none) : Same H (upd H' p o) := fun a u ha => by
  rw [upd_ne (ne_of_none ha h)]
  exact e a u ha
theorem seqIx {d : Int} {n : Nat} (h0 : 0 ≤ d) (h1 : d < (n : Int)) : seqIndex? d n = some d.toNat := by
  unfold seqIndex?
  have e : (if d < 0 then d + (n : Int) else d) = d := if_neg (by omega)
  simp only [e, h0, h1, decide_true, Bool.and_self, if_true]
theorem map_eraseIdx {α β : Type} (f : α → β) : ∀ (l : List α) (k : Nat), (l.map f).eraseIdx k = (l.eraseIdx k).map f
  | [], _ => rfl
  | _ :: _, 0 => rfl
  | x :: l, k + 1 => by
    show f x :: (l.map f).eraseIdx k = f x :: (l.eraseIdx k).map f
    rw [map_eraseIdx f l k]
section
variable {P : Program} {w : World} {K : PySem.W.Frag} {mg : Str → Option Value} {base : Heap}
/-! ### the drawing list, made -/
def spRng (K : PySem.W.Frag) : Sp := fun vs H Q _ => ∃ (a : Addr) (k : Int) (ns : List Int), vs = [.ref a, .int k] ∧ SqL K H a (ns.map V.int) ∧ 0 ≤ k ∧ k < 1000 ∧
  ∀ (p : Addr) (H' : Hp), H p = none → Same H H' → H' p = some (rngO p) → Q (.ref p) H'
theorem ok_rng {f : Addr} {fd : FuncData} {k : Nat} {ps : List Str} (F : FnOk P w K mg base CX0 k f fd ps (spRng1 K)) (hps : ps.length = 2) : FnOk P w K mg base CX0 k f fd ps (spRng K) := by
  refine ⟨fun vs H Q E h => ?_, fun A outer s H args us vs Q E hr e0 hb hv hs => ?_⟩
  · obtain ⟨a, k, ns, rfl, _⟩ := h
    exact hps.symm
  · obtain ⟨a, k, ns, rfl, hS, k0, k1, hQ⟩ := hs
    refine codeAny_mono (F.run A outer s _ args us _ (fun v H' => ∃ x y p, v = .ref p ∧ RngOk x y ∧ H p = none ∧ H' = upd H p (.lst [.int x, .int y])) E hr e0 hb hv
      ⟨a, k, ns, rfl, hS, k0, k1, fun x y p z hp => ⟨x, y, p, rfl, z, hp, rfl⟩⟩) fun res s' hres => ?_
    unfold CR at hres ⊢
    split at hres
    · obtain ⟨v, H', os, bare, un, hok, rv, x, y, p, rfl, z, hp, rfl⟩ := hres
      have hpl : upd H p (.lst [.int x, .int y]) p = some (.lst [.int x, .int y]) := upd_same
      have eq : upd (upd H p (.lst [.int x, .int y])) p (rngO p) = upd H p (rngO p) := upd_upd
      refine ⟨.ref p, upd H p (rngO p), os, bare, ?_, ?_, rv, hQ p _ hp (same_new hp) upd_same⟩
      · refine ⟨un.keep, un.slot, fun c o q n hx => ?_, un.there, fun c xs q => ?_, fun c o u q => ?_, fun c ps q => ?_⟩
        · have n' := un.free c o q n hx
          have nc : c ≠ p := fun e => by rw [e, hpl] at n'; cases n'
          rw [upd_ne nc]; exact n
        · rw [upd_ne (ne_of_none q hp)]; exact q
        · rw [upd_ne (ne_of_none q hp)]; exact q
        · exact ⟨#[], by rw [upd_ne (ne_of_none q hp), q]; simp⟩
      · rw [← eq]
        exact hok_swap hok hpl (fun _ => nofun) (fun _ => nofun) (rngO_ok z (hok p _ hpl) _)
    · exact hres
    · exact hres
/-! ### _law_choice -/
abbrev sChoice : Stmt := top 33
theorem scChoice : FnScope ["_law_rng_here", "_law_some"] ["_law_rng_here", "_law_some"] (defScope sChoice) := ⟨rfl, rfl, rfl, by decide +kernel, rfl, by decide +kernel, by decide +kernel⟩
def spChoice (K : PySem.W.Frag) : Sp := fun vs H Q _ => (∃ (r l : Addr) (xs : List V), vs = [.ref r, .ref l] ∧ H r = some (rngO r) ∧ SqL K H l xs ∧ 0 < xs.length ∧ xs.length < 1000 ∧ ∀ x H', x ∈ xs → Same H H' → Q x H') ∨
  (∃ (r : Addr) (z : Str), vs = [.ref r, .str z] ∧ H r = some (rngO r) ∧ 0 < z.cps.toList.length ∧ z.cps.toList.length < 1000 ∧ ∀ c H', c ∈ z.cps.toList → Same H H' → Q (ltV c) H')
theorem atI_in {α : Type} {xs : List α} {d : Int} (h0 : 0 ≤ d) (h1 : d < (xs.length : Int)) : ∃ x, atI xs d = some x ∧ x ∈ xs := by
  have hl : d.toNat < xs.length := by omega
  refine ⟨xs[d.toNat], ?_, List.getElem_mem hl⟩
  have := atI_nat (xs := xs) (j := d.toNat) (v := xs[d.toNat]) (by simp [hl])
  rwa [Int.toNat_of_nonneg h0] at this
theorem ok_choice {f : Addr} {fd : FuncData} (F : Fun K "_law_choice" "_law_choice" sChoice f fd) (B : Bl mg) (D : Cal P w K mg base "_law_draw" 1 ["_law_rng_here", "_law_many"] spDraw) : FnOk P w K mg base CX0 2 f fd ["_law_rng_here", "_law_some"] (spChoice K) := by
  refine F.ok scChoice (fun vs H Q E h => ?_) (fun cdv A outer s H vs Q E hr h => ?_)
  · rcases h with ⟨r, l, xs, rfl, _⟩ | ⟨r, z, rfl, _⟩ <;> rfl
  · refine ⟨_, pss_one (ps_ret (pe_ix ix_seq (pv 1) (pe_cal D hr (pa_cons (pv 0) (pa_cons (pe_callB call_len (by rfl) B.len boot_len (pa_cons (pv 1) pa_nil)) pa_nil))) (fun _ _ => rfl))), ?_⟩
    rcases h with ⟨r, l, xs, rfl, hR, hS, h0, h1, k⟩ | ⟨r, z, rfl, hR, h0, h1, k⟩
    · refine ⟨_, rfl, _, rfl, _, rfl, _, xs.length, rfl, .inl ⟨xs, hS, rfl⟩, r, _, rfl, by omega, by omega, hR, fun d H' d0 d1 e => ?_⟩
      obtain ⟨x, hx, hm⟩ := atI_in d0 d1
      exact .inl ⟨l, xs, d, x, rfl, rfl, e.seq hS, hx, k x H' hm e⟩
    · have hz : z.length ≤ sizeLine := Nat.le_trans (Nat.le_of_lt (show z.length < 1000 by simpa [Str.length] using h1)) (by decide)
      refine ⟨_, rfl, _, rfl, _, rfl, _, z.length, rfl, ⟨hz, rfl⟩, r, _, rfl, by have : z.length = z.cps.toList.length := by simp [Str.length]
                                                                                 omega, by have : z.length = z.cps.toList.length := by simp [Str.length]
                                                                                           omega, hR, fun d H' d0 d1 e => ?_⟩
      obtain ⟨c, hc, hm⟩ := atI_in (xs := z.cps.toList) d0 (by have : z.length = z.cps.toList.length := by simp [Str.length]
                                                               omega)
      exact .inr (.inr ⟨z, d, c, rfl, rfl, hz, hc, k c H' hm e⟩)
end
end SS

set_option maxRecDepth 100000
set_option maxHeartbeats 4000000
namespace SS
open PySem L2 SR
abbrev ABC : Str := "abcdefghijklmnopqrstuvwxyz"
/-- len of a list or a tuple -/
def rLenQ (K : PySem.W.Frag) : List V → Hp → VK → Prop := fun xs H Q => ∃ p ys, xs = [.ref p] ∧ (SqL K H p ys ∨ SqT K H p ys) ∧ Q (.int ys.length) H
theorem abc_codes : ABC.cps.toList = (List.range 26).map (· + 97) := by decide +kernel
section
variable {P : Program} {w : World} {K : PySem.W.Frag} {mg : Str → Option Value} {base : Heap}
/-! ### _law_letters -/
abbrev sLetters : Stmt := top 34
abbrev nLetters : List Str := ["_law_rng_here", "_law_many", "_law_left", "_law_k"]
theorem scLetters : FnScope nLetters ["_law_rng_here", "_law_many"] (defScope sLetters) := ⟨rfl, rfl, rfl, by decide +kernel, rfl, by decide +kernel, by decide +kernel⟩
def spLetters : Sp := fun vs H Q _ => ∃ (r : Addr) (m : Nat), vs = [.ref r, .int m] ∧ m ≤ 26 ∧ H r = some (rngO r) ∧
  ∀ (cs : List Nat) (p : Addr) (H' : Hp), cs.length = m → cs.Nodup → (∀ c ∈ cs, 97 ≤ c ∧ c < 123) → H p = none → Same H H' → H' p = some (.lst (cs.map ltV)) → Q (.ref p) H'
theorem ok_letters {f : Addr} {fd : FuncData} (F : Fun K "_law_letters" "_law_letters" sLetters f fd) (B : Bl mg) (D : Cal P w K mg base "_law_draw" 1 ["_law_rng_here", "_law_many"] spDraw) : FnOk P w K mg base CX0 2 f fd ["_law_rng_here", "_law_many"] spLetters := by
  refine F.ok scLetters (fun vs H Q E h => ?_) (fun cdv A outer s H vs Q E hr h => ?_)
  · obtain ⟨r, m, rfl, _⟩ := h
    rfl
  · obtain ⟨r, m, rfl, hm, hR, k⟩ := h
    refine ⟨_, pss_cons (ps_set (i := 2) scLetters.nd rfl (.inr rfl) (pe_callTy (call_list_txt rfl) (by rfl) B.list (by decide +kernel) (pa_cons pe_str pa_nil)))
      (pss_one (ps_ret (pe_lc (own := [("_law_k", 3)]) (g := gName 3) (tt := tYes) (te := tBM K "list" rPopAt (tVar 2) (tCons (tCall spDraw [] E0 (tCons (tVar 0) (tCons (tCB (rLenQ K) (tCons (tVar 2) tNil)) tNil))) tNil)) rfl scLetters.nd (pi_range1 (by rfl) B.range (pa_cons (pv 1) pa_nil)) (blkOk_by (own := [("_law_k", 3)]) (N := nLetters) (sc := defScope sLetters) (by decide +kernel))
        (fun _ _ _ _ _ => pg_name (i := 3) scLetters.nd rfl (.inl rfl)) (fun _ _ _ _ _ => pts_nil)
        (fun _ _ _ _ _ => pe_bm PySem.F.plainAttrs_list PySem.F.slot_list_pop PySem.F.type_list_pop mt_popAt (pv 2) (pa_cons (pe_cal D hr (pa_cons (pv 0) (pa_cons (pe_callB call_len_seq (by rfl) B.len boot_len (pa_cons (pv 2) pa_nil)) pa_nil))) pa_nil))))), ?_⟩
    refine ⟨_, rfl, (by decide +kernel), fun l hl => ?_⟩
    have nrl : r ≠ l := ne_of_none hR hl
    rw [show (Str.ofString "abcdefghijklmnopqrstuvwxyz").cps.toList = (List.range 26).map (· + 97) from abc_codes]
    refine ⟨_, rfl, _, rfl, (by omega), (by omega), fun D hD => lc_range (lo := 0) (n := (m : Int).toNat) (fun i H' => Same H H' ∧ ∃ got left : List Nat, H' l = some (.lst (left.map ltV)) ∧ H' D = some (.lst (got.map ltV)) ∧ (got ++ left).Perm ((List.range 26).map (· + 97)) ∧ got.length = i) ?_ ?_ ?_⟩
    · have nlD : l ≠ D := ne_of_none upd_same hD
      have hDH : H D = none := by rw [upd_ne (Ne.symm nlD)] at hD; exact hD
      exact ⟨same_upd (same_new hl) hDH, [], (List.range 26).map (· + 97), by rw [upd_ne nlD, upd_same], upd_same, List.Perm.refl _, rfl⟩
    · rintro i H3 hi ⟨e, got, left, h1, h2, hp, hg⟩
      have nlD : l ≠ D := ne_of_none upd_same hD
      have hDH : H D = none := by rw [upd_ne (Ne.symm nlD)] at hD; exact hD
      have hlen : got.length + left.length = 26 := by
        have := hp.length_eq
        simpa using this
      refine ⟨rfl, _, rfl, .inl ⟨rfl, _, SqL.of h1⟩, _, rfl, _, rfl, l, _, rfl, .inl (SqL.of h1), r, _, rfl, (by simp only [List.length_map]; omega), (by simp only [List.length_map]; omega), e _ _ hR, fun d H4 d0 d1 e4 => ?_⟩
      have hd : d.toNat < left.length := by simp only [List.length_map] at d1; omega
      refine ⟨l, _, d, d.toNat, ltV left[d.toNat], rfl, rfl, e4 _ _ h1, (by omega), (by simp only [List.length_map] at d1; omega), ?_, (by simp [hd]), got.map ltV, ?_, ?_, ?_⟩
      · simp only [List.length_map] at d1 ⊢
        exact seqIx d0 d1
      · rw [upd_ne (Ne.symm nlD)]; exact e4 _ _ h2
      · rw [List.length_map, sizeLine_eq]; omega
      · refine ⟨same_upd (same_upd (e.trans e4) hl) hDH, got ++ [left[d.toNat]], left.eraseIdx d.toNat, ?_, ?_, ?_, ?_⟩
        · rw [upd_ne nlD, upd_same]
          exact congrArg (fun z => some (HO.lst z)) (map_eraseIdx ltV left d.toNat)
        · rw [upd_same, List.map_append]; rfl
        · refine List.Perm.trans ?_ hp
          rw [List.append_assoc]
          exact List.Perm.append_left got (erase_perm _ _ _ (List.getElem?_eq_getElem hd))
        · rw [List.length_append, hg]; rfl
    · rintro H3 ⟨e, got, left, h1, h2, hp, hg⟩
      have nlD : l ≠ D := ne_of_none upd_same hD
      have hDH : H D = none := by rw [upd_ne (Ne.symm nlD)] at hD; exact hD
      have hnd : (got ++ left).Nodup := hp.nodup_iff.mpr (by decide +kernel)
      refine k got D H3 (by rw [hg]; exact Int.toNat_natCast m) (List.nodup_append.mp hnd).1 (fun c hc => ?_) hDH e h2
      obtain ⟨j, hj, e'⟩ := List.mem_map.mp (hp.mem_iff.mp (List.mem_append_left _ hc))
      have := List.mem_range.mp hj
      omega
end
end SS

set_option maxRecDepth 100000
set_option maxHeartbeats 4000000
namespace SS
open PySem L2 SR TL
/-! ### texts by their codes -/
def txt (cs : List Nat) : Str := ⟨cs.toArray⟩
theorem txt_codes (cs : List Nat) : (txt cs).cps.toList = cs := by simp [txt]
theorem txt_of (z : Str) : z = txt z.cps.toList := by cases z; simp [txt]
theorem txt_inj {a b : List Nat} (h : txt a = txt b) : a = b := by
  have := congrArg (fun z : Str => z.cps.toList) h
  simpa [txt] using this
theorem txt_len (cs : List Nat) : (txt cs).length = cs.length := by simp [txt, Str.length]
theorem txt_one (c : Nat) : lt c = txt [c] := rfl
theorem join_lt (cs : List Nat) : Txt.join "" (cs.map lt) = txt cs := by
  rw [join_eq]
  have key : ∀ cs : List Nat, tl (Str.join "" (cs.map lt)) = cs := by
    intro cs
    rw [tl_join]
    induction cs with
    | nil => rfl
    | cons c cs ih =>
      cases cs with
      | nil => rfl
      | cons d cs =>
        show tl (lt c) ++ (tl ("" : Str) ++ joinL (tl ("" : Str)) ((d :: cs).map lt |>.map tl)) = c :: d :: cs
        rw [ih]
        rfl
  have h := key cs
  rw [txt_of (Str.join "" (cs.map lt))]
  exact congrArg txt h
theorem sorted_lt : ∀ cs : List Nat, PyProof.Rows.sortedS (cs.map lt) = true → cs.Pairwise (· ≤ ·)
  | [], _ => List.Pairwise.nil
  | [c], _ => List.pairwise_singleton _ _
  | c :: d :: cs, h => by
    have h' : (!PySem.Spec.ltCps [d] [c] && PyProof.Rows.risingS (lt d) (cs.map lt)) = true := h
    rw [Bool.and_eq_true] at h'
    have h1 : c ≤ d := by
      have := h'.1
      simp [PySem.Spec.ltCps] at this
      omega
    have ih := sorted_lt (d :: cs) h'.2
    refine List.pairwise_cons.mpr ⟨fun x hx => ?_, ih⟩
    rcases List.mem_cons.mp hx with e | e
    · rw [e]; exact h1
    · exact Nat.le_trans h1 ((List.pairwise_cons.mp ih).1 x e)
theorem lt_of_nodup : ∀ l : List Nat, l.Pairwise (· ≤ ·) → l.Nodup → l.Pairwise (· < ·)
  | [], _, _ => List.Pairwise.nil
  | x :: l, h, d => by
    obtain ⟨h1, h2⟩ := List.pairwise_cons.mp h
    obtain ⟨d1, d2⟩ := List.nodup_cons.mp d
    refine List.pairwise_cons.mpr ⟨fun y hy => ?_, lt_of_nodup l h2 d2⟩
    exact Nat.lt_of_le_of_ne (h1 y hy) fun z => d1 (z ▸ hy)
theorem perm_lt {ys : List Str} {cs : List Nat} (p : ys.Perm (cs.map lt)) : ∃ ds : List Nat, ys = ds.map lt ∧ ds.Perm cs := by
  have hall : ∀ y ∈ ys, ∃ c, y = lt c := fun y hy => by
    obtain ⟨c, _, e⟩ := List.mem_map.mp (p.mem_iff.mp hy)
    exact ⟨c, e.symm⟩
  have ex : ∀ ys : List Str, (∀ y ∈ ys, ∃ c, y = lt c) → ∃ ds : List Nat, ys = ds.map lt := by
    intro ys
    induction ys with
    | nil => intro _; exact ⟨[], rfl⟩
    | cons y ys ih =>
      intro h
      obtain ⟨c, rfl⟩ := h y List.mem_cons_self
      obtain ⟨ds, rfl⟩ := ih fun u hu => h u (List.mem_cons_of_mem _ hu)
      exact ⟨c :: ds, rfl⟩
  obtain ⟨ds, rfl⟩ := ex ys hall
  refine ⟨ds, rfl, ?_⟩
  have q := p.map (fun z : Str => z.cps.toList.headD 0)
  rw [List.map_map, List.map_map] at q
  have e : ∀ u : List Nat, u.map ((fun z : Str => z.cps.toList.headD 0) ∘ lt) = u := fun u => by
    have : ((fun z : Str => z.cps.toList.headD 0) ∘ lt) = (id : Nat → Nat) := rfl
    rw [this, List.map_id]
  rw [e, e] at q
  exact q
/-- one to four ascending letters -/
structure Abc (cs : List Nat) : Prop where
  ris : cs.Pairwise (· < ·)
  abc : ∀ c ∈ cs, 97 ≤ c ∧ c < 123
  one : 1 ≤ cs.length
  four : cs.length ≤ 4
theorem ris_nodup {l : List Nat} (h : l.Pairwise (· < ·)) : l.Nodup := h.imp fun h e => by omega
section
variable {P : Program} {w : World} {K : PySem.W.Frag} {mg : Str → Option Value} {base : Heap}
end
end SS

set_option maxRecDepth 100000
set_option maxHeartbeats 4000000
/-! a generator's body: if, for -/
namespace SR
open PySem PySem.Spec PyProof.Rows L2 GenW

section
variable {X : Cx} {st : Stmt} {rest : List Stmt}
def tGIf (tc : TT) (tb te : TGn) : TGn := fun D ys σ H => tc σ H fun b H1 => if b = true then tb D ys σ H1 else te D ys σ H1
theorem gs_if {test : Expr} {body orelse : List Stmt} {pos : Pos} {tc : TT} {tb te : TGn} (hc : PT X test tc) (hb : GSs X body tb) (he : GSs X orelse te) : GS X (.If test body orelse pos) (tGIf tc tb te) := by
  refine ⟨fun A S ip R n ys s₀ c fs K J gd lv s σ H D g hn k hI ht => ?_⟩
  obtain ⟨acc, cc, r, I⟩ := hI
  rw [exec_If]
  refine seg_bind_wrap (wpAny_standAt ?_)
  refine seg_bind_wrap ?_
  rw [g.over]
  refine wpAny_mono (hc.run _ s σ H _ I ht) (fun b s' hb' => ?_) fun x s' hx => k.exc n s₀ x s' hx
  obtain ⟨H2, I2, q2⟩ := hb'
  cases b with
  | true =>
    rw [if_pos rfl] at q2 ⊢
    exact hb.run A S ip R n ys s₀ c fs K J gd lv s' σ H2 D g hn k ⟨acc, cc, r, I2⟩ q2
  | false =>
    rw [if_neg Bool.false_ne_true] at q2 ⊢
    exact he.run A S ip R n ys s₀ c fs K J gd lv s' σ H2 D g hn k ⟨acc, cc, r, I2⟩ q2

/-! ### for -/
def tGFor (wi : TI) (g : TG) (tb : TGn) : TGn := fun D ys σ H => wi σ H fun J H1 => ∃ W : Nat → Nat → List V → L2.St → Hp → Prop, (∃ m, W 0 m ys σ H1) ∧ ∀ i m ys σ H, W i m ys σ H →
  (J.stop i H ∧ D.nx ys σ H) ∨ (J.go i H ∧ ∃ N : List V → L2.St → Hp → Prop, (∀ ys' σ' H', N ys' σ' H' → ∃ m', m' < m ∧ W (i + 1) m' ys' σ' H') ∧ ∀ x H', J.yld i H x H' → g x σ H' fun σ2 H2 => tb { D with nx := N, ct := N, bk := D.nx } ys σ2 H2)
theorem seg_For {M : Model} {A : Around} {R : GenEnd} {Y : Protocol} {n : Nat} {s₀ : Shared} {c : Code} {fs : List Frame} {s : Shared} {env : Env} {K : Flow → Sem PySem.Fin} {J : Value → Sem PySem.Fin} {gd : Bool → Bool} {lv : List Value → List Value} {tg iter : Expr} {body orelse : List Stmt} {pos : Pos}
    (h : wpAny M (A.over c fs) (eval iter env) (fun x s1 => wpAny M (A.over c fs) (pyIter x) (fun it s2 => ∀ p, Seg M A R Y n s₀ (.forLoop tg it body orelse env) (M.den (.forLoop tg it body orelse env))
      (.ret (fun r => ((match r with | .ok f => (.pure f : Sem Flow) | .error e => .raise e).onRaise (cameBack env)).wrap K J gd lv) none (gd false) (lv []) c p [] :: fs) s2) (fun x s' => Seg M A R Y n s₀ c (J x) fs s') s1) (fun x s' => Seg M A R Y n s₀ c (J x) fs s') s)
    (hs : ∀ x, foldedSetIterable iter env x = pure x := by intro _; rfl) :
    Seg M A R Y n s₀ c ((exec (.For tg iter body orelse pos) env).wrap K J gd lv) fs s := by
  rw [exec_For]
  refine seg_bind_wrap (wpAny_standAt ?_)
  refine seg_bind_wrap (wpAny_mono h (fun x s1 h1 => ?_) fun x s' hx => hx)
  refine seg_bind_wrap (wpAny_of_eq (hs x) ?_)
  refine seg_bind_wrap (wpAny_standAt ?_)
  refine seg_bind_wrap (wpAny_holding (wpAny_mono h1 (fun it s2 h2 => ?_) fun x s' hx => hx))
  exact seg_call h2
theorem gs_for {tg iter : Expr} {body : List Stmt} {wi : TI} {g : TG} {tb : TGn} {pos : Pos} (hp : PassesOwn (model X.prog X.w) X.A X.env X.xe) (hc : X.calm = true) (hi : PI X tg iter wi) (hg : PG X tg g) (hb : GSs X body tb)
    (hs : ∀ x, foldedSetIterable iter X.env x = pure x := by intro _; rfl) : GS X (.For tg iter body [] pos) (tGFor wi g tb) := by
  refine ⟨fun A S ip R n ys s₀ c fs K J gd lv s σ H D gc hn k hI ht => ?_⟩
  obtain ⟨acc, cc, r, I⟩ := hI
  refine seg_For ?_ hs
  rw [gc.over]
  refine wpAny_mono (hi.run _ s σ H _ I ht) (fun v s1 h1 => wpAny_mono h1 (fun itv s2 h2 => ?_) fun x s' hx => k.exc n s₀ x s' hx) fun x s' hx => k.exc n s₀ x s' hx
  obtain ⟨it, fp, tn, Jt, H2, e, I2, T, st2, f2, W, ⟨m0, w0⟩, turn⟩ := h2
  subst e
  intro p
  have fS : ∀ b ∈ fp, b ≠ S := fun b hb z => (f2 b hb).2.2.2.2.2 (S, lstObj acc cc) (List.mem_append_right _ List.mem_cons_self) z.symm
  have stat : ∀ {H' : Hp} {acc' : Array Value} {c' : Nat}, (∀ b ∈ fp, H' b = none) → ∀ b ∈ fp, FpOk X ((S, lstObj acc' c') :: ip) H' b := fun {H' acc' c'} hn b hb => by
    obtain ⟨_, q1, q2, q3, q4, q5⟩ := f2 b hb
    refine ⟨hn b hb, q1, q2, q3, q4, fun p hp => ?_⟩
    rcases List.mem_append.mp hp with z | z
    · exact q5 p (List.mem_append_left _ z)
    · rcases List.mem_cons.mp z with z | z
      · rw [z]; exact fun y => fS b hb y.symm
      · exact q5 p (List.mem_append_right _ (List.mem_cons_of_mem _ z))
  have gl : ∀ (c' : Code) (kk : Result → Sem PySem.Fin), c'.weight = 0 → c'.cUnits = 0 → GC X S ip A c' (.ret kk none (gd false) (lv []) c p [] :: fs) id := fun c' kk h1 h2 => gc_loop (k := kk) (c' := c') (l := lv []) (kp := []) (p := p) gc h1 h2
  have gi : ∀ {ys : List V} {σ' : L2.St} {H' : Hp} {s' : Shared}, GI X S ip ys σ' H' s' → GI X S ip ys σ' H' s' := fun h => h
  have loop : ∀ (m i n : Nat) (ys : List V) (s₀ s : Shared) (σ : L2.St) (H : Hp), n + ys.length = sizeLine → W i m ys σ H → GI X S ip ys σ H s → tn i s.heap → (∀ b ∈ fp, H b = none) →
      Seg (model X.prog X.w) A R (GY X S) n s₀ (.forLoop tg (.ref it) body [] X.env) ((model X.prog X.w).den (.forLoop tg (.ref it) body [] X.env))
        (.ret (fun r => ((match r with | .ok f => (.pure f : Sem Flow) | .error e => .raise e).onRaise (cameBack X.env)).wrap K J gd lv) none (gd false) (lv []) c p [] :: fs) s := by
    intro m
    induction m using Nat.strongRecOn with
    | ind m ih =>
      intro i n ys s₀ s σ H hn w hI st3 fr3
      have ee : ∀ (n : Nat) (s₀ : Shared) (x : Value) (s' : Shared), X.xe x s' → Seg (model X.prog X.w) A R (GY X S) n s₀ (.forLoop tg (.ref it) body [] X.env)
          ((do noteFrame x X.env; theTreesLotGoes x : Sem Unit).bind (fun _ => .raise x))
          (.ret (fun r => ((match r with | .ok f => (.pure f : Sem Flow) | .error e => .raise e).onRaise (cameBack X.env)).wrap K J gd lv) none (gd false) (lv []) c p [] :: fs) s' := fun n s₀ x s' hx => by
        rw [Sem.bind_eq_wrap]
        refine seg_wrap ?_
        rw [(gl _ _ rfl rfl).over]
        refine wpAny_bind (wpAny_mono (hp x s' hx) (fun _ s'' hcb => wpAny_theTreesLotGoes ?_) fun y s'' hcb => ?_)
        · exact seg_leaf (.error x) (seg_cameBack gc k hcb)
        · exact seg_leaf (.error y) (seg_cameBack gc k hcb)
      show Seg _ A R _ n s₀ _ ((forTurn tg (.ref it) body [] X.env).onRaise (fun x => do noteFrame x X.env; theTreesLotGoes x)) _ s
      rw [Sem.onRaise_eq_wrap]
      unfold forTurn
      refine seg_bind_wrap (wpAny_standAt ?_)
      obtain ⟨acc3, c3, r3, I3⟩ := hI
      rcases turn i m ys σ H w with ⟨stop, qn⟩ | ⟨go, N, hN, step⟩
      · refine seg_bind_wrap (wpAny_onRaise ?_)
        rw [(gl _ _ rfl rfl).over]
        refine wpAny_mono (T.done X rfl rfl rfl hc i _ s σ H X.xe I3 (stat fr3) st3 stop) (fun rr s4 ⟨hr, I4⟩ => ?_) fun x s' hx => wpAny_standAt (ee n s₀ x s' hx)
        subst hr
        show Seg _ A R _ n s₀ _ (.pure (.again (.block [] X.env))) _ s4
        refine seg_again rfl ?_
        show Seg _ A R _ n s₀ _ ((execs [] X.env >>= fun f => pure (.done f))) _ s4
        refine seg_bind (wpAny_execs_nil ?_)
        exact seg_leaf (.ok .next) (k.ok n ys s₀ s4 .next hn ⟨σ, H, ⟨acc3, c3, r3, I4⟩, qn⟩)
      · refine seg_bind_wrap (wpAny_onRaise ?_)
        rw [(gl _ _ rfl rfl).over]
        refine wpAny_mono (T.item X rfl rfl rfl hc i _ s σ H X.xe I3 (stat fr3) st3 go) (fun rr s4 ⟨u, hr, h4⟩ => ?_) fun x s' hx => wpAny_standAt (ee n s₀ x s' hx)
        subst hr
        refine seg_bind_wrap ?_
        rw [(gl _ _ rfl rfl).over]
        refine wpAny_mono h4 (fun _ s5 ⟨x, H5, I5, r5, y5, st5, fr5⟩ => ?_) fun x s' hx => ee n s₀ x s' hx
        have I5' := I5.pinned (stat fr5) (T.obj _ _ st5)
        refine seg_bind_wrap ?_
        rw [(gl _ _ rfl rfl).over]
        refine wpAny_mono (hg.run _ s5 σ H5 x u _ I5' r5 (step x H5 y5)) (fun _ s6 ⟨σ6, H6, I6, q6⟩ => ?_) fun x s' hx => ee n s₀ x s' hx
        rw [Sem.bind_eq_wrap', Sem.wrap_wrap]
        refine hb.run A S (ip ++ pinsAt fp s5.heap) R n ys s₀ _ _ _ _ _ _ s6 σ6 H6 { D with nx := N, ct := N, bk := D.nx } ?_ hn ⟨fun n' ys' s₀' s7 f hn' hs7 => ?_, fun n' s₀' x s7 hx => ee n' s₀' x s7 hx⟩ ⟨acc3, c3, r3, I6⟩ q6
        · have gl' := gl (.forLoop tg (.ref it) body [] X.env) (fun r => ((match r with | .ok f => (.pure f : Sem Flow) | .error e => .raise e).onRaise (cameBack X.env)).wrap K J gd lv) rfl rfl
          refine ⟨gl'.pn, fun q hq => ?_, gl'.apart, gl'.over, gl'.split, gl'.guard, rfl⟩
          rcases List.mem_append.mp hq with z | z
          · exact gl'.ip q z
          · exact fS _ (of_pinsAt z).1
        · have again : ∀ {σ7 : L2.St} {H7 : Hp}, GI X S (ip ++ pinsAt fp s5.heap) ys' σ7 H7 s7 → N ys' σ7 H7 → Seg (model X.prog X.w) A R (GY X S) n' s₀' (.forLoop tg (.ref it) body [] X.env) (.pure (.again (.forLoop tg (.ref it) body [] X.env)))
              (.ret (fun r => ((match r with | .ok f => (.pure f : Sem Flow) | .error e => .raise e).onRaise (cameBack X.env)).wrap K J gd lv) none (gd false) (lv []) c p [] :: fs) s7 := fun {σ7 H7} hI7 n7 => by
            obtain ⟨acc7, c7, r7, I7⟩ := hI7
            obtain ⟨m', hm, w7⟩ := hN ys' σ7 H7 n7
            have I7' : Inv X (((S, lstObj acc7 c7) :: ip) ++ pinsAt fp s5.heap) σ7 H7 s7 := I7
            refine seg_again rfl (ih m' hm (i + 1) n' ys' s₀' s7 σ7 H7 hn' w7 ⟨acc7, c7, r7, I7'.unpinned⟩ (T.keep _ _ _ st5 fun b hb o e => (I7'.pin (b, o) (List.mem_append_right _ (List.mem_append_right _ (mem_pinsAt hb e)))).1) fun b hb => ?_)
            obtain ⟨o, e, d⟩ := T.obj _ _ st5 b hb
            exact (I7'.pin (b, o) (List.mem_append_right _ (List.mem_append_right _ (mem_pinsAt hb e)))).2.1
          have un : ∀ {σ7 : L2.St} {H7 : Hp}, GI X S (ip ++ pinsAt fp s5.heap) ys' σ7 H7 s7 → GI X S ip ys' σ7 H7 s7 := fun {σ7 H7} hI7 => by
            obtain ⟨acc7, c7, r7, I7⟩ := hI7
            have I7' : Inv X (((S, lstObj acc7 c7) :: ip) ++ pinsAt fp s5.heap) σ7 H7 s7 := I7
            exact ⟨acc7, c7, r7, I7'.unpinned⟩
          cases f with
          | next => obtain ⟨σ7, H7, I7, n7⟩ := hs7; exact again I7 n7
          | cont => obtain ⟨σ7, H7, I7, n7⟩ := hs7; exact again I7 n7
          | brk => obtain ⟨σ7, H7, I7, q7⟩ := hs7; exact seg_leaf (.ok .next) (k.ok n' ys' s₀' s7 .next hn' ⟨σ7, H7, un I7, q7⟩)
          | ret v => obtain ⟨x7, σ7, H7, I7, r7, q7⟩ := hs7; exact seg_leaf (.ok (.ret v)) (k.ok n' ys' s₀' s7 (.ret v) hn' ⟨x7, σ7, H7, un I7, r7, q7⟩)
  exact loop m0 0 n ys s₀ s2 σ H2 hn w0 ⟨acc, cc, r, I2⟩ st2 fun b hb => (f2 b hb).1
/-- a cut: what stands between two statements -/
def tGCut (t u : TGn) : TGn := fun D ys σ H => ∃ N : List V → L2.St → Hp → Prop, t { D with nx := N } ys σ H ∧ ∀ ys' σ' H', N ys' σ' H' → u D ys' σ' H'
theorem gss_cut {t u : TGn} (a : GS X st t) (b : GSs X rest u) : GSs X (st :: rest) (tGCut t u) := by
  refine ⟨fun A S ip R n ys s₀ c fs K J gd lv s σ H D g hn k hI ht => ?_⟩
  obtain ⟨N, ht, hN⟩ := ht
  refine seg_execs_cons ?_
  refine a.run A S ip R n ys s₀ c fs _ J gd lv s σ H { D with nx := N } g hn ⟨fun n' ys' s₀' s' f hn' hs => ?_, k.exc⟩ hI ht
  cases f with
  | next =>
    obtain ⟨σ', H', I', q⟩ := hs
    exact b.run A S ip R n' ys' s₀' c fs K J gd lv s' σ' H' D g hn' k I' (hN _ _ _ q)
  | brk => exact k.ok n' ys' s₀' s' .brk hn' hs
  | cont => exact k.ok n' ys' s₀' s' .cont hn' hs
  | ret u => exact k.ok n' ys' s₀' s' (.ret u) hn' hs
theorem gss_one {t : TGn} (a : GS X st t) : GSs X [st] (tGThen t tG0) := gss_cons a gss_nil
/-- a generator's for over anything that is walked -/
theorem gfor_it {J : It} {n : Nat} {G : Hp → Prop} {Y : Nat → Hp → V → Hp → Prop} (w : Walk J n G Y) {g : TG} {tb : TGn} {D : GEnds} {ys : List V} {σ : L2.St} {H : Hp} (Pv : Nat → List V → L2.St → Hp → Prop) (h0 : Pv 0 ys σ H) (hG : ∀ i ys σ H, i ≤ n → Pv i ys σ H → G H)
    (hs : ∀ i x ys σ H H', i < n → Pv i ys σ H → Y i H x H' → g x σ H' fun σ2 H2 => tb { D with nx := Pv (i + 1), ct := Pv (i + 1), bk := D.nx } ys σ2 H2) (hd : ∀ ys σ H, Pv n ys σ H → D.nx ys σ H) :
    ∃ W : Nat → Nat → List V → L2.St → Hp → Prop, (∃ m, W 0 m ys σ H) ∧ ∀ i m ys σ H, W i m ys σ H →
      (J.stop i H ∧ D.nx ys σ H) ∨ (J.go i H ∧ ∃ N : List V → L2.St → Hp → Prop, (∀ ys' σ' H', N ys' σ' H' → ∃ m', m' < m ∧ W (i + 1) m' ys' σ' H') ∧ ∀ x H', J.yld i H x H' → g x σ H' fun σ2 H2 => tb { D with nx := N, ct := N, bk := D.nx } ys σ2 H2) := by
  refine ⟨fun i m ys σ H => m = n - i ∧ i ≤ n ∧ Pv i ys σ H, ⟨n, by simp, Nat.zero_le _, h0⟩, ?_⟩
  rintro i m ys σ H ⟨rfl, hi, p⟩
  have q := hG i ys σ H hi p
  by_cases hlt : i < n
  · exact .inr ⟨w.goes i H hlt q, Pv (i + 1), fun ys' σ' H' p' => ⟨n - (i + 1), by omega, rfl, hlt, p'⟩, fun x H' y => hs i x ys σ H H' hlt p (w.yields i H x H' hlt q y)⟩
  · have e : i = n := by omega
    subst e
    exact .inl ⟨w.stops H q, hd ys σ H p⟩
theorem passG0 : Passes (CX X.prog X.w) X E0 := fun _ _ _ _ _ _ _ h => by
  obtain ⟨a, B, H', cls, d, z1, fl, z2, ub, z3, z4, z5, z6⟩ := h
  exact z6.elim
theorem noStop0 {K : PySem.W.Frag} : NoStop K E0 := fun _ _ _ h => h.elim
end
section
variable {P : Program} {w : World} {K : PySem.W.Frag} {mg : Str → Option Value} {base : Heap}
/-- a generator def by its body -/
theorem _root_.L2.Fun.gen {x qual : Str} {st : Stmt} {f : Addr} {fd : FuncData} {N ps : List Str} {k : Nat} {sp : SpG} (F : Fun K x qual st f fd) (S : GScope N ps (defScope st)) (len : ∀ vs H Q E, sp vs H Q E → vs.length = ps.length)
    (hbody : ∀ (cdv : Value) (A : Around) (outer : List Env) (s : Shared) (H : Hp) (vs : List V) (Q : List V → Hp → Prop) (E : XK) (pn : List (Addr × Obj)), Room k (A.deeper (envOfC qual (defScope st) s.heap.objs.size f cdv)) → sp vs H Q E →
      ∃ t, GSs (gcxOf P w K mg base N qual (defScope st) f cdv A outer s H E pn) (defBody st) t ∧ t { nx := fun ys _ H' => Q ys H', rt := fun ys v H' => v = .non ∧ Q ys H' } [] (start N vs) H) : GFn P w K mg base (k + 1) f fd ps sp := by
  obtain ⟨oc, od, kV, doc, pm, an, cdv, ct, osl, rfl, lk, hcd⟩ := F.ex
  exact gfn_of lk hcd S len fun A outer s H vs Q E pn hr hsp => hbody cdv A outer s H vs Q E pn hr hsp
end
section
variable {X : Cx} {k : Nat} {f : Addr} {fd : FuncData} {ps ks : List Str} {sp : SpG} {x : Str} {p pos' : Pos}
/-- f(k=v, ..) of a generator def -/
def tCallGK0 (sp : SpG) (n : Nat) (gV : List V → List V → List V) (E : XK) (tk : TA) : TGen := fun σ H cont => tk σ H fun zs H1 => zs.length = n ∧ sp (gV [] zs) H1 cont E
theorem pgen_callK0 {E : XK} {kws : List Keyword} {tk : TA} {g : List Value → List Value → List Value} {gV : List V → List V → List V} (F : GFn X.prog X.w X.K X.mg X.base k f fd ps sp) (hr : Room k X.A) (hg : Gl X x) (hm : X.mg x = some (.ref f)) (hk : PySem.W.keepIn X.K (.ref f) = true) (hb : KBn X.K fd ps 0 ks g gV) (hkw : PK X kws tk)
    (hall : (backToKw pos' (keywordEach kws X.env)).all (·.1.isSome) = true := by rfl) (hks : (backToKw pos' (keywordEach kws X.env)).filterMap (·.1) = ks := by rfl) (hdb : (x == ("__debug__" : Str)) = false := by decide)
    (hpl : ((backTo pos' (starEach [] X.env)).any (·.1) || (backToKw pos' (keywordEach kws X.env)).any (·.1.isNone)) = false := by rfl) :
    PGen X k (.Call (.Name x p) [] kws pos') (tCallGK0 sp ks.length gV E tk) E := by
  refine ⟨fun pins s σ H cont I h => ?_⟩
  refine wpAny_Call_Name_kw (ld_glob I hg hm ?_ hdb)
  refine PySem.W.callWith_KW0 (h₀ := X.base) I.ok.mod.kin hk hall ?_ hpl
  refine thn (hkw.run pos' pins s σ H _ I h) fun ws s2 ⟨zs, H2, I2, rz, l2, q2⟩ => ⟨I2.kIn, ?_⟩
  rw [hks]
  refine wpAny_call (codeAny_mono (F.run X.A X.stack s2 H2 ⟨[] ++ [], ks.zip ws⟩ (g [] ws) (gV [] zs) cont E hr I2.env0 (hb.to _ [] ws I2.kIn rfl (rz.length.symm.trans l2)) (hb.rel .nil rz) q2) fun r s' hq => ?_)
  cases r with
  | error e => exact False.elim hq
  | ok fl =>
    cases fl with
    | ret u => exact ⟨H2, s2, [], I2, .nil, hq⟩
    | next => exact False.elim hq
    | brk => exact False.elim hq
    | cont => exact False.elim hq
end
end SR

set_option maxRecDepth 100000
set_option maxHeartbeats 4000000
namespace L2
open PySem PySem.Spec PyProof.Rows
section
variable {X : Cx}
/-- [elt for t1 in it1 if .. for t2 in it2 if ..], the inner one over a dict (locked in its turn) -/
def tLc2L (wi : TI) (g : TG) (tt : TT) (wi2 : TI) (g2 : TG) (tt2 : TT) (te : TE) (vs vs2 : List Nat) : TE := fun σ H Q => wi σ H fun J H1 => ∀ D, H1 D = none → ∃ W : Nat → Nat → Hp → Prop, (∃ m, W 0 m (upd H1 D (.lst []))) ∧ ∀ i m H, W i m H →
  (J.stop i H ∧ Q (.ref D) H) ∨ (J.go i H ∧ ∃ Nx : Hp → Prop, (∀ H', Nx H' → ∃ m', m' < m ∧ W (i + 1) m' H') ∧ ∀ x H', J.yld i H x H' → g x (wipe σ vs) H' fun σ2 H2 => wipe σ2 vs = wipe σ vs ∧ tt σ2 H2 fun b H3 =>
    if b = true then (∃ d u, H3 d = some u ∧ Mut (some u) ∧ ∀ od, wi2 σ2 (upd H3 d (.frz od u)) fun J2 H4 => ∃ W2 : Nat → Nat → Hp → Prop, (∃ m, W2 0 m H4) ∧ ∀ j m H5, W2 j m H5 →
      (J2.stop j H5 ∧ H5 d = some (.frz od u) ∧ Nx (upd H5 d u)) ∨ (J2.go j H5 ∧ ∃ N2 : Hp → Prop, (∀ H', N2 H' → ∃ m', m' < m ∧ W2 (j + 1) m' H') ∧ ∀ y H6, J2.yld j H5 y H6 → g2 y (wipe σ2 vs2) H6 fun σ3 H7 => wipe σ3 vs2 = wipe σ2 vs2 ∧ tt2 σ3 H7 fun b H8 =>
        if b = true then te σ3 H8 fun z H9 => ∃ acc, H9 D = some (.lst acc) ∧ acc.length < sizeLine ∧ N2 (upd H9 D (.lst (acc ++ [z]))) else N2 H8)) else Nx H3)
theorem lc2_coreL {pins : List (Addr × Obj)} {s : Shared} {σ : St} {H : Hp} {Q : VK} {elt tg iter tg2 iter2 : Expr} {ifs ifs2 : List Expr} {scope : Scope} {own : List (Str × Nat)} {vs2 : List Nat} {pos pos' : Pos} {wi wi2 : TI} {g g2 : TG} {tt tt2 : TT} {te : TE} {use : Option (Value → Sem Unit)} {Qf : Value → Shared → Prop}
    (hc : X.calm = true) (hN : X.N.Nodup) (I : Inv X pins σ H s) (hi : PI X tg iter wi) (ok : BlkOk X.N X.env.scope scope own) (hv : ∀ i ∈ vs2, i ∈ own.map (·.2))
    (hg : ∀ (s : Shared) (H : Hp) (C : Addr) (cl : List (Str × Addr)) (fp : List Addr), PG (X.blk s H scope (compEnvC scope cl C X.env) fp) tg g) (ht : ∀ (s : Shared) (H : Hp) (C : Addr) (cl : List (Str × Addr)) (fp : List Addr), PTs (X.blk s H scope (compEnvC scope cl C X.env) fp) ifs tt)
    (hi2 : ∀ (s : Shared) (H : Hp) (C : Addr) (cl : List (Str × Addr)) (fp : List Addr), PI (X.blk s H scope (compEnvC scope cl C X.env) fp) tg2 iter2 wi2)
    (hg2 : ∀ (s : Shared) (H : Hp) (C : Addr) (cl : List (Str × Addr)) (fp : List Addr), PG (X.blk s H scope (compEnvC scope cl C X.env) fp) tg2 g2) (ht2 : ∀ (s : Shared) (H : Hp) (C : Addr) (cl : List (Str × Addr)) (fp : List Addr), PTs (X.blk s H scope (compEnvC scope cl C X.env) fp) ifs2 tt2)
    (he : ∀ (s : Shared) (H : Hp) (C : Addr) (cl : List (Str × Addr)) (fp : List Addr), PE (X.blk s H scope (compEnvC scope cl C X.env) fp) elt te) (hs : ∀ x, foldedSetIterable iter X.env x = pure x) (hs2 : ∀ env x, foldedSetIterable iter2 env x = pure x)
    (h : tLc2L wi g tt wi2 g2 tt2 te (own.map (·.2)) vs2 σ H Q)
    (hRR : ∀ D C s' m H', Inv X pins σ H' s' → Q (.ref D) H' → s'.heap.Ns C m → FpOk X pins H' C → compPost (model X.prog X.w) X.A X.xe use Qf (.ref D) C (.ok .next) s') :
    wpAny (model X.prog X.w) X.A (comprehension (.ListComp elt [⟨tg, iter, ifs, 0⟩, ⟨tg2, iter2, ifs2, 0⟩] scope pos) scope X.env pos' (newList []) false (eval iter X.env) use) Qf X.xe s := by
  have hfree : ∀ y ∈ scope.names, y.2 = .free → ∃ c, X.env.cells.lookup y.1 = some c := fun y hy e => by
    rcases ok.free y hy e with k | k
    · exact I.ok.has _ (.inl k)
    · exact I.ok.has _ (.inr k)
  refine wpAny_comprehension_free (use := use) rfl hs (closure_ok hfree) ok.kind (fun y hy e => by rw [ok.uniq y hy, e])
    (thn (hi.run pins s σ H _ I h) fun xv s1 hx => thn hx fun itv s2 h2 => ?_)
  obtain ⟨it, fp, tn, J, H2, e, I2, T, st2, f2, q⟩ := h2
  subst e
  refine wpAny_newObj_type (newEnv_comp ?_) (by show 0 ≤ sizeLine; decide)
  generalize hD : s2.heap.objs.size = D
  have hDn : H2 D = none := I2.hok.fresh (Nat.le_of_eq hD)
  obtain ⟨W, ⟨m0, w0⟩, turn⟩ := q D hDn
  -- the new list
  generalize hs3 : ({ s2 with heap := s2.heap.push { cls := .type "list", data := .seq ([] : List Value).toArray } } : Shared) = s3
  have I3 : Inv X pins σ (upd H2 D (.lst [])) s3 := by
    rw [← hs3]
    refine I2.laid (t' := s2.toks) (fun b o e => Heap.get?_push_of_some _ e) (Nat.le_of_eq hD) ⟨Nat.zero_le _, [], 0, .nil, ?_⟩
    rw [← hD]
    exact Heap.get?_push_size _ rfl
  have h3 : s3.heap = s2.heap.push { cls := .type "list", data := .seq ([] : List Value).toArray } := by rw [← hs3]
  have sz : ∀ b ∈ fp, b < s2.heap.objs.size := fun b hb => by
    obtain ⟨o, e, _⟩ := T.obj _ _ st2 b hb
    exact Heap.lt_size e
  have f3 : ∀ b ∈ fp, FpOk X pins (upd H2 D (.lst [])) b ∧ b < s3.heap.objs.size := fun b hb => by
    have hlt := sz b hb
    refine ⟨⟨?_, (f2 b hb).2⟩, by rw [h3, Heap.size_push]; exact Nat.lt_succ_of_lt hlt⟩
    rw [upd_ne (by rw [← hD]; exact Nat.ne_of_lt hlt)]
    exact (f2 b hb).1
  have st3 : tn 0 s3.heap := T.keep _ _ _ st2 fun b _ o e => by rw [h3]; exact Heap.get?_push_of_some _ e
  have I4 := block_start I3 ok hN f3
  have pg := hg s3 (upd H2 D (.lst [])) s3.heap.objs.size (cellsFrom (s3.heap.objs.size + 1) scope.names (cloFrom X.env.cells scope.names [])) fp
  have pt := ht s3 (upd H2 D (.lst [])) s3.heap.objs.size (cellsFrom (s3.heap.objs.size + 1) scope.names (cloFrom X.env.cells scope.names [])) fp
  have pi2 := hi2 s3 (upd H2 D (.lst [])) s3.heap.objs.size (cellsFrom (s3.heap.objs.size + 1) scope.names (cloFrom X.env.cells scope.names [])) fp
  have pg2 := hg2 s3 (upd H2 D (.lst [])) s3.heap.objs.size (cellsFrom (s3.heap.objs.size + 1) scope.names (cloFrom X.env.cells scope.names [])) fp
  have pt2 := ht2 s3 (upd H2 D (.lst [])) s3.heap.objs.size (cellsFrom (s3.heap.objs.size + 1) scope.names (cloFrom X.env.cells scope.names [])) fp
  have pe := he s3 (upd H2 D (.lst [])) s3.heap.objs.size (cellsFrom (s3.heap.objs.size + 1) scope.names (cloFrom X.env.cells scope.names [])) fp
  show codeAny _ _ (.compStart (.ListComp elt [⟨tg, iter, ifs, 0⟩, ⟨tg2, iter2, ifs2, 0⟩] scope pos) 0 (.ref it) (.ref D) (compEnvC scope (cellsFrom (s3.heap.objs.size + 1) scope.names (cloFrom X.env.cells scope.names [])) s3.heap.objs.size X.env)) (compPost (model X.prog X.w) X.A X.xe use Qf (.ref D) s3.heap.objs.size) { s3 with heap := pushCells (s3.heap.push { cls := .type "dict", data := .dict #[] }) scope.names }
  have nfp : ∀ b ∈ fp, (upd H2 D (.lst [])) b = none := fun b hb => (f3 b hb).1.1
  generalize hce : compEnvC scope (cellsFrom (s3.heap.objs.size + 1) scope.names (cloFrom X.env.cells scope.names [])) s3.heap.objs.size X.env = ce at I4 pg pt pi2 pg2 pt2 pe ⊢
  have cL : ce.locals = s3.heap.objs.size := by subst hce; rfl
  generalize hH3 : upd H2 D (.lst []) = H3 at I3 I4 pg pt pi2 pg2 pt2 pe w0 nfp f3
  generalize hs4 : ({ s3 with heap := pushCells (s3.heap.push { cls := .type "dict", data := .dict #[] }) scope.names } : Shared) = s4 at I4 ⊢
  have st4 : tn 0 s4.heap := T.keep _ _ _ st3 fun b _ o e => by rw [← hs4]; exact pushCells_keeps _ _ _ _ (Heap.get?_push_of_some _ e)
  have stat : ∀ {σ' : St} {H' : Hp} {s' : Shared}, Inv (X.blk s3 H3 scope ce fp) [] σ' H' s' → (∀ b ∈ fp, H' b = none) → ∀ b ∈ fp, FpOk (X.blk s3 H3 scope ce fp) [] H' b := fun {σ' H' s'} I' hn b hb =>
    ⟨hn b hb, (I'.ok.exf b hb).1, I'.ok.exfs b hb, .inl hb, fun x c e => (I'.ok.exf b hb).2 x c e, fun p hp => absurd (show p ∈ ([] : List (Addr × Obj)) ++ [] from hp) (by simp)⟩
  have loop : codeAny (model X.prog X.w) X.A (.compLoop (.ListComp elt [⟨tg, iter, ifs, 0⟩, ⟨tg2, iter2, ifs2, 0⟩] scope pos) 0 (.ref it) (.ref D) ce) (compPost (model X.prog X.w) X.A X.xe use Qf (.ref D) s3.heap.objs.size) s4 := by
    refine compLoop2_out (hs2 ce) (fun n s' => ∃ i H', Inv (X.blk s3 H3 scope ce fp) [] (wipe σ (own.map (·.2))) H' s' ∧ tn i s'.heap ∧ (∀ b ∈ fp, H' b = none) ∧ W i n H') ?_ m0 ⟨0, H3, I4, st4, nfp, w0⟩
    rintro n s5 ⟨i, H5, I5, st5, n5, w5⟩
    rcases turn i n H5 w5 with ⟨stop, qq⟩ | ⟨go, Nx, hNx, step⟩
    · have td := T.done (X.blk s3 H3 scope ce fp) rfl rfl rfl hc i [] s5 _ H5 (fun _ _ => False) I5 (stat I5 n5) st5 stop
      refine thnF td fun r s6 ⟨hr, I6⟩ => ?_
      subst hr
      -- back in the def's context
      have I7 : Inv X pins σ H5 s6 := I3.call' (ch := fp) I6.os I6.base I6.hok I6.bare fun b hb => ⟨(f3 b hb).1.2.2.2.1, (f3 b hb).1.2.1, (f3 b hb).1.2.2.2.2.1, (f3 b hb).1.2.2.2.2.2⟩
      have nC : H5 s3.heap.objs.size = none := by
        have z : H5 ce.locals = none := I6.free
        rw [cL] at z
        exact z
      obtain ⟨m, hn, _⟩ := I6.loc
      have hn : s6.heap.Ns ce.locals m := hn
      rw [cL] at hn
      exact hRR D s3.heap.objs.size s6 m H5 I7 qq hn (I3.fpOk (Nat.le_refl _) nC)
    · have ti := T.item (X.blk s3 H3 scope ce fp) rfl rfl rfl hc i [] s5 _ H5 (fun _ _ => False) I5 (stat I5 n5) st5 go
      refine thnF ti fun r s6 ⟨u, hr, h6⟩ => ?_
      subst hr
      refine thnF h6 fun _ s7 ⟨x, H7, I7, r7, y7, st7, n7⟩ => ?_
      have I7' := I7.pinned (stat I7 n7) (T.obj _ _ st7)
      refine thnF (pg.run _ s7 _ H7 x u _ I7' r7 (step x H7 y7)) fun _ s8 ⟨σ8, H8, I8, hw8, q8⟩ => ?_
      refine thnF (pt.run _ s8 σ8 H8 _ I8 q8) fun b s9 ⟨H9, I9, q9⟩ => ?_
      -- the turn's end
      have fin : ∀ {s' : Shared} {H' : Hp} {σ' : St}, σ'.length = σ8.length → (∀ (j : Nat) v, (wipe σ8 (own.map (·.2)))[j]? = some (some v) → σ'[j]? = some (some v)) → Inv (X.blk s3 H3 scope ce fp) ([] ++ pinsAt fp s7.heap) σ' H' s' → Nx H' → ∃ m, m < n ∧ ∃ i H', Inv (X.blk s3 H3 scope ce fp) [] (wipe σ (own.map (·.2))) H' s' ∧ tn i s'.heap ∧ (∀ b ∈ fp, H' b = none) ∧ W i m H' := fun {s' H' σ'} hl' hσ' I' nx => by
        obtain ⟨m', hm, w'⟩ := hNx H' nx
        have pin' : ∀ b ∈ fp, ∀ o, s7.heap.get? b = some o → s'.heap.get? b = some o ∧ H' b = none := fun b hb o e =>
          let z := I'.pin (b, o) (List.mem_append_right _ (List.mem_append_right _ (mem_pinsAt hb e)))
          ⟨z.1, z.2.1⟩
        have hl : (wipe σ (own.map (·.2))).length = σ'.length := by rw [← hw8, wipe_length, hl']
        refine ⟨m', hm, i + 1, H', (I'.unpinned (pins := [])).weak hl (fun j v e => ?_), T.keep _ _ _ st7 fun b hb o e => (pin' b hb o e).1, fun b hb => ?_, w'⟩
        · rw [← hw8] at e
          exact hσ' j v e
        · obtain ⟨o, e, _⟩ := T.obj _ _ st7 b hb
          exact (pin' b hb o e).2
      cases b with
      | false =>
        simp only [Bool.false_eq_true, if_false] at q9 ⊢
        exact fin rfl (fun j v e => (wipe_some e).1) I9 q9
      | true =>
        simp only [if_true] at q9 ⊢
        obtain ⟨d, u', hd, mu, q9⟩ := q9
        obtain ⟨od, I9l⟩ := I9.lock hd mu
        refine thnF (pi2.run _ s9 σ8 _ _ I9l (q9 od)) fun xv2 s10 hx2 => thnF hx2 fun itv2 s11 h11 => ?_
        obtain ⟨it2, fp2, tn2, J2, H10, e10, I10, T2, st10, f10, W2, ⟨k0, v0⟩, turn2⟩ := h11
        subst e10
        have stat2 : ∀ {H' : Hp}, (∀ b ∈ fp2, H' b = none) → ∀ b ∈ fp2, FpOk (X.blk s3 H3 scope ce fp) ([] ++ pinsAt fp s7.heap) H' b := fun hn b hb => ⟨hn b hb, (f10 b hb).2⟩
        have loop2 : codeAny (model X.prog X.w) X.A (.compLoop (.ListComp elt [⟨tg, iter, ifs, 0⟩, ⟨tg2, iter2, ifs2, 0⟩] scope pos) 1 (.ref it2) (.ref D) ce) (fun r s₆ => match r with | .ok _ => ∃ m, m < n ∧ ∃ i H', Inv (X.blk s3 H3 scope ce fp) [] (wipe σ (own.map (·.2))) H' s₆ ∧ tn i s₆.heap ∧ (∀ b ∈ fp, H' b = none) ∧ W i m H' | .error _ => False) s11 := by
          refine compLoop2_in (fun n s' => ∃ j H', Inv (X.blk s3 H3 scope ce fp) ([] ++ pinsAt fp s7.heap) (wipe σ8 vs2) H' s' ∧ tn2 j s'.heap ∧ (∀ b ∈ fp2, H' b = none) ∧ W2 j n H') ?_ k0 ⟨0, H10, I10.weak (wipe_length _ _) (fun j v e => (wipe_some e).1), st10, fun b hb => (f10 b hb).1, v0⟩
          rintro k s12 ⟨j, H12, I12, st12, n12, w12⟩
          rcases turn2 j k H12 w12 with ⟨stop, hfz, qq⟩ | ⟨go, N2, hN2, step2⟩
          · refine thnF (T2.done (X.blk s3 H3 scope ce fp) rfl rfl rfl hc j _ s12 _ H12 (fun _ _ => False) I12 (stat2 n12) st12 stop) fun r s13 ⟨hr, I13⟩ => ?_
            subst hr
            refine fin (wipe_length _ _) (fun j v e => ?_) (I13.unlock hfz (I9.nofrz hd mu)) qq
            obtain ⟨e1, e2⟩ := wipe_some e
            rw [wipe_out fun hm => e2 (hv _ hm)]
            exact e1
          · refine thnF (T2.item (X.blk s3 H3 scope ce fp) rfl rfl rfl hc j _ s12 _ H12 (fun _ _ => False) I12 (stat2 n12) st12 go) fun r s13 ⟨u2, hr, h13⟩ => ?_
            subst hr
            refine thnF h13 fun _ s14 ⟨y, H14, I14, r14, y14, st14, n14⟩ => ?_
            have I14' := I14.pinned (stat2 n14) (T2.obj _ _ st14)
            refine thnF (pg2.run _ s14 _ H14 y u2 _ I14' r14 (step2 y H14 y14)) fun _ s15 ⟨σ15, H15, I15, hw15, q15⟩ => ?_
            refine thnF (pt2.run _ s15 σ15 H15 _ I15 q15) fun b s16 ⟨H16, I16, q16⟩ => ?_
            have fin2 : ∀ {s' : Shared} {H' : Hp}, Inv (X.blk s3 H3 scope ce fp) (([] ++ pinsAt fp s7.heap) ++ pinsAt fp2 s14.heap) σ15 H' s' → N2 H' → ∃ m, m < k ∧ ∃ j H', Inv (X.blk s3 H3 scope ce fp) ([] ++ pinsAt fp s7.heap) (wipe σ8 vs2) H' s' ∧ tn2 j s'.heap ∧ (∀ b ∈ fp2, H' b = none) ∧ W2 j m H' := fun {s' H'} I' nx => by
              obtain ⟨m', hm, w'⟩ := hN2 H' nx
              have pin' : ∀ b ∈ fp2, ∀ o, s14.heap.get? b = some o → s'.heap.get? b = some o ∧ H' b = none := fun b hb o e =>
                let z := I'.pin (b, o) (List.mem_append_right _ (List.mem_append_right _ (mem_pinsAt hb e)))
                ⟨z.1, z.2.1⟩
              have hl : (wipe σ8 vs2).length = σ15.length := by rw [← hw15, wipe_length]
              refine ⟨m', hm, j + 1, H', (I'.unpinned).weak hl (fun j v e => ?_), T2.keep _ _ _ st14 fun b hb o e => (pin' b hb o e).1, fun b hb => ?_, w'⟩
              · rw [← hw15] at e
                exact (wipe_some e).1
              · obtain ⟨o, e, _⟩ := T2.obj _ _ st14 b hb
                exact (pin' b hb o e).2
            cases b with
            | false =>
              simp only [Bool.false_eq_true, if_false] at q16 ⊢
              exact fin2 I16 q16
            | true =>
              simp only [if_true] at q16 ⊢
              refine thnF (pe.run _ s16 σ15 H16 _ I16 q16) fun z s17 ⟨yv, H17, I17, r17, acc, hD17, hz17, nx⟩ => ?_
              exact app_ok (X := X.blk s3 H3 scope ce fp) I17 hD17 hz17 r17 fun s18 I18 => fin2 I18 nx
        exact compStart1_ok loop2 (T2.self X.A 0 _ _ _ st10 loop2)
  exact codeAny_compStart_list loop (T.self X.A 0 _ _ _ st4 loop)
/-- as a value -/
theorem pe_lc2L {elt tg iter tg2 iter2 : Expr} {ifs ifs2 : List Expr} {scope : Scope} {own : List (Str × Nat)} {vs2 : List Nat} {pos : Pos} {wi wi2 : TI} {g g2 : TG} {tt tt2 : TT} {te : TE} (hc : X.calm = true) (hN : X.N.Nodup) (hi : PI X tg iter wi) (ok : BlkOk X.N X.env.scope scope own) (hv : ∀ i ∈ vs2, i ∈ own.map (·.2))
    (hg : ∀ (s : Shared) (H : Hp) (C : Addr) (cl : List (Str × Addr)) (fp : List Addr), PG (X.blk s H scope (compEnvC scope cl C X.env) fp) tg g) (ht : ∀ (s : Shared) (H : Hp) (C : Addr) (cl : List (Str × Addr)) (fp : List Addr), PTs (X.blk s H scope (compEnvC scope cl C X.env) fp) ifs tt)
    (hi2 : ∀ (s : Shared) (H : Hp) (C : Addr) (cl : List (Str × Addr)) (fp : List Addr), PI (X.blk s H scope (compEnvC scope cl C X.env) fp) tg2 iter2 wi2)
    (hg2 : ∀ (s : Shared) (H : Hp) (C : Addr) (cl : List (Str × Addr)) (fp : List Addr), PG (X.blk s H scope (compEnvC scope cl C X.env) fp) tg2 g2) (ht2 : ∀ (s : Shared) (H : Hp) (C : Addr) (cl : List (Str × Addr)) (fp : List Addr), PTs (X.blk s H scope (compEnvC scope cl C X.env) fp) ifs2 tt2)
    (he : ∀ (s : Shared) (H : Hp) (C : Addr) (cl : List (Str × Addr)) (fp : List Addr), PE (X.blk s H scope (compEnvC scope cl C X.env) fp) elt te) (hs : ∀ x, foldedSetIterable iter X.env x = pure x := by intro _; rfl) (hs2 : ∀ env x, foldedSetIterable iter2 env x = pure x := by intro _ _; rfl) :
    PE X (.ListComp elt [⟨tg, iter, ifs, 0⟩, ⟨tg2, iter2, ifs2, 0⟩] scope pos) (tLc2L wi g tt wi2 g2 tt2 te (own.map (·.2)) vs2) := by
  refine ⟨fun pins s σ H Q I h => ?_⟩
  rw [eval_ListComp]
  show wpAny _ X.A (comprehension (.ListComp elt [⟨tg, iter, ifs, 0⟩, ⟨tg2, iter2, ifs2, 0⟩] scope pos) scope X.env (firstIterPos [⟨tg, iter, ifs, 0⟩, ⟨tg2, iter2, ifs2, 0⟩] pos) (newList []) false (eval iter X.env) none) _ _ s
  refine lc2_coreL hc hN I hi ok hv hg ht hi2 hg2 ht2 he hs hs2 h fun D C s' m H' I' q hn f => ⟨m, hn, fun h'' sb => ?_⟩
  obtain ⟨f0, f1, f2, f3, f4, f5⟩ := f
  exact ⟨.ref D, H', I'.turned (t' := s'.toks) (fun b o hb e => (sb.2 b hb).trans e) f0 f1 f3 f4 f5, rfl, q⟩
end
end L2

set_option maxRecDepth 100000
set_option maxHeartbeats 4000000
namespace VSI
open PySem PySem.Spec PyProof.Rows L2 SrtO
/-- the text ahead in the tuple that v is -/
def kTx (h : Heap) (v : Value) : Str := DT.txOf (DT.seqAt0 h (DT.refOf (some v)))
theorem kTx_of {h : Heap} {a : Addr} {o : Obj} {y : Str} {t : Tok} {u : Value} {n : Nat} (e : h.get? a = some o) (d : o.data = .seq #[.str y t, u] n) : kTx h (.ref a) = y := by
  show DT.txOf (DT.seqAt0 h a) = y
  have : DT.seqAt0 h a = some (.str y t) := by
    simp only [DT.seqAt0, e, d]
    rfl
  rw [this]
  rfl
def tLt (a b : Str) : Bool := decide (a.cps.toList < b.cps.toList)
theorem swo_tx (k : Value → Str) : Swo fun v u => tLt (k v) (k u) := by
  refine ⟨fun x y h => ?_, fun x y z h1 h2 => ?_⟩
  · unfold tLt at *
    exact decide_eq_false (fun z => List.lt_irrefl _ (List.lt_trans (of_decide_eq_true h) z))
  · unfold tLt at *
    have a := List.not_lt.mp (of_decide_eq_false h1)
    have b := List.not_lt.mp (of_decide_eq_false h2)
    exact decide_eq_false (List.not_lt.mpr (List.le_trans a b))
section
variable {prog : Program} {w : World} {A : Around} {s : Shared}
/-- v is a pair with a text ahead; one text, one pair -/
structure PairK (h : Heap) (vs : List Value) : Prop where
  is : ∀ v ∈ vs, ∃ (a : Addr) (o : Obj) (y : Str) (t : Tok) (u : Value) (n : Nat), v = .ref a ∧ h.get? a = some o ∧ o.cls = .type "tuple" ∧ o.data = .seq #[.str y t, u] n
  one : ∀ v ∈ vs, ∀ u ∈ vs, kTx h v = kTx h u → v = u
theorem firsts_ofK {h : Heap} : ∀ vs : List Value, (∀ v ∈ vs, ∃ (a : Addr) (o : Obj) (y : Str) (t : Tok) (u : Value) (n : Nat), v = .ref a ∧ h.get? a = some o ∧ o.cls = .type "tuple" ∧ o.data = .seq #[.str y t, u] n) → ∃ fs : List Value, PySem.W.KatTups h vs fs ∧ fs.length = vs.length ∧ ∀ f ∈ fs, ∃ (y : Str) (t : Tok), f = Value.str y t
  | [], _ => ⟨[], PySem.W.KatTups.nil, rfl, fun f hf => by simp at hf⟩
  | v :: vs, x => by
    obtain ⟨fs, k, hl, hi⟩ := firsts_ofK vs fun u hu => x u (List.mem_cons_of_mem _ hu)
    obtain ⟨a, o, y, t, u, n, rfl, ho, hc, hd⟩ := x v (List.mem_cons_self ..)
    refine ⟨.str y t :: fs, PySem.W.KatTups.cons ho hc hd rfl k, by rw [List.length_cons, List.length_cons, hl], fun f hf => ?_⟩
    rcases List.mem_cons.mp hf with rfl | hf
    · exact ⟨y, t, rfl⟩
    · exact hi f hf
theorem PairK.cmp {h : Heap} {vs : List Value} (p : PairK h vs) (hk : ∀ v ∈ vs, kTx s.heap v = kTx h v) (q : ∀ v ∈ vs, ∀ a o, v = .ref a → h.get? a = some o → s.heap.get? a = some o) : Cmp prog w A s (tuples' true) (fun p => p.1 ∈ vs) (lt2 fun v u => tLt (kTx h v) (kTx h u)) := by
  intro x y hx hy
  show wpAny (model prog w) A (keyLt' (tuples' true) x.1 y.1) (fun r s' => s' = s ∧ r = tLt (kTx h x.1) (kTx h y.1)) (fun _ _ => False) s
  have one := p.one _ hx _ hy
  obtain ⟨a, o, y1, t, u, n, e, ho, hc, hd⟩ := p.is _ hx
  obtain ⟨a', o', y2, t', u', n', e', ho', hc', hd'⟩ := p.is _ hy
  have ho2 := q _ hx _ _ e ho
  have ho2' := q _ hy _ _ e' ho'
  rw [e, e'] at one ⊢
  rw [kTx_of ho hd, kTx_of ho' hd'] at one ⊢
  refine PySem.W.kat_lt ho2 hd ho2' hd' ?_
  show PySem.W.KatLex prog w A true (decide (2 < 2)) _ [(.str y1 t, .str y2 t'), (u, u')] 0 s
  refine PySem.W.kat_cons (SeqAt.EqAt.str_str y1 t y2 t' prog w _ _ ?_)
  refine PySem.W.kat_go (fun e1 => ?_) (fun e1 => ?_)
  · have ex : y1 = y2 := by simpa using e1
    have ev := one ex
    cases ev
    rw [ho] at ho'
    cases ho'
    rw [hd] at hd'
    cases hd'
    refine PySem.W.kat_yes (PySem.W.kat_cons (SeqAt.EqAt.same u prog w _ _ ?_))
    refine PySem.W.kat_yes (PySem.W.kat_nil ⟨rfl, ?_⟩)
    unfold tLt
    exact (decide_eq_false (List.lt_irrefl _)).symm
  · exact PySem.W.kat_no (oneLt_str ⟨rfl, rfl⟩)
theorem PairK.sortable {a : Addr} {vs : List Value} (h0 : 0 < vs.length) (p : PairK s.heap vs) (ha : ∀ o, s.heap.get? a = some o → o.cls ≠ .type "tuple") : SortableO prog w A s a vs fun v u => tLt (kTx s.heap v) (kTx s.heap u) := by
  intro h' keep
  have kk : ∀ v ∈ vs, ∀ b o, v = .ref b → s.heap.get? b = some o → h'.get? b = some o := fun v hv b o e eo => by
    obtain ⟨b', o', _, _, _, _, e', ho', hc', _⟩ := p.is v hv
    rw [e] at e'
    cases e'
    rw [eo] at ho'
    cases ho'
    exact keep b o (fun z => ha o (z ▸ eo) hc') eo
  have is' : ∀ v ∈ vs, ∃ (a : Addr) (o : Obj) (y : Str) (t : Tok) (u : Value) (n : Nat), v = .ref a ∧ h'.get? a = some o ∧ o.cls = .type "tuple" ∧ o.data = .seq #[.str y t, u] n := fun v hv => by
    obtain ⟨b, o, y, t, u, n, e, ho, r⟩ := p.is v hv
    exact ⟨b, o, y, t, u, n, e, kk v hv b o e ho, r⟩
  have hk : ∀ v ∈ vs, kTx h' v = kTx s.heap v := fun v hv => by
    obtain ⟨b, o, y, t, u, n, e, ho, hc, hd⟩ := p.is v hv
    rw [e, kTx_of ho hd, kTx_of (kk v hv b o e ho) hd]
  obtain ⟨fs, h1, h2, h3⟩ := firsts_ofK vs is'
  refine ⟨tuples' true, fun Q E hq => ?_, p.cmp (s := { s with heap := h' }) hk kk⟩
  refine PySem.W.kat_kind (T := .type "str") h1 (by omega) (fun f hm => ?_) (by rfl) ?_
  · obtain ⟨x, t, rfl⟩ := h3 f hm
    exact PySem.W.Looks.now
  · have e : (Value.type "str" != Value.type "tuple") = true := by first | decide +kernel | rfl | decide
    rw [e]
    exact hq
end
section
variable {X : Cx}
def rItemsK : V → List V → Hp → VK → Prop := fun x xs H Q => ∃ (a : Addr) (kvs : List (Key × V)), x = .ref a ∧ xs = [] ∧ H a = some (.dK kvs) ∧ ∀ p, H p = none → Q (.ref p) (upd H p (L2.DX.itemsO p a))
theorem mt_itemsK : MtR X "dict.items" rItemsK := by
  intro pins s σ H x xs v us Q I rx rxs h
  obtain ⟨a, kvs, rfl, rfl, ha, q⟩ := h
  cases rx
  cases rxs
  obtain ⟨hz, hs0, vs, kv, hdo⟩ := I.hok a _ ha
  obtain ⟨o, es, ep, ho, hx, hdat, _⟩ := hdo
  refine DT.callItems (es := es) (ep := ep) hs0 ⟨o, ho, hx, hdat⟩ ?_
  have hf : H s.heap.objs.size = none := I.hok.fresh (Nat.le_refl _)
  exact ⟨.ref s.heap.objs.size, upd H s.heap.objs.size (L2.DX.itemsO s.heap.objs.size a), I.laid (t' := s.toks) (fun b u e => Heap.get?_push_of_some _ e) (Nat.le_refl _) (L2.DX.itemsO_ok (Heap.get?_push_size _ rfl)), rfl, q _ hf⟩
/-- sorted(d.items()), the keys texts -/
def rSortItK : List V → Hp → VK → Prop := fun us H Q => ∃ (p a : Addr) (kvs : List (Key × V)), us = [.ref p] ∧ H p = some (L2.DX.itemsO p a) ∧ H a = some (.dK kvs) ∧ (∀ q ∈ kvs, ∃ z : Str, q.1 = .inr z) ∧ (kvs.map (·.1)).Nodup ∧
  ∀ (H' : Hp) (l : Addr) (ts : List Addr) (out : List (Key × V)), (∀ b o, H b = some o → H' b = some o) → H l = none → (∀ t ∈ ts, H t = none) → l ∉ ts → H' l = some (.lst (ts.map V.ref)) → Paired (fun (t : Addr) (q : Key × V) => H' t = some (.tup [kV q.1, q.2])) ts out → out.Perm kvs →
    out.Pairwise (fun e f => ∀ y z : Str, e.1 = .inr y → f.1 = .inr z → ¬ z.cps.toList < y.cps.toList) → Q (.ref l) H'
theorem cr_sortedItK (hc : X.calm = true) : CallR X (.builtin "sorted") rSortItK := by
  intro pins s σ H xs us Q I r h
  obtain ⟨p, a, kvs, rfl, hp, ha, htx, hnd, q⟩ := h
  obtain rfl := Vals.ref1 r
  have view : s.heap.IsItemsView p a := (show ObjOk X.prog X.w H s.heap p (L2.DX.itemsO p a) from I.hok p _ hp).1
  obtain ⟨hz, hs0, vs, kv, hdo⟩ := I.hok a _ ha
  obtain ⟨o0, es, ep, ho0, hx0, hdat0, _, hpr0, _⟩ := hdo
  have lk : kvs.length = vs.length := Paired.length kv
  have lk2 : es.size = vs.length := by
    have := hpr0.length
    rw [Array.length_toList] at this
    exact this
  have hh : X.A.handled = none := I.ok.hd hc
  refine DT.sortedI (es := es) (ep := ep) hh view ⟨o0, ho0, hx0, hdat0⟩ (by omega) fun h' tk as hk hlt0 hl hG => ?_
  have lak : as.length = kvs.length := by omega
  have nd : as.Nodup := List.Pairwise.imp (fun {a b} (h : a < b) => Nat.ne_of_lt h) hG.rise
  -- the pairs that were made
  have pr : ∀ (j : Nat) (b : Addr), as[j]? = some b → ∃ (e : Key × V) (y : Str) (t : Tok) (x : Value), kvs[j]? = some e ∧ e.1 = .inr y ∧ RelV e.2 x ∧ h'.get? b = some { cls := .type "tuple", data := .seq #[Value.str y t, x] } := by
    intro j b hj
    obtain ⟨en, f1, f3⟩ := hG.pairs j b hj
    have hjl : j < kvs.length := by
      have := (List.getElem?_eq_some_iff.mp hj).1
      omega
    obtain ⟨qv, g1, g2, g3⟩ := LiI.paired_get kv (List.getElem?_eq_getElem hjl)
    obtain ⟨k, x⟩ := qv
    obtain ⟨f2, f4⟩ := hpr0.get? (by rw [Array.getElem?_toList]; exact f1) g1
    rw [f4] at f3
    obtain ⟨y, hy⟩ := htx _ (List.getElem_mem hjl)
    have hky : k = .inr y := g2.symm.trans hy
    rw [hky] at f2
    rcases keyIs_shape (show keyIs (Sum.inr y) en.key = true from f2) with ⟨_, _, e, _⟩ | ⟨y', t, e, ev⟩
    · cases e
    · cases e
      rw [ev] at f3
      exact ⟨_, y, t, x, List.getElem?_eq_getElem hjl, hy, g3, f3⟩
  have hzl : (as.map Value.ref).length ≤ sizeLine := by rw [List.length_map, lak]; exact hz
  have hob : (h'.push (seqObj "list" (as.map Value.ref).toArray 0)).get? h'.objs.size = some (seqObj "list" (as.map Value.ref).toArray 0) := Heap.get?_push_size _ rfl
  have ne0 : ∀ b o, h'.get? b = some o → b ≠ h'.objs.size := fun b o e => Nat.ne_of_lt (Heap.lt_size e)
  show wpAny _ _ _ _ _ { s with heap := h'.push (seqObj "list" (as.map Value.ref).toArray 0), toks := tk }
  have ka : ∀ b o, h'.get? b = some o → (h'.push (seqObj "list" (as.map Value.ref).toArray 0)).get? b = some o := fun b o e => Heap.get?_push_of_some _ e
  have hsz : (h'.push (seqObj "list" (as.map Value.ref).toArray 0)).objs.size = h'.objs.size + 1 := Heap.size_push ..
  generalize hh2 : h'.push (seqObj "list" (as.map Value.ref).toArray 0) = h2 at hob ka hsz ⊢
  have tx : ∀ (j : Nat) (b : Addr) (e : Key × V) (y : Str), as[j]? = some b → kvs[j]? = some e → e.1 = .inr y → kTx h2 (.ref b) = y := by
    intro j b e y hj he hy
    obtain ⟨e', y', t, x, he', hy', _, hg⟩ := pr j b hj
    rw [he] at he'
    cases he'
    rw [hy] at hy'
    cases hy'
    exact kTx_of (ka _ _ hg) rfl
  have PK : PairK h2 (as.map Value.ref) := by
    refine ⟨fun v hv => ?_, fun v hv u hu e => ?_⟩
    · obtain ⟨b, hb, rfl⟩ := List.mem_map.mp hv
      obtain ⟨j, hj⟩ := List.mem_iff_getElem?.mp hb
      obtain ⟨e, y, t, x, he, hy, _, hg⟩ := pr j b hj
      exact ⟨b, _, y, t, x, 0, rfl, ka _ _ hg, rfl, rfl⟩
    · obtain ⟨b, hb, rfl⟩ := List.mem_map.mp hv
      obtain ⟨c, hc', rfl⟩ := List.mem_map.mp hu
      obtain ⟨j, hj⟩ := List.mem_iff_getElem?.mp hb
      obtain ⟨i, hi⟩ := List.mem_iff_getElem?.mp hc'
      obtain ⟨e1, y1, t1, x1, he1, hy1, _, _⟩ := pr j b hj
      obtain ⟨e2, y2, t2, x2, he2, hy2, _, _⟩ := pr i c hi
      rw [tx j b e1 y1 hj he1 hy1, tx i c e2 y2 hi he2 hy2] at e
      have hlt : j < (kvs.map (·.1)).length := by rw [List.length_map]; exact (List.getElem?_eq_some_iff.mp he1).1
      have eji : j = i := (List.getElem?_inj hlt hnd).mp (by rw [List.getElem?_map, List.getElem?_map, he1, he2]; show some e1.1 = some e2.1; rw [hy1, hy2, e])
      rw [eji, hi] at hj
      cases hj
      rfl
  refine (wpAny_call_entry PyProof.Rows.slot_list_sort ⟨_, hob, rfl⟩ PyProof.Rows.entry_list_sort (list_sort_ord (s := { s with heap := h2, toks := tk }) (ltv := fun v u => tLt (kTx h2 v) (kTx h2 u)) (swo_tx _) hob hzl (fun h2' => PairK.sortable (s := { s with heap := h2, toks := tk }) (by omega) PK fun o e c => ?_) fun out hs hb => ⟨_, rfl, ?_⟩) (PyProof.Rows.args_list_sort _))
  · rw [show o = seqObj "list" (as.map Value.ref).toArray 0 from Option.some.inj (e.symm.trans hob)] at c
    exact absurd (Value.type.inj c) (by decide)
  show EP X pins σ Q (.ref h'.objs.size) { s with heap := sortedHeap h2 h'.objs.size (as.map Value.ref) out.toArray, toks := tk }
  obtain ⟨zs, pz, ez⟩ : ∃ zs : List (Addr × (Key × V)), zs.Perm (as.zip kvs) ∧ out = zs.map fun z => Value.ref z.1 := by
    have m0 : (as.zip kvs).map (·.1) = as := List.map_fst_zip (by rw [lak]; exact Nat.le_refl _)
    have m1 : (as.zip kvs).map (fun z => Value.ref z.1) = as.map Value.ref := by
      have e := congrArg (List.map Value.ref) m0
      rw [List.map_map] at e
      exact e
    obtain ⟨zs, h1, h2'⟩ := perm_lift (fun z : Addr × (Key × V) => Value.ref z.1) hb.perm (as.zip kvs) m1
    exact ⟨zs, h1, h2'.symm⟩
  have idx : ∀ z ∈ zs, ∃ j : Nat, as[j]? = some z.1 ∧ kvs[j]? = some z.2 := by
    intro z' hz'
    obtain ⟨j, hj⟩ := List.mem_iff_getElem?.mp (pz.mem_iff.mp hz')
    exact ⟨j, List.getElem?_zip_eq_some.mp hj⟩
  have hperm : (zs.map (·.2)).Perm kvs := by
    have e := pz.map (·.2)
    rw [show (as.zip kvs).map (·.2) = kvs from List.map_snd_zip (by rw [lak]; exact Nat.le_refl _)] at e
    exact e
  have hsort : (zs.map (·.2)).Pairwise (fun e f => ∀ y z : Str, e.1 = .inr y → f.1 = .inr z → ¬ z.cps.toList < y.cps.toList) := by
    have hs' : (zs.map fun z => Value.ref z.1).Pairwise (fun v u => tLt (kTx h2 u) (kTx h2 v) = false) := by
      rw [← ez]
      exact hs
    rw [List.pairwise_map] at hs' ⊢
    refine List.Pairwise.imp_of_mem (fun {x y} hx hy h y1 y2 e1 e2 => ?_) hs'
    obtain ⟨j, j1, j2⟩ := idx x hx
    obtain ⟨i, i1, i2⟩ := idx y hy
    have h' : tLt (kTx h2 (.ref y.1)) (kTx h2 (.ref x.1)) = false := h
    rw [tx j _ _ _ j1 j2 e1, tx i _ _ _ i1 i2 e2] at h'
    exact of_decide_eq_false h'
  -- behind the sort
  have hlt : s.heap.objs.size ≤ h'.objs.size := Nat.le_of_lt hlt0
  have kF : ∀ b o, b ≠ h'.objs.size → h2.get? b = some o → (sortedHeap h2 h'.objs.size (as.map Value.ref) out.toArray).get? b = some o := fun b o hb e => (PyProof.Rows.sortedHeap_old hb (Heap.lt_size e)).trans e
  have kS : ∀ b o, s.heap.get? b = some o → (sortedHeap h2 h'.objs.size (as.map Value.ref) out.toArray).get? b = some o := fun b o e => kF b o (ne0 _ _ (hk b o e)) (ka _ _ (hk b o e))
  obtain ⟨eF, heF⟩ := PyProof.Rows.sortedHeap_at (vs := as.map Value.ref) (out := out.toArray) hob
  have I1 : Inv X pins σ H { s with heap := sortedHeap h2 h'.objs.size (as.map Value.ref) out.toArray, toks := tk } := I.kept (t' := tk) kS
  have hn0 : H h'.objs.size = none := I.hok.fresh hlt
  have hlen : (zs.map fun z => V.ref z.1).length ≤ sizeLine := by
    have e := hperm.length_eq
    rw [List.length_map] at e
    rw [List.length_map]
    omega
  have rv : Vals (zs.map fun z => V.ref z.1) out := by
    rw [ez]
    exact vals_maps (fun z : Addr × (Key × V) => V.ref z.1) (fun z => Value.ref z.1) zs fun _ _ => rfl
  have I2 : Inv X pins σ (upd H h'.objs.size (.lst (zs.map fun z => V.ref z.1))) { s with heap := sortedHeap h2 h'.objs.size (as.map Value.ref) out.toArray, toks := tk } :=
    I1.take (h' := sortedHeap h2 h'.objs.size (as.map Value.ref) out.toArray) (t' := tk) (fun b ob _ e => e) (I.fpOk hlt hn0) ⟨hlen, out, eF, rv, heF⟩
  obtain ⟨H2, I3, g, qt⟩ := L2.DX.takeT (P := fun b vs => ∃ (j : Nat) (e : Key × V), as[j]? = some b ∧ kvs[j]? = some e ∧ vs = [kV e.1, e.2]) I as _ I2 nd fun b hb => by
    obtain ⟨j, hj⟩ := List.mem_iff_getElem?.mp hb
    obtain ⟨e, y, t, x, he, hy, rx, hg⟩ := pr j b hj
    have hbl : s.heap.objs.size ≤ b := Nat.le_of_lt (hG.above b hb)
    refine ⟨hbl, ?_, [kV e.1, e.2], ⟨j, e, hj, he, rfl⟩, fun H3 => ⟨(by rw [sizeLine_eq]; show 2 ≤ 16777216; omega), [Value.str y t, x], .cons (by rw [hy]; exact ⟨t, rfl⟩) (.cons rx .nil), ⟨_, kF _ _ (ne0 _ _ hg) (ka _ _ hg), rfl, 0, rfl⟩⟩⟩
    rw [upd_ne (ne0 _ _ hg)]
    exact I.hok.fresh hbl
  have gr : ∀ b o, H b = some o → H2 b = some o := fun b o e => g b o (by rw [upd_ne (ne_of_none e hn0)]; exact e)
  have asn : ∀ b ∈ as, H b = none ∧ b ≠ h'.objs.size := fun b hb => by
    obtain ⟨j, hj⟩ := List.mem_iff_getElem?.mp hb
    obtain ⟨e, y, t, x, he, hy, rx, hg⟩ := pr j b hj
    exact ⟨I.hok.fresh (Nat.le_of_lt (hG.above b hb)), ne0 _ _ hg⟩
  refine ⟨.ref h'.objs.size, H2, I3, rfl, q H2 h'.objs.size (zs.map (·.1)) (zs.map (·.2)) gr hn0 (fun b hb => ?_) (fun hb => ?_) (by rw [List.map_map]; exact g _ _ upd_same) ?_ hperm hsort⟩
  · obtain ⟨z', hz', rfl⟩ := List.mem_map.mp hb
    obtain ⟨j, j1, _⟩ := idx z' hz'
    exact (asn _ (List.mem_of_getElem? j1)).1
  · obtain ⟨z', hz', e⟩ := List.mem_map.mp hb
    obtain ⟨j, j1, _⟩ := idx z' hz'
    exact (asn _ (List.mem_of_getElem? j1)).2 e
  · have key : ∀ zs' : List (Addr × (Key × V)), (∀ z ∈ zs', z ∈ zs) → Paired (fun (t : Addr) (q : Key × V) => H2 t = some (.tup [kV q.1, q.2])) (zs'.map (·.1)) (zs'.map (·.2)) := by
      intro zs'
      induction zs' with
      | nil => intro _; exact .nil
      | cons z zs' ih =>
        intro hm
        refine .cons ?_ (ih fun z' hz' => hm z' (List.mem_cons_of_mem _ hz'))
        obtain ⟨i, i1, i2⟩ := idx z (hm z List.mem_cons_self)
        obtain ⟨vs, ⟨j, e, j1, j2, ev⟩, hH⟩ := qt z.1 (List.mem_of_getElem? i1)
        have eij : i = j := (List.getElem?_inj (List.getElem?_eq_some_iff.mp i1).1 nd).mp (i1.trans j1.symm)
        subst eij
        have ee : e = z.2 := Option.some.inj (j2.symm.trans i2)
        rw [ev, ee] at hH
        exact hH
    exact key zs fun _ h => h
end
end VSI

set_option maxRecDepth 100000
set_option maxHeartbeats 4000000
namespace SS
open PySem L2 SR TL
/-- all but D stays -/
def SameB (D : Addr) (H H' : Hp) : Prop := ∀ a o, a ≠ D → H a = some o → H' a = some o
theorem Same.b {D : Addr} {H H' : Hp} (e : Same H H') : SameB D H H' := fun a o _ h => e a o h
theorem SameB.upd {D : Addr} {H : Hp} {o : HO} : SameB D H (upd H D o) := fun a u ha h => by rw [upd_ne ha]; exact h
/-- a comprehension that changes nothing but its own list D: S tells what is gathered -/
theorem lc_S {J : It} {n : Nat} {G : Hp → Prop} {Y : Nat → Hp → V → Hp → Prop} (w : Walk J n G Y) {g : TG} {tt : TT} {te : TE} {vs : List Nat} {σ : St} {H1 : Hp} {D : Addr} {Qd : Hp → Prop} (hD : H1 D = none) (hn : n ≤ 1000000)
    (S : Nat → List V → Hp → Prop) (hS : ∀ i acc acc' H H', H D = some (.lst acc') → SameB D H H' → S i acc H → S i acc H') (h0 : S 0 [] (upd H1 D (.lst []))) (hG : ∀ H, Same H1 H → G H)
    (hs : ∀ i x H H' acc (Qt : V → Hp → Prop) (Qf : Hp → Prop), i < n → Same H1 H → H D = some (.lst acc) → S i acc H → Y i H x H' → (∀ y H4, Same H H4 → S (i + 1) (acc ++ [y]) H4 → Qt y H4) → (∀ H3, Same H H3 → S (i + 1) acc H3 → Qf H3) →
      g x (wipe σ vs) H' fun σ2 H2 => wipe σ2 vs = wipe σ vs ∧ tt σ2 H2 fun b H3 => if b = true then te σ2 H3 Qt else Qf H3)
    (hd : ∀ H acc, Same H1 H → H D = some (.lst acc) → S n acc H → Qd H) :
    ∃ W : Nat → Nat → Hp → Prop, (∃ m, W 0 m (upd H1 D (.lst []))) ∧ ∀ i m H, W i m H →
      (J.stop i H ∧ Qd H) ∨ (J.go i H ∧ ∃ Nx : Hp → Prop, (∀ H', Nx H' → ∃ m', m' < m ∧ W (i + 1) m' H') ∧ ∀ x H', J.yld i H x H' → g x (wipe σ vs) H' fun σ2 H2 => wipe σ2 vs = wipe σ vs ∧ tt σ2 H2 fun b H3 =>
        if b = true then te σ2 H3 fun y H4 => ∃ acc, H4 D = some (.lst acc) ∧ acc.length < sizeLine ∧ Nx (upd H4 D (.lst (acc ++ [y]))) else Nx H3) := by
  refine lc_it w (fun i H => Same H1 H ∧ ∃ acc, H D = some (.lst acc) ∧ acc.length ≤ i ∧ S i acc H) ⟨same_new hD, [], upd_same, Nat.le_refl _, h0⟩ (fun i H _ p => hG H p.1) (fun i x H H' hi p y => ?_) (fun H p => ?_)
  · obtain ⟨e, acc, hd', hl, s⟩ := p
    refine hs i x H H' acc _ _ hi e hd' s y (fun z H4 e4 s4 => ⟨acc, e4 _ _ hd', by rw [sizeLine_eq]; omega, same_upd (e.trans e4) hD, acc ++ [z], upd_same, by rw [List.length_append]; exact Nat.succ_le_succ hl, ?_⟩) (fun H3 e3 s3 => ⟨e.trans e3, acc, e3 _ _ hd', Nat.le_succ_of_le hl, s3⟩)
    exact hS _ _ _ _ _ (e4 _ _ hd') SameB.upd s4
  · obtain ⟨e, acc, hd', _, s⟩ := p
    exact hd H acc e hd' s
theorem ne_lst {H : Hp} {D q : Addr} {acc : List V} {o : HO} (hd : H D = some (.lst acc)) (h : H q = some o) (n : ∀ xs, o ≠ .lst xs) : q ≠ D := fun e => by
  rw [e, hd] at h
  exact n acc (Option.some.inj h).symm
theorem Paired.mono {α β : Type} {R R' : α → β → Prop} : ∀ {xs : List α} {ys : List β}, Paired R xs ys → (∀ a b, R a b → R' a b) → Paired R' xs ys
  | _, _, .nil, _ => .nil
  | _, _, .cons r t, f => .cons (f _ _ r) (Paired.mono t f)
theorem mergeK_nil {kvs : List (Key × V)} (nd : (kvs.map (·.1)).Nodup) : mergeK [] kvs = kvs := by
  have key : ∀ (more acc : List (Key × V)), ((acc ++ more).map (·.1)).Nodup → mergeK acc more = acc ++ more := by
    intro more
    induction more with
    | nil => intro acc _; exact (List.append_nil acc).symm
    | cons p more ih =>
      intro acc nd
      have hv : valV acc p.1 = none := by
        unfold valV
        rw [Option.map_eq_none_iff, List.find?_eq_none]
        intro q hq hk
        have e : q.1 = p.1 := by simpa using hk
        rw [List.map_append, List.nodup_append] at nd
        exact nd.2.2 q.1 (List.mem_map.mpr ⟨q, hq, rfl⟩) p.1 (by simp) e
      have e1 : mergeK acc (p :: more) = mergeK (acc ++ [p]) more := by
        show mergeK (putK acc p.1 p.2) more = _
        rw [putK_new _ hv]
      rw [e1, ih (acc ++ [p]) (by rwa [List.append_assoc])]
      rw [List.append_assoc]; rfl
  exact key kvs [] nd
theorem paired_get {α β : Type} {R : α → β → Prop} : ∀ {xs : List α} {ys : List β} (i : Nat) {y : β}, Paired R xs ys → ys[i]? = some y → ∃ x, xs[i]? = some x ∧ R x y
  | _, _, _, _, .nil, h => by simp at h
  | x :: xs, y :: ys, 0, z, .cons r _, h => by
    have e : y = z := Option.some.inj h
    exact ⟨x, rfl, e ▸ r⟩
  | x :: xs, y :: ys, i + 1, z, .cons _ t, h => by
    obtain ⟨a, h1, h2⟩ := paired_get i t (by simpa using h)
    exact ⟨a, by simpa using h1, h2⟩
theorem inV_ints (q : Int) (es : List Int) : inV (.int q) (es.map .int) = decide (q ∈ es) := by
  unfold inV
  induction es with
  | nil => rfl
  | cons e es ih =>
    rw [List.map_cons, List.any_cons, ih]
    show ((e == q) || decide (q ∈ es)) = _
    by_cases h : e = q
    · subst h; simp
    · have : (e == q) = false := beq_eq_false_iff_ne.mpr h
      rw [this, Bool.false_or]
      have h' : ¬ q = e := fun z => h z.symm
      simp [h']
theorem flat_ints (es : List Int) : (es.map V.int).all flatV = true := by
  induction es with
  | nil => rfl
  | cons e es ih => rw [List.map_cons, List.all_cons, ih]; rfl
theorem atI_of {α : Type} {xs : List α} {q : Int} {x : α} (q0 : 0 ≤ q) (h : xs[q.toNat]? = some x) : atI xs q = some x := by
  have := atI_nat h
  rwa [Int.toNat_of_nonneg q0] at this
theorem nodup_len : ∀ (m : Nat) (l : List Int), l.Nodup → (∀ q ∈ l, 0 ≤ q ∧ q < (m : Int)) → l.length ≤ m := by
  intro m
  induction m with
  | zero =>
    intro l _ b
    cases l with
    | nil => exact Nat.le_refl _
    | cons q l => have := b q List.mem_cons_self; omega
  | succ m ih =>
    intro l nd b
    by_cases hm : ((m : Nat) : Int) ∈ l
    · have := ih (l.erase (m : Int)) (nd.erase _) (fun q hq => by
        have h1 := b q (List.mem_of_mem_erase hq)
        have h2 : q ≠ (m : Int) := (List.Nodup.mem_erase_iff nd).mp hq |>.1
        omega)
      rw [List.length_erase_of_mem hm] at this
      omega
    · have := ih l nd (fun q hq => by
        have h1 := b q hq
        have h2 : q ≠ (m : Int) := fun z => hm (z ▸ hq)
        omega)
      omega
def NonStr (H : Hp) (v : V) : Prop := v = .non ∨ (∃ i, v = .int i) ∨ (∃ b, v = .bl b) ∨ ∃ a, v = .ref a ∧ ((∃ xs, H a = some (.lst xs)) ∨ (∃ xs, H a = some (.tup xs)) ∨ ∃ kvs, H a = some (.dK kvs))
theorem NonStr.mono {H H' : Hp} {v : V} (e : Same H H') (h : NonStr H v) : NonStr H' v := by
  rcases h with h | h | h | ⟨a, h, h' | h' | h'⟩
  · exact .inl h
  · exact .inr (.inl h)
  · exact .inr (.inr (.inl h))
  · obtain ⟨xs, z⟩ := h'; exact .inr (.inr (.inr ⟨a, h, .inl ⟨xs, e _ _ z⟩⟩))
  · obtain ⟨xs, z⟩ := h'; exact .inr (.inr (.inr ⟨a, h, .inr (.inl ⟨xs, e _ _ z⟩)⟩))
  · obtain ⟨xs, z⟩ := h'; exact .inr (.inr (.inr ⟨a, h, .inr (.inr ⟨xs, e _ _ z⟩)⟩))
theorem NonStr.isi {K : PySem.W.Frag} {H : Hp} {v : V} (h : NonStr H v) : ∃ t, TyX K H v t ∧ PySem.W.kitOne K t (.type "str") = some false := by
  rcases h with rfl | ⟨i, rfl⟩ | ⟨b, rfl⟩ | ⟨a, rfl, ⟨xs, z⟩ | ⟨xs, z⟩ | ⟨xs, z⟩⟩
  · exact ⟨_, .base .non, kit_ty (by decide +kernel)⟩
  · exact ⟨_, .base (.int i), kit_ty (by decide +kernel)⟩
  · exact ⟨_, .base (.bl b), kit_ty (by decide +kernel)⟩
  · exact ⟨_, .base (.lst z), kit_ty (by decide +kernel)⟩
  · exact ⟨_, .base (.tup z), kit_ty (by decide +kernel)⟩
  · exact ⟨_, .base (.dK z), kit_ty (by decide +kernel)⟩
theorem len_sub : ∀ (l D : List Nat), l.Nodup → (∀ x ∈ l, x ∈ D) → l.length ≤ D.length
  | [], _, _, _ => Nat.zero_le _
  | x :: l, D, nd, h => by
    obtain ⟨n1, n2⟩ := List.nodup_cons.mp nd
    have hx := h x List.mem_cons_self
    have := len_sub l (D.erase x) n2 fun y hy => (List.mem_erase_of_ne (fun (e : y = x) => n1 (e ▸ hy))).mpr (h y (List.mem_cons_of_mem _ hy))
    rw [List.length_erase_of_mem hx] at this
    have hpos : 0 < D.length := List.length_pos_of_mem hx
    show l.length + 1 ≤ D.length
    omega
abbrev abc26 : List Nat := (List.range 26).map (· + 97)
def rNotInSg : R2 := fun x y H Q => ∃ (c : Nat) (z : Str), x = .str ⟨#[c]⟩ ∧ y = .str z ∧ Q (.bl (!decide (c ∈ z.cps.toList))) H
def txtV (x : List Nat) : V := .str (txt x)
theorem txt_app (x y : List Nat) : txt x ++ txt y = txt (x ++ y) := by
  rw [txt_of (txt x ++ txt y)]
  exact congrArg txt (by rw [show (txt x ++ txt y).cps.toList = tl (txt x ++ txt y) from rfl, tl_append]; simp [txt])
def rAddT : R2 := fun x y H Q => ∃ i j, x = .str i ∧ y = .str j ∧ i.length + j.length ≤ sizeLine ∧ Q (.str (i ++ j)) H
def rInSg : R2 := fun x y H Q => ∃ (c : Nat) (z : Str), x = .str ⟨#[c]⟩ ∧ y = .str z ∧ Q (.bl (decide (c ∈ z.cps.toList))) H
theorem in26 (c : Nat) : c ∈ (Str.ofString "abcdefghijklmnopqrstuvwxyz").cps.toList ↔ 97 ≤ c ∧ c < 123 := by
  rw [abc_codes]
  constructor
  · intro h
    obtain ⟨j, hj, e⟩ := List.mem_map.mp h
    have := List.mem_range.mp hj
    omega
  · intro h
    exact List.mem_map.mpr ⟨c - 97, List.mem_range.mpr (by omega), by omega⟩
/-! ### flat data -/
def Leaf (d : PyData) : Prop := d.canLay0 = true ∧ d.depth = 0
theorem leaf_lay : ∀ ds : List PyData, (∀ d ∈ ds, Leaf d) → PyData.canLayAll0 ds = true
  | [], _ => rfl
  | d :: ds, h => by
    rw [PyData.canLayAll0, (h d List.mem_cons_self).1, leaf_lay ds fun x hx => h x (List.mem_cons_of_mem _ hx)]
    rfl
theorem leaf_depth : ∀ ds : List PyData, (∀ d ∈ ds, Leaf d) → PyData.depthAll ds = 0
  | [], _ => by simp [PyData.depthAll]
  | d :: ds, h => by
    rw [PyData.depthAll, (h d List.mem_cons_self).2, leaf_depth ds fun x hx => h x (List.mem_cons_of_mem _ hx)]
    rfl
theorem leaf_list {ds : List PyData} (h : ∀ d ∈ ds, Leaf d) : SeqAt.shaped (.list ds) = true := by
  unfold SeqAt.shaped
  rw [PyData.canLay0, leaf_lay ds h, PyData.depth, leaf_depth ds h]
  rfl
theorem leaf_tuple {ds : List PyData} (h : ∀ d ∈ ds, Leaf d) : SeqAt.shaped (.tuple ds) = true := by
  unfold SeqAt.shaped
  rw [PyData.canLay0, leaf_lay ds h, PyData.depth, leaf_depth ds h]
  rfl
theorem leaf_int (i : Int) : Leaf (.int i) := ⟨by simp [PyData.canLay0], by simp [PyData.depth]⟩
theorem leaf_bool (b : Bool) : Leaf (.bool b) := ⟨by simp [PyData.canLay0], by simp [PyData.depth]⟩
theorem leaf_lt {c : Nat} (h : c < 123) : Leaf (.str (lt c)) := ⟨by
    have key : ∀ k : Fin 123, PyData.canLay0 (.str (lt k.val)) = true := by decide +kernel
    exact key ⟨c, h⟩, by simp [PyData.depth]⟩
theorem dp_map {α : Type} {K : PySem.W.Frag} {H : Hp} {f : α → V} {g : α → PyData} (h : ∀ a, Dp K H (f a) (g a)) : ∀ xs : List α, DpAll K H (xs.map f) (xs.map g)
  | [] => .nil
  | a :: xs => .cons (h a) (dp_map h xs)

/-- all letters -/
def Lets (x : List Nat) : Prop := ∀ c ∈ x, 97 ≤ c ∧ c < 123
/-! ### a reader's data -/
/-- what a move leads to and tells -/
abbrev Mv := Int × Option (List Nat)
/-- a state: sign, move -/
abbrev Rw := List (Nat × Mv)
def tellV : Option (List Nat) → V
  | none => .non
  | some x => txtV x
def MvAt (H : Hp) (p : Addr) (m : Mv) : Prop := H p = some (.tup [.int m.1, tellV m.2])
def entK (e : Nat × Mv) (p : Addr) : Key × V := (Sum.inr (lt e.1), V.ref p)
def RwAt (H : Hp) (q : Addr) (row : Rw) : Prop := ∃ ps : List Addr, H q = some (.dK (List.zipWith entK row ps)) ∧ Paired (fun p e => MvAt H p e.2) ps row
theorem RwAt.mono {H H' : Hp} {q : Addr} {row : Rw} (e : Same H H') (h : RwAt H q row) : RwAt H' q row := by
  obtain ⟨ps, h1, h2⟩ := h
  exact ⟨ps, e _ _ h1, Paired.mono h2 fun a b g => e _ _ g⟩
/-- what is no list stands -/
def SameN (H H' : Hp) : Prop := ∀ b o, H b = some o → (∀ xs, o ≠ .lst xs) → H' b = some o
theorem Same.n {H H' : Hp} (e : Same H H') : SameN H H' := fun b o h _ => e b o h
theorem SameN.upd {H : Hp} {p : Addr} {xs ys : List V} (h : H p = some (.lst xs)) : SameN H (upd H p (.lst ys)) := fun b o hb no => by
  rw [upd_ne fun z => ?_]
  · exact hb
  · rw [z, h] at hb
    cases hb
    exact no _ rfl
theorem RwAt.nl {H H' : Hp} {q : Addr} {row : Rw} (e : SameN H H') (h : RwAt H q row) : RwAt H' q row := by
  obtain ⟨ps, h1, h2⟩ := h
  exact ⟨ps, e _ _ h1 fun _ => nofun, Paired.mono h2 fun a b g => e _ _ g fun _ => nofun⟩
theorem val_new : ∀ {row : Rw} {ps : List Addr} {c : Nat}, c ∉ row.map (·.1) → valV (List.zipWith entK row ps) (Sum.inr (lt c)) = none := by
  intro row ps c h
  unfold valV
  rw [Option.map_eq_none_iff, List.find?_eq_none]
  intro x hx hk
  obtain ⟨i, hi, e⟩ := List.getElem_of_mem hx
  rw [List.getElem_zipWith] at e
  rw [← e] at hk
  have hk' : (Sum.inr (lt (row[i]'(by simp at hi; omega)).1) : Key) = Sum.inr (lt c) := by simpa [entK] using hk
  have hc : (row[i]'(by simp at hi; omega)).1 = c := by
    have := congrArg (fun z : Str => z.cps.toList) (Sum.inr.inj hk')
    simpa [lt] using this
  exact h (List.mem_map.mpr ⟨_, List.getElem_mem _, hc⟩)
/-- a name that a move tells -/
def Name (x : List Nat) : Prop := Lets x ∧ 1 ≤ x.length ∧ x.length ≤ 8
/-- the form of a reader, over page signs cs, text signs ts and marks ms -/
structure WfR (cs ts : List Nat) (ms : List (List Nat)) (rows : List Rw) (ends : List Int) (start : Int) : Prop where
  one : 1 ≤ rows.length
  most : rows.length ≤ 12
  nd : ∀ row ∈ rows, (row.map (·.1)).Nodup
  key : ∀ row ∈ rows, ∀ e ∈ row, e.1 ∈ cs
  goal : ∀ row ∈ rows, ∀ e ∈ row, 0 ≤ e.2.1 ∧ e.2.1 < (rows.length : Int)
  told : ∀ row ∈ rows, ∀ e ∈ row, ∀ x, e.2.2 = some x → (∃ c ∈ ts, x = [c]) ∨ x ∈ ms
  end0 : ∀ s ∈ ends, 0 ≤ s ∧ s < (rows.length : Int)
  endN : ends.Nodup
  st0 : 0 ≤ start
  st1 : start < (rows.length : Int)
/-- the letters and marks that are drawn -/
structure Pal (cs ts : List Nat) (ms : List (List Nat)) : Prop where
  csl : Lets cs
  tsl : Lets ts
  msl : ∀ x ∈ ms, Lets x ∧ 2 ≤ x.length ∧ x.length ≤ 8
  csn : cs.length ≤ 6
  tsn : ts.length ≤ 4
  msn : ms.length ≤ 6
/-- the law's tuple (rows, ends, start) -/
structure ModAt (H : Hp) (t : Addr) (rows : List Rw) (ends : List Int) (start : Int) : Prop where
  ex : ∃ (pr pe : Addr) (qs : List Addr), H t = some (.tup [.ref pr, .ref pe, .int start]) ∧ H pr = some (.lst (qs.map .ref)) ∧ Paired (RwAt H) qs rows ∧ H pe = some (.lst (ends.map .int))
theorem ModAt.mono {H H' : Hp} {t : Addr} {rows : List Rw} {ends : List Int} {start : Int} (e : Same H H') (m : ModAt H t rows ends start) : ModAt H' t rows ends start := by
  obtain ⟨pr, pe, qs, h1, h2, h3, h4⟩ := m.ex
  exact ⟨pr, pe, qs, e _ _ h1, e _ _ h2, Paired.mono h3 fun a b h => h.mono e, e _ _ h4⟩
/-- the move of a row by a sign -/
def mvOf (row : Rw) (c : Nat) : Option Mv := (row.find? fun e => decide (e.1 = c)).map (·.2)
end SS

set_option maxRecDepth 100000
set_option maxHeartbeats 4000000
set_option pp.maxSteps 1500
namespace SS
open PySem L2 SR TL
theorem sum_lt : ∀ l : List Nat, ((l.map lt).map (·.length)).sum = l.length := by
  intro l
  induction l with
  | nil => rfl
  | cons c l ih =>
    show (lt c).length + ((l.map lt).map (·.length)).sum = l.length + 1
    rw [ih]
    show 1 + l.length = l.length + 1
    omega
theorem inV_txts (y : List Nat) (ms : List (List Nat)) : inV (txtV y) (ms.map txtV) = decide (y ∈ ms) := by
  unfold inV
  induction ms with
  | nil => simp
  | cons a as ih =>
    rw [List.map_cons, List.any_cons, ih]
    show ((txt a == txt y) || decide (y ∈ as)) = _
    by_cases h : a = y
    · subst h; simp
    · have : (txt a == txt y) = false := beq_eq_false_iff_ne.mpr fun z => h (txt_inj z)
      rw [this, Bool.false_or]
      have h' : ¬ y = a := fun z => h z.symm
      simp [h']
theorem flat_txts (ms : List (List Nat)) : (ms.map txtV).all flatV = true := by
  rw [List.all_eq_true]
  intro v hv
  obtain ⟨y, _, rfl⟩ := List.mem_map.mp hv
  rfl
theorem len_subG {α : Type} [DecidableEq α] : ∀ (l D : List α), l.Nodup → (∀ x ∈ l, x ∈ D) → l.length ≤ D.length
  | [], _, _, _ => Nat.zero_le _
  | x :: l, D, nd, h => by
    obtain ⟨n1, n2⟩ := List.nodup_cons.mp nd
    have hx := h x List.mem_cons_self
    have := len_subG l (D.erase x) n2 fun y hy => (List.mem_erase_of_ne (fun (e : y = x) => n1 (e ▸ hy))).mpr (h y (List.mem_cons_of_mem _ hy))
    rw [List.length_erase_of_mem hx] at this
    have hpos : 0 < D.length := List.length_pos_of_mem hx
    show l.length + 1 ≤ D.length
    omega
theorem fresh_ex (ms : List (List Nat)) (x : List Nat) (h : ms.length ≤ 6) : ∃ y ys, ((x :: abc26.map fun c => [109, c]).filter fun y => decide (y ∉ ms)) = y :: ys ∧ y ∉ ms := by
  cases e : (x :: abc26.map fun c => [109, c]).filter fun y => decide (y ∉ ms) with
  | nil =>
    exfalso
    have : ∀ y ∈ abc26.map (fun c => [109, c]), y ∈ ms := fun y hy => by
      have := List.filter_eq_nil_iff.mp e y (List.mem_cons_of_mem _ hy)
      simpa using this
    have := len_subG (abc26.map fun c => [109, c]) ms (by decide +kernel) this
    simp at this
    omega
  | cons y ys =>
    have hm : y ∈ (x :: abc26.map fun c => [109, c]).filter fun y => decide (y ∉ ms) := by rw [e]; exact List.mem_cons_self
    exact ⟨y, ys, rfl, by simpa using (List.mem_filter.mp hm).2⟩
section
variable {P : Program} {w : World} {K : PySem.W.Frag} {mg : Str → Option Value} {base : Heap}
/-! ### _law_marks -/
abbrev sMarks : Stmt := top 35
abbrev nMarks : List Str := ["_law_rng_here", "_law_many", "_law_found", "_law_k", "_law_size", "_law_mark", "_law_turn", "_law_spare", "_law_letter", "_law_one"]
abbrev psMarks : List Str := ["_law_rng_here", "_law_many"]
theorem scMarks : FnScope nMarks psMarks (defScope sMarks) := ⟨rfl, rfl, rfl, by decide +kernel, rfl, by decide +kernel, by decide +kernel⟩
def spMarks : Sp := fun vs H Q _ => ∃ (r : Addr) (m : Nat), vs = [.ref r, .int m] ∧ m ≤ 6 ∧ H r = some (rngO r) ∧
  ∀ (ms : List (List Nat)) (p : Addr) (H' : Hp), ms.length = m → ms.Nodup → (∀ x ∈ ms, Lets x ∧ 2 ≤ x.length ∧ x.length ≤ 8) → H p = none → Same H H' → H' p = some (.lst (ms.map txtV)) → Q (.ref p) H'
theorem ok_marks {f : Addr} {fd : FuncData} (F : Fun K "_law_marks" "_law_marks" sMarks f fd) (B : Bl mg) (D : Cal P w K mg base "_law_draw" 1 ["_law_rng_here", "_law_many"] spDraw) : FnOk P w K mg base CX0 2 f fd psMarks spMarks := by
  refine F.ok scMarks (fun vs H Q E h => ?_) (fun cdv A outer s H vs Q E hr h => ?_)
  · obtain ⟨r, m, rfl, _⟩ := h
    rfl
  · obtain ⟨r, m, rfl, h6, hR, k⟩ := h
    have hr1 := hr
    refine ⟨_, pss_cons (ps_set (i := 2) scMarks.nd rfl (.inr rfl) (pe_lst pa_nil))
      (pss_cons (ps_for PassesOwn.never rfl (pi_range1 (by rfl) B.range (pa_cons (pv 1) pa_nil)) (pg_name (i := 3) scMarks.nd rfl (.inl rfl))
        (pss_cons (ps_set (i := 4) scMarks.nd rfl (.inl rfl) (pe_op op_add pe_int (pe_ix ix_list (pe_lst (pa_cons pe_int (pa_cons pe_int (pa_cons pe_int (pa_cons pe_int pa_nil))))) (pe_cal D hr1 (pa_cons (pv 0) (pa_cons pe_int pa_nil))) (fun _ _ => rfl))))
      (pss_cons (ps_set (i := 5) scMarks.nd rfl (.inl rfl) (pe_join pe_str (pe_lc (own := [("_law_turn", 6)]) (g := gName 6) (tt := tYes) (te := tOp (rIxS) (tC (.str (Str.ofString "abcdefghijklmnopqrstuvwxyz"))) (tCall spDraw [] E0 (tCons (tVar 0) (tCons (tC (.int 26)) tNil)))) rfl scMarks.nd (pi_range1 (by rfl) B.range (pa_cons (pv 4) pa_nil)) (blkOk_by (by kernel_rfl)) (fun _ _ _ _ _ => pg_name (i := 6) scMarks.nd rfl (.inl rfl)) (fun _ _ _ _ _ => pts_nil) (fun _ _ _ _ _ => pe_ix ix_str pe_str (pe_cal D hr1 (pa_cons (pv 0) (pa_cons pe_int pa_nil))) (fun _ _ => rfl)))))
      (pss_cons (ps_setLc (i := 7) (own := [("_law_letter", 8)]) (g := gName 8) (tt := tYes) (te := tOp (rAddT) (tC (.str (Str.ofString "m"))) (tVar 8)) rfl scMarks.nd rfl rfl (sw_true rfl rfl rfl (by decide +kernel)) (pi_str pe_str) (blkOk_by (by kernel_rfl)) (fun _ _ _ _ _ => pg_name (i := 8) scMarks.nd rfl (.inl rfl)) (fun _ _ _ _ _ => pts_nil) (fun _ _ _ _ _ => pe_op op_add_str pe_str (pv 8)))
      (pss_one (ps_expr (pe_bm PySem.F.plainAttrs_list PySem.F.slot_list_append PySem.F.type_list_append mt_append (pv 2) (pa_cons (pe_ix ix_list (pe_lc (own := [("_law_one", 9)]) (g := gName 9) (tt := tTest (tOp (rIn K true) (tVar 9) (tVar 2))) (te := tVar 9) rfl scMarks.nd (pi_list (pe_op op_cat (pe_lst (pa_cons (pv 5) pa_nil)) (pv 7))) (blkOk_by (by kernel_rfl)) (fun _ _ _ _ _ => pg_name (i := 9) scMarks.nd rfl (.inl rfl)) (fun _ _ _ _ _ => pts_one (pt_cmpR op_notIn_seq (pv 9) (pv 2) (by rfl))) (fun _ _ _ _ _ => pv 9)) pe_int (fun _ _ => rfl)) pa_nil))))))))
      (pss_one (ps_ret (pv 2)))), ?_⟩
    refine ⟨by show 0 ≤ sizeLine; decide, fun po hpo => ?_⟩
    have e1 : Same H (upd H po (.lst [])) := same_new hpo
    refine ⟨_, rfl, _, rfl, by omega, by omega, ?_⟩
    rw [show ((m : Nat) : Int).toNat = m from Int.toNat_natCast _]
    refine for_it (walk_range (lo := 0) (n := m)) (fun i σ H' => Same H H' ∧ ∃ a3 a4 a5 a6 a7 a8 a9, ∃ ms : List (List Nat), σ = [some (.ref r), some (.int m), some (.ref po), a3, a4, a5, a6, a7, a8, a9] ∧ H' po = some (.lst (ms.map txtV)) ∧ ms.length = i ∧ ms.Nodup ∧ ∀ x ∈ ms, Lets x ∧ 2 ≤ x.length ∧ x.length ≤ 8) ⟨e1, none, none, none, none, none, none, none, [], rfl, upd_same, rfl, List.Pairwise.nil, fun x hx => by cases hx⟩ (fun _ _ _ _ _ => trivial) ?_ ?_
    · rintro i v σ H1 H1' hi ⟨em, a3, a4, a5, a6, a7, a8, a9, ms, rfl, hpo1, hml, hmn, hms⟩ ⟨rfl, rfl⟩
      refine ⟨by show 4 ≤ sizeLine; decide, fun p4 hp4 => ?_⟩
      have f1 : Same H1' (upd H1' p4 (.lst [.int 1, .int 1, .int 2, .int 7])) := same_new hp4
      refine ⟨_, rfl, r, _, rfl, by decide, by decide, f1 _ _ (em _ _ hR), fun d H2 d0 d1 e2 => ?_⟩
      obtain ⟨v, hv1, hv2⟩ := atI_in (xs := [V.int 1, .int 1, .int 2, .int 7]) d0 d1
      obtain ⟨sz, rfl, hsz⟩ : ∃ sz : Nat, v = .int sz ∧ 1 ≤ sz ∧ sz ≤ 7 := by
        simp only [List.mem_cons, List.not_mem_nil, or_false] at hv2
        rcases hv2 with rfl | rfl | rfl | rfl
        · exact ⟨1, rfl, by decide, by decide⟩
        · exact ⟨1, rfl, by decide, by decide⟩
        · exact ⟨2, rfl, by decide, by decide⟩
        · exact ⟨7, rfl, by decide, by decide⟩
      refine ⟨p4, _, _, _, rfl, rfl, SqL.of (e2 _ _ upd_same), hv1, _, _, rfl, rfl, ?_⟩
      have f2 := f1.trans e2
      have em2 := em.trans f2
      -- the mark
      refine ⟨⟨_, rfl⟩, _, rfl, _, rfl, by omega, by omega, fun D1 hD1 => lc_S (walk_range (lo := 0) (n := (1 + (sz : Int)).toNat)) hD1 (by omega) (fun j acc _ => ∃ x : List Nat, acc = x.map ltV ∧ x.length = j ∧ Lets x) (fun _ _ _ _ _ _ _ h => h) ⟨[], rfl, rfl, fun c hc => by cases hc⟩ (fun _ _ => trivial) ?_ ?_⟩
      · rintro j v H3 H3' acc Qt Qf hj e3 hd ⟨x, rfl, hxl, hx⟩ ⟨rfl, rfl⟩ kt kf
        refine ⟨rfl, _, rfl, r, _, rfl, by decide, by decide, (em2.trans e3) _ _ hR, fun d' H4 d0' d1' e4 => ?_⟩
        have hlen : (Str.ofString "abcdefghijklmnopqrstuvwxyz").cps.toList.length = 26 := by decide +kernel
        obtain ⟨c, hc1, hc2⟩ := atI_in (xs := (Str.ofString "abcdefghijklmnopqrstuvwxyz").cps.toList) (d := d') d0' (by rw [hlen]; exact d1')
        refine ⟨_, d', c, rfl, rfl, by decide +kernel, hc1, kt _ _ e4 ⟨x ++ [c], by rw [List.map_append]; rfl, by rw [List.length_append, hxl]; rfl, fun b hb => ?_⟩⟩
        rcases List.mem_append.mp hb with z | z
        · exact hx b z
        · rw [List.mem_singleton.mp z]; exact (in26 c).mp hc2
      rintro H3 acc e3 hd3 ⟨x, rfl, hxl, hx⟩
      have hxl' : x.length = 1 + sz := by omega
      refine ⟨_, D1, x.map lt, rfl, rfl, .inl (SqL.of (by rw [List.map_map]; exact hd3)), ?_, ?_⟩
      · rw [sum_lt, List.length_map]
        show x.length + x.length * 0 ≤ 16777216
        omega
      rw [join_lt]
      have f3 := f2.trans e3
      -- the spare ones
      have h26 : (Str.ofString "abcdefghijklmnopqrstuvwxyz").cps.size = 26 := by decide +kernel
      refine ⟨_, rfl, fun D2 hD2 => lc_S walk_str hD2 (by rw [h26]; decide) (fun j acc _ => acc = (abc26.take j).map fun c => txtV [109, c]) (fun _ _ _ _ _ _ _ h => h) rfl (fun _ _ => trivial) ?_ ?_⟩
      · rintro j v H4 H4' acc Qt Qf hj e4 hd rfl ⟨rfl, c, hc, rfl⟩ kt kf
        have hc' : abc26[j]? = some c := by
          have e := abc_codes
          show ((List.range 26).map (· + 97))[j]? = some c
          rw [← e, Array.getElem?_toList]
          exact hc
        refine ⟨rfl, _, rfl, _, _, rfl, rfl, by show 1 + 1 ≤ sizeLine; decide, kt _ _ (Same.refl _) ?_⟩
        rw [List.take_add_one, hc', List.map_append]
        rfl
      rintro H4 acc e4 hd4 rfl
      rw [h26, show abc26.take 26 = abc26 from rfl] at hd4
      have f4 := f3.trans e4
      have hpo4 := f4 _ _ hpo1
      refine ⟨_, rfl, .inl ⟨rfl, _, SqL.of hpo4⟩, ?_⟩
      refine ⟨_, rfl, by show 1 ≤ sizeLine; decide, fun p5 hp5 => ⟨_, rfl, p5, D2, _, _, rfl, rfl, upd_same, (same_new hp5) _ _ hd4, by rw [List.length_map]; show 1 + 26 ≤ sizeLine; decide, fun p6 hp6 => ?_⟩⟩
      have f5 : Same H4 (upd (upd H4 p5 (.lst [.str (txt x)])) p6 (.lst ([.str (txt x)] ++ abc26.map fun c => txtV [109, c]))) := (same_new hp5).trans (same_new hp6)
      have h6' : (upd (upd H4 p5 (.lst [.str (txt x)])) p6 (.lst ([.str (txt x)] ++ abc26.map fun c => txtV [109, c]))) p6 = some (.lst ((x :: abc26.map fun c => [109, c]).map txtV)) := by
        rw [upd_same]
        show some (HO.lst (txtV x :: _)) = some (HO.lst (txtV x :: _))
        rw [List.map_map]
        rfl
      generalize upd (upd H4 p5 (.lst [.str (txt x)])) p6 (.lst ([.str (txt x)] ++ abc26.map fun c => txtV [109, c])) = H5 at f5 h6'
      have f15 := f4.trans f5
      generalize hall : (x :: abc26.map fun c => [109, c]) = all at h6'
      have hall27 : all.length = 27 := by rw [← hall]; rfl
      refine ⟨p6, rfl, ⟨_, SqL.of h6'⟩, fun D3 hD3 => lc_S (walk_list (K := K) (a := p6) (xs := all.map txtV)) hD3 (by rw [List.length_map]; omega) (fun j acc _ => acc = ((all.take j).filter fun y => decide (y ∉ ms)).map txtV) (fun _ _ _ _ _ _ _ h => h) rfl (fun H' e' => SqL.of (e' _ _ h6')) ?_ ?_⟩
      · rintro j v H6 H6' acc Qt Qf hj e6 hd rfl ⟨rfl, hv⟩ kt kf
        rw [List.getElem?_map] at hv
        obtain ⟨y, hy, rfl⟩ := Option.map_eq_some_iff.mp hv
        refine ⟨rfl, _, rfl, _, rfl, po, _, rfl, .inl (SqL.of (e6 _ _ (f15 _ _ hpo1))), rfl, flat_txts ms, _, rfl, ?_⟩
        rw [inV_txts]
        by_cases hm : y ∈ ms
        · rw [decide_eq_true hm]
          refine kf _ (Same.refl _) ?_
          rw [List.take_add_one, hy]
          simp [hm]
        · rw [decide_eq_false hm]
          refine ⟨_, rfl, kt _ _ (Same.refl _) ?_⟩
          rw [List.take_add_one, hy]
          simp [hm]
      rintro H6 acc e6 hd6 rfl
      rw [List.length_map, List.take_length] at hd6
      obtain ⟨y, ys, ey, ym⟩ := fresh_ex ms x (by omega)
      rw [← hall, ey] at hd6
      have hy : Lets y ∧ 2 ≤ y.length ∧ y.length ≤ 8 := by
        have : y ∈ (x :: abc26.map fun c => [109, c]) := (List.mem_filter.mp (by rw [ey]; exact List.mem_cons_self)).1
        rcases List.mem_cons.mp this with rfl | z
        · exact ⟨hx, by omega, by omega⟩
        · obtain ⟨c, hc, rfl⟩ := List.mem_map.mp z
          obtain ⟨j, hj, rfl⟩ := List.mem_map.mp hc
          have := List.mem_range.mp hj
          refine ⟨fun b hb => ?_, by show 2 ≤ 2; decide, by show 2 ≤ 8; decide⟩
          simp only [List.mem_cons, List.not_mem_nil, or_false] at hb
          rcases hb with rfl | rfl <;> omega
      refine ⟨D3, _, _, txtV y, rfl, rfl, SqL.of hd6, atI_of (Int.le_refl _) rfl, ?_⟩
      have f6 := f15.trans e6
      refine ⟨po, _, _, rfl, rfl, f6 _ _ hpo1, by rw [List.length_map, sizeLine_eq]; omega, ?_⟩
      refine ⟨same_upd (em.trans f6) hpo, _, _, _, _, _, _, _, ms ++ [y], rfl, by rw [upd_same, List.map_append]; rfl, by rw [List.length_append, hml]; rfl, ?_, fun z hz => ?_⟩
      · rw [List.nodup_append]
        refine ⟨hmn, List.pairwise_singleton _ _, fun a ha b hb => ?_⟩
        rw [List.mem_singleton.mp hb]
        exact fun z => ym (z ▸ ha)
      · rcases List.mem_append.mp hz with h | h
        · exact hms z h
        · rw [List.mem_singleton.mp h]; exact hy
    · rintro σ H1 ⟨em, a3, a4, a5, a6, a7, a8, a9, ms, rfl, hpo1, hml, hmn, hms⟩
      exact ⟨_, rfl, k ms po H1 hml hmn hms hpo em hpo1⟩
end
end SS

set_option maxRecDepth 100000
set_option maxHeartbeats 4000000
set_option pp.maxSteps 1500
namespace SS
open PySem L2 SR TL
theorem tell_choice {ts : List Nat} {ms : List (List Nat)} {x : V} (h : x ∈ [V.non] ++ (List.replicate 2 (ts.map ltV)).flatten ++ ms.map txtV) : ∃ o : Option (List Nat), x = tellV o ∧ ∀ z, o = some z → (∃ c ∈ ts, z = [c]) ∨ z ∈ ms := by
  rcases List.mem_append.mp h with h | h
  · rcases List.mem_append.mp h with h | h
    · exact ⟨none, List.mem_singleton.mp h, fun z e => by cases e⟩
    · obtain ⟨l, hl, hx⟩ := List.mem_flatten.mp h
      rw [List.eq_of_mem_replicate hl] at hx
      obtain ⟨c, hc, rfl⟩ := List.mem_map.mp hx
      exact ⟨some [c], rfl, fun z e => by cases e; exact .inl ⟨c, hc, rfl⟩⟩
  · obtain ⟨m, hm, rfl⟩ := List.mem_map.mp h
    exact ⟨some m, rfl, fun z e => by cases e; exact .inr hm⟩
/-- rows as they grow -/
def RowOk (cs ts : List Nat) (ms : List (List Nat)) (n : Nat) (row : Rw) : Prop := (row.map (·.1)).Nodup ∧ ∀ e ∈ row, e.1 ∈ cs ∧ (0 ≤ e.2.1 ∧ e.2.1 < (n : Int)) ∧ ∀ z, e.2.2 = some z → (∃ c ∈ ts, z = [c]) ∨ z ∈ ms
section
variable {P : Program} {w : World} {K : PySem.W.Frag} {mg : Str → Option Value} {base : Heap}
/-! ### _law_any_format -/
abbrev sAny : Stmt := top 36
abbrev nAny : List Str := ["_law_rng_here", "_law_cap", "_law_paper", "_law_tells", "_law_marks_here", "_law_many", "_law_rows", "_law_spot", "_law_line", "_law_letter", "_law_told", "_law_stops"]
abbrev psAny : List Str := ["_law_rng_here", "_law_cap", "_law_paper", "_law_tells", "_law_marks_here"]
theorem scAny : FnScope nAny psAny (defScope sAny) := ⟨rfl, rfl, rfl, by decide +kernel, rfl, by decide +kernel, by decide +kernel⟩
def spAny : Sp := fun vs H Q _ => ∃ (r pc pt pm : Addr) (cap : Nat) (cs ts : List Nat) (ms : List (List Nat)), vs = [.ref r, .int cap, .ref pc, .ref pt, .ref pm] ∧ 1 ≤ cap ∧ cap ≤ 12 ∧ Pal cs ts ms ∧ cs.Nodup ∧ H r = some (rngO r) ∧
  H pc = some (.lst (cs.map ltV)) ∧ H pt = some (.lst (ts.map ltV)) ∧ H pm = some (.lst (ms.map txtV)) ∧
  ∀ (t : Addr) (rows : List Rw) (ends : List Int) (start : Int) (H' : Hp), WfR cs ts ms rows ends start → rows.length ≤ cap → H t = none → Same H H' → ModAt H' t rows ends start → Q (.ref t) H'
theorem ok_any {f : Addr} {fd : FuncData} (F : Fun K "_law_any_format" "_law_any_format" sAny f fd) (B : Bl mg) (D : Cal P w K mg base "_law_draw" 1 ["_law_rng_here", "_law_many"] spDraw) (C : Cal P w K mg base "_law_choice" 2 ["_law_rng_here", "_law_some"] (spChoice K)) : FnOk P w K mg base CX0 3 f fd psAny spAny := by
  refine F.ok scAny (fun vs H Q E h => ?_) (fun cdv A outer s H vs Q E hr h => ?_)
  · obtain ⟨r, pc, pt, pm, cap, cs, ts, ms, rfl, _⟩ := h
    rfl
  · obtain ⟨r, pc, pt, pm, cap, cs, ts, ms, rfl, c1, c12, PA', cnd, hR, hc, ht, hm, k⟩ := h
    have hr1 := hr.mono (by decide : 1 ≤ 2)
    have hu := hu_of hr
    refine ⟨_, pss_cons (ps_set (i := 5) scAny.nd rfl (.inl rfl) (pe_op op_add pe_int (pe_cal D hr1 (pa_cons (pv 0) (pa_cons (pv 1) pa_nil)))))
      (pss_cons (ps_set (i := 6) scAny.nd rfl (.inl rfl) (pe_lst pa_nil))
      (pss_cons (ps_for PassesOwn.never rfl (pi_range1 (by rfl) B.range (pa_cons (pv 5) pa_nil)) (pg_name (i := 7) scAny.nd rfl (.inl rfl))
        (pss_cons (ps_set (i := 8) scAny.nd rfl (.inl rfl) pe_dnewK)
      (pss_cons (ps_for PassesOwn.never rfl (pi_list (pv 2)) (pg_name (i := 9) scAny.nd rfl (.inl rfl))
        (pss_one (ps_if (pt_cmpR op_gt (pe_cal D hr1 (pa_cons (pv 0) (pa_cons pe_int pa_nil))) pe_int (nomark _))
        (pss_cons (ps_set (i := 10) scAny.nd rfl (.inl rfl) (pe_cal C hr (pa_cons (pv 0) (pa_cons (pe_op op_cat (pe_op op_cat (pe_lst (pa_cons pe_non pa_nil)) (pe_op op_rep (pv 3) pe_int)) (pv 4)) pa_nil))))
      (pss_one (ps_dput hu (pv 8) (pv 9) (pe_tup (pa_cons (pe_cal D hr1 (pa_cons (pv 0) (pa_cons (pv 5) pa_nil))) (pa_cons (pv 10) pa_nil))) rfl))) pss_nil)))
      (pss_one (ps_expr (pe_bm PySem.F.plainAttrs_list PySem.F.slot_list_append PySem.F.type_list_append mt_append (pv 6) (pa_cons (pv 8) pa_nil)))))))
      (pss_cons (ps_setLc (i := 11) (own := [("_law_spot", 7)]) (g := gName 7) (tt := tTest (tOp (rEq) (tCall spDraw [] E0 (tCons (tVar 0) (tCons (tC (.int 2)) tNil))) (tC (.int 0)))) (te := tVar 7) rfl scAny.nd rfl rfl (sw_true rfl rfl rfl (by decide +kernel)) (pi_range1 (by rfl) B.range (pa_cons (pv 5) pa_nil)) (blkOk_by (by kernel_rfl)) (fun _ _ _ _ _ => pg_name (i := 7) scAny.nd rfl (.inl rfl)) (fun _ _ _ _ _ => pts_one (pt_cmpR op_eq (pe_cal D hr1 (pa_cons (pv 0) (pa_cons pe_int pa_nil))) pe_int (nomark _))) (fun _ _ _ _ _ => pv 7))
      (pss_one (ps_ret (pe_tup (pa_cons (pv 6) (pa_cons (pv 11) (pa_cons (pe_cal D hr1 (pa_cons (pv 0) (pa_cons (pv 5) pa_nil))) pa_nil))))))))), ?_⟩
    refine ⟨_, rfl, _, rfl, r, _, rfl, by omega, by omega, hR, fun d H1 d0 d1 e1 => ⟨_, _, rfl, rfl, ?_⟩⟩
    obtain ⟨n, hn⟩ : ∃ n : Nat, 1 + d = (n : Int) := ⟨(1 + d).toNat, by omega⟩
    have n1 : 1 ≤ n ∧ n ≤ cap := by omega
    show gName 5 (V.int (1 + d)) _ _ _
    rw [hn]
    refine ⟨by show 0 ≤ sizeLine; decide, fun po hpo => ?_⟩
    have hpoH : H po = none := e1.free hpo
    refine ⟨_, rfl, _, rfl, by omega, by omega, ?_⟩
    rw [show ((n : Nat) : Int).toNat = n from Int.toNat_natCast _]
    refine for_it (walk_range (lo := 0) (n := n)) (fun i σ H' => Same H H' ∧ ∃ a7 a8 a9 a10 a11, ∃ (qs : List Addr) (rows : List Rw), σ = [some (.ref r), some (.int cap), some (.ref pc), some (.ref pt), some (.ref pm), some (.int n), some (.ref po), a7, a8, a9, a10, a11] ∧ H' po = some (.lst (qs.map .ref)) ∧ Paired (RwAt H') qs rows ∧ rows.length = i ∧ ∀ row ∈ rows, RowOk cs ts ms n row) ⟨same_upd e1 hpoH, none, none, none, none, none, [], [], rfl, upd_same, .nil, rfl, fun x hx => by cases hx⟩ (fun _ _ _ _ _ => trivial) ?_ ?_
    · rintro i v σ H2 H2' hi ⟨em, a7, a8, a9, a10, a11, qs, rows, rfl, hpo2, hqs, hrl, hrows⟩ ⟨rfl, rfl⟩
      intro pl hpl
      have npl : po ≠ pl := ne_of_none hpo2 hpl
      refine ⟨_, rfl, pc, rfl, ⟨_, SqL.of ((em.trans (same_new hpl)) _ _ hc)⟩, for_it (walk_list (K := K) (a := pc) (xs := cs.map ltV)) (fun j σ H' => Same H2' H' ∧ ∃ a9 a10 a11, ∃ (row : Rw) (ps : List Addr), σ = [some (.ref r), some (.int cap), some (.ref pc), some (.ref pt), some (.ref pm), some (.int n), some (.ref po), some (.int (0 + (i : Nat))), some (.ref pl), a9, a10, a11] ∧ H' pl = some (.dK (List.zipWith entK row ps)) ∧ Paired (fun p e => MvAt H' p e.2) ps row ∧ RowOk cs ts ms n row ∧ ∀ e ∈ row, e.1 ∈ cs.take j) ⟨same_new hpl, a9, a10, a11, [], [], rfl, upd_same, .nil, ⟨List.Pairwise.nil, fun e he => by cases he⟩, fun e he => by cases he⟩ (fun j σ H' _ p => SqL.of ((em.trans p.1) _ _ hc)) ?_ ?_⟩
      · rintro j v σ H3 H3' hj ⟨e3, b9, b10, b11, row, ps, rfl, hd3, hps, hrow, hkey⟩ ⟨rfl, hv⟩
        rw [List.getElem?_map] at hv
        obtain ⟨c, hc', rfl⟩ := Option.map_eq_some_iff.mp hv
        have em3 := em.trans e3
        refine ⟨_, rfl, r, _, rfl, by decide, by decide, em3 _ _ hR, fun d' H4 d0' d1' e4 => ?_⟩
        have em4 := em3.trans e4
        refine ⟨_, _, rfl, rfl, _, rfl, ite2 (fun hd => ?_) (fun hd => ?_)⟩
        · -- a move is written
          refine ⟨_, rfl, by show 1 ≤ sizeLine; decide, fun p1 hp1 => ?_⟩
          have g1 : Same H4 (upd H4 p1 (.lst [.non])) := same_new hp1
          refine ⟨_, rfl, pt, 2, _, rfl, rfl, g1 _ _ (em4 _ _ ht), by decide, by decide, ?_, fun p2 hp2 => ?_⟩
          · have := PA'.tsn
            rw [List.length_map, sizeLine_eq]
            show ts.length * 2 ≤ _
            omega
          have g2 := g1.trans (same_new (o := .lst (List.replicate (2 : Int).toNat (ts.map ltV)).flatten) hp2)
          have q1 : (upd (upd H4 p1 (.lst [.non])) p2 (.lst (List.replicate (2 : Int).toNat (ts.map ltV)).flatten)) p1 = some (.lst [.non]) := (same_new hp2) _ _ upd_same
          have q2 : (upd (upd H4 p1 (.lst [.non])) p2 (.lst (List.replicate (2 : Int).toNat (ts.map ltV)).flatten)) p2 = some (.lst (List.replicate 2 (ts.map ltV)).flatten) := upd_same
          generalize (upd (upd H4 p1 (.lst [.non])) p2 (.lst (List.replicate (2 : Int).toNat (ts.map ltV)).flatten)) = H5 at g2 q1 q2
          have l2 : (List.replicate 2 (ts.map ltV)).flatten.length ≤ 8 := by
            have := PA'.tsn
            simp
            omega
          refine ⟨p1, p2, _, _, rfl, rfl, q1, q2, by rw [sizeLine_eq]; show 1 + _ ≤ _; omega, fun p3 hp3 => ?_⟩
          have g3 := g2.trans (same_new (o := .lst ([.non] ++ (List.replicate 2 (ts.map ltV)).flatten)) hp3)
          refine ⟨_, rfl, p3, pm, _, _, rfl, rfl, upd_same, g3 _ _ (em4 _ _ hm), ?_, fun p4 hp4 => ?_⟩
          · have := PA'.msn
            rw [List.length_append, List.length_map, sizeLine_eq]
            show 1 + _ + _ ≤ _
            omega
          have g4 := g3.trans (same_new (o := .lst ([.non] ++ (List.replicate 2 (ts.map ltV)).flatten ++ ms.map txtV)) hp4)
          refine .inl ⟨r, p4, _, rfl, g4 _ _ (em4 _ _ hR), SqL.of upd_same, ?_, ?_, fun x H6 hx e6 => ?_⟩
          · rw [List.length_append, List.length_append]
            show 0 < 1 + _ + _
            omega
          · have := PA'.msn
            rw [List.length_append, List.length_append, List.length_map]
            show 1 + _ + _ < _
            omega
          obtain ⟨o, rfl, ho⟩ := tell_choice hx
          have g6 := g4.trans e6
          have em6 := em4.trans g6
          refine ⟨_, rfl, _, rfl, r, _, rfl, by omega, by omega, em6 _ _ hR, fun d2 H7 d20 d21 e7 => ⟨_, rfl, by show 2 ≤ sizeLine; decide, fun p5 hp5 => ?_⟩⟩
          have g7 : Same H3' (upd H7 p5 (.tup [.int d2, tellV o])) := ((e4.trans g6).trans e7).trans (same_new hp5)
          refine ⟨_, rfl, _, rfl, pl, _, rfl, DPut.k (k := Sum.inr (lt c)) (g7 _ _ hd3) ?_, ?_⟩
          · have : (List.zipWith entK row ps).length ≤ row.length := by rw [List.length_zipWith]; exact Nat.min_le_left _ _
            have : row.length ≤ 6 := by
              have h1 := len_subG (row.map (·.1)) cs hrow.1 fun y hy => by
                obtain ⟨e, he, rfl⟩ := List.mem_map.mp hy
                exact (hrow.2 e he).1
              rw [List.length_map] at h1
              have := PA'.csn
              omega
            rw [sizeLine_eq]
            omega
          have hcn : c ∉ row.map (·.1) := fun hm' => by
            obtain ⟨e, he, ee⟩ := List.mem_map.mp hm'
            have := hkey e he
            rw [ee] at this
            obtain ⟨i2, hi2, e2⟩ := List.getElem_of_mem this
            rw [List.getElem_take] at e2
            have hj' : j < cs.length := (List.getElem?_eq_some_iff.mp hc').1
            have hi2' : i2 < j := by
              rw [List.length_take] at hi2
              omega
            have e3' : cs[j] = c := (List.getElem?_eq_some_iff.mp hc').2
            exact absurd ((List.getElem_inj cnd).mp (e2.trans e3'.symm)) (by omega)
          rw [putK_new _ (val_new hcn)]
          have hlen : ps.length = row.length := Paired.length hps
          have nplp : ∀ b o, H3' b = some o → (∀ kv, o ≠ .dK kv) → b ≠ pl := fun b o hb no z => by
            rw [z, hd3] at hb
            cases hb
            exact no _ rfl
          have n5 : p5 ≠ pl := fun z => by
            have := ((e4.trans g6).trans e7) _ _ hd3
            rw [← z, hp5] at this
            cases this
          refine ⟨same_upd (e3.trans g7) hpl, _, _, _, row ++ [(c, (d2, o))], ps ++ [p5], rfl, ?_, ?_, ⟨?_, ?_⟩, ?_⟩
          · rw [upd_same, List.zipWith_append hlen.symm]
            rfl
          · refine paired_snoc (Paired.mono hps fun a b h => ?_) ?_
            · show (upd _ pl _) a = _
              rw [upd_ne (nplp _ _ h fun _ => nofun)]
              exact g7 _ _ h
            · show (upd _ pl _) p5 = _
              rw [upd_ne n5, upd_same]
          · rw [List.map_append, List.nodup_append]
            refine ⟨hrow.1, List.pairwise_singleton _ _, fun a ha b hb => ?_⟩
            have hb' : b = c := List.mem_singleton.mp hb
            rw [hb']
            exact fun z => hcn (z ▸ ha)
          · intro e he
            rcases List.mem_append.mp he with h | h
            · exact hrow.2 e h
            · rw [List.mem_singleton.mp h]
              exact ⟨List.mem_of_getElem? hc', ⟨d20, d21⟩, ho⟩
          · intro e he
            rw [List.take_add_one, hc']
            rcases List.mem_append.mp he with h | h
            · exact List.mem_append_left _ (hkey e h)
            · rw [List.mem_singleton.mp h]
              exact List.mem_append_right _ List.mem_cons_self
        · refine ⟨e3.trans e4, _, _, _, row, ps, rfl, e4 _ _ hd3, Paired.mono hps fun a b h => e4 _ _ h, hrow, fun e he => ?_⟩
          rw [List.take_add_one]
          exact List.mem_append_left _ (hkey e he)
      · rintro σ H3 ⟨e3, b9, b10, b11, row, ps, rfl, hd3, hps, hrow, hkey⟩
        have hpo3 := e3 _ _ hpo2
        refine ⟨_, rfl, .inl ⟨rfl, _, SqL.of hpo3⟩, _, rfl, po, _, _, rfl, rfl, hpo3, ?_, ?_⟩
        · have : qs.length = rows.length := Paired.length hqs
          rw [List.length_map, sizeLine_eq]
          omega
        have nn := SameN.upd (ys := qs.map .ref ++ [.ref pl]) hpo3
        refine ⟨same_upd (em.trans e3) hpoH, _, _, _, _, _, qs ++ [pl], rows ++ [row], rfl, by rw [upd_same, List.map_append]; rfl, paired_snoc (Paired.mono hqs fun a b h => (h.mono e3).nl nn) (RwAt.nl nn ⟨ps, hd3, hps⟩), by rw [List.length_append, hrl]; rfl, fun row' h => ?_⟩
        rcases List.mem_append.mp h with h | h
        · exact hrows row' h
        · rw [List.mem_singleton.mp h]; exact hrow
    · rintro σ H2 ⟨em, a7, a8, a9, a10, a11, qs, rows, rfl, hpo2, hqs, hrl, hrows⟩
      refine ⟨_, rfl, _, rfl, by omega, by omega, fun Ds hDs => ?_⟩
      rw [show ((n : Nat) : Int).toNat = n from Int.toNat_natCast _]
      refine lc_S (walk_range (lo := 0) (n := n)) hDs (by omega) (fun j acc _ => ∃ es : List Int, acc = es.map .int ∧ es.Nodup ∧ ∀ e ∈ es, 0 ≤ e ∧ e < (j : Int)) (fun _ _ _ _ _ _ _ h => h) ⟨[], rfl, List.Pairwise.nil, fun e he => by cases he⟩ (fun _ _ => trivial) ?_ ?_
      · rintro j v H3 H3' acc Qt Qf hj e3 hd ⟨es, rfl, hen, her⟩ ⟨rfl, rfl⟩ kt kf
        refine ⟨rfl, _, rfl, r, _, rfl, by decide, by decide, (em.trans e3) _ _ hR, fun d' H4 d0' d1' e4 => ⟨rfl, _, rfl, ite2 (fun hd => ?_) (fun hd => ?_)⟩⟩
        · refine ⟨_, rfl, kt _ _ e4 ⟨es ++ [(j : Int)], by rw [List.map_append]; show _ ++ [V.int (0 + (j : Int))] = _; rw [Int.zero_add]; rfl, ?_, fun e he => ?_⟩⟩
          · rw [List.nodup_append]
            refine ⟨hen, List.pairwise_singleton _ _, fun a ha b hb => ?_⟩
            rw [List.mem_singleton.mp hb]
            have := (her a ha).2
            omega
          · rcases List.mem_append.mp he with h | h
            · have := her e h
              omega
            · rw [List.mem_singleton.mp h]; omega
        · exact kf _ e4 ⟨es, rfl, hen, fun e he => by have := her e he; omega⟩
      · rintro H3 acc e3 hd ⟨es, rfl, hen, her⟩
        refine ⟨_, rfl, _, rfl, _, rfl, _, rfl, r, _, rfl, by omega, by omega, (em.trans e3) _ _ hR, fun d' H4 d0' d1' e4 => ⟨by show 3 ≤ sizeLine; decide, fun t ht' => ?_⟩⟩
        have et : Same H4 (upd H4 t (.tup [.ref po, .ref Ds, .int d'])) := same_new ht'
        have e24 := (e3.trans e4).trans et
        refine k t rows es d' _ ⟨by omega, by omega, fun row h => (hrows row h).1, fun row h e he => ((hrows row h).2 e he).1, fun row h e he => by rw [hrl]; exact ((hrows row h).2 e he).2.1, fun row h e he => ((hrows row h).2 e he).2.2, fun s hs => by rw [hrl]; exact her s hs, hen, d0', by rw [hrl]; exact d1'⟩ (by omega) (em.free (e3.free (e4.free ht'))) (em.trans e24) ⟨po, Ds, qs, upd_same, e24 _ _ hpo2, Paired.mono hqs fun a b h => h.mono e24, et _ _ (e4 _ _ hd)⟩
end
end SS

set_option maxRecDepth 100000
set_option maxHeartbeats 4000000
set_option pp.maxSteps 1500
namespace SS
open PySem L2 SR TL
theorem cut_take (xs : List V) (n : Nat) : cutV xs none (some (n : Int)) = xs.take n := by
  unfold cutV
  rw [HT.sIx_none, HT.sIx_nat, List.drop_zero, Nat.sub_zero]
  by_cases h : n ≤ xs.length
  · rw [Nat.min_eq_left h]
  · rw [Nat.min_eq_right (by omega), List.take_length, List.take_of_length_le (by omega)]
/-! ### dicts of moves, written out -/
def MkV (t : TE) (σ : St) (v : V) : Prop := ∀ H Q, Q v H → t σ H Q
def MkM (t : TE) (σ : St) (m : Mv) : Prop := ∀ H Q, (∀ p H', Same H H' → MvAt H' p m → Q (.ref p) H') → t σ H Q
def MkR (t : TE) (σ : St) (H0 : Hp) (row : Rw) : Prop := ∀ H Q, Same H0 H → (∀ q H', Same H H' → RwAt H' q row → Q (.ref q) H') → t σ H Q
def MkRs (t : TA) (σ : St) (H0 : Hp) (rows : List Rw) : Prop := ∀ H Q, Same H0 H → (∀ qs H', Same H H' → Paired (RwAt H') qs rows → Q (qs.map .ref) H') → t σ H Q
theorem mkV_var {σ : St} {i : Nat} {v : V} (h : σ[i]? = some (some v)) : MkV (tVar i) σ v := fun H Q q => ⟨v, h, q⟩
theorem mkV_c {σ : St} {v : V} : MkV (tC v) σ v := fun H Q q => q
theorem mkM_tup {σ : St} {te : TE} {g : Int} {o : Option (List Nat)} (h : MkV te σ (tellV o)) : MkM (tTup (tCons (tC (.int g)) (tCons te tNil))) σ (g, o) := fun H Q q =>
  h H _ ⟨by show 2 ≤ sizeLine; decide, fun p hp => q p _ (same_new hp) upd_same⟩
inductive MkPs (σ : St) : List (TE × TE) → Rw → Prop
  | nil : MkPs σ [] []
  | cons {tk tv : TE} {c : Nat} {m : Mv} {r : List (TE × TE)} {row : Rw} : MkV tk σ (ltV c) → MkM tv σ m → MkPs σ r row → MkPs σ ((tk, tv) :: r) ((c, m) :: row)
theorem mkPs_run {σ : St} : ∀ {trs : List (TE × TE)} {row : Rw}, MkPs σ trs row → ∀ (H : Hp) (Q : List (V × V) → Hp → Prop), (∀ (ps : List Addr) H', Same H H' → Paired (fun p e => MvAt H' p e.2) ps row → Q (List.zipWith (fun (e : Nat × Mv) p => (ltV e.1, V.ref p)) row ps) H') → tPairs trs σ H Q
  | _, _, .nil, H, Q, q => q [] H (Same.refl _) .nil
  | _, _, .cons (c := c) (m := m) hk hv hr, H, Q, q => by
    refine hk H _ (hv H _ fun p H1 e1 h1 => mkPs_run hr H1 _ fun ps H2 e2 h2 => ?_)
    exact q (p :: ps) H2 (e1.trans e2) (.cons (e2 _ _ h1) h2)
theorem mkR_disp {σ : St} {H0 : Hp} {trs : List (TE × TE)} {row : Rw} (h : MkPs σ trs row) (nd : (row.map (·.1)).Nodup) (hl : row.length ≤ 15) : MkR (tDisp trs) σ H0 row := fun H Q e0 q p hp => by
  refine mkPs_run h _ _ fun ps H' e' h' => ⟨e' _ _ upd_same, List.zipWith entK row ps, ?_, ?_, ?_⟩
  · rw [List.map_zipWith]
    rfl
  · rw [List.length_zipWith]; omega
  · have hm : mergeK [] (List.zipWith entK row ps) = List.zipWith entK row ps := mergeK_nil (by
      have : ∀ (row : Rw) (ps : List Addr), (row.map (·.1)).Nodup → ((List.zipWith entK row ps).map (·.1)).Nodup := by
        intro row
        induction row with
        | nil => intro ps _; simp
        | cons e row ih =>
          intro ps nd
          cases ps with
          | nil => simp
          | cons p ps =>
            obtain ⟨n1, n2⟩ := List.nodup_cons.mp nd
            show (Sum.inr (lt e.1) :: _).Nodup
            refine List.nodup_cons.mpr ⟨fun hm => ?_, ih ps n2⟩
            obtain ⟨x, hx, ex⟩ := List.mem_map.mp hm
            obtain ⟨i, hi, e2⟩ := List.getElem_of_mem hx
            rw [List.getElem_zipWith] at e2
            rw [← e2] at ex
            have hc : (row[i]'(by simp at hi; omega)).1 = e.1 := by
              have := congrArg (fun z : Str => z.cps.toList) (Sum.inr.inj ex)
              simpa [lt] using this
            exact n1 (List.mem_map.mpr ⟨_, List.getElem_mem _, hc⟩)
      exact this row ps nd)
    rw [hm]
    have hpH' : H' p = some (.dK []) := e' _ _ upd_same
    have nn : ∀ b o, H' b = some o → (∀ kv, o ≠ .dK kv) → b ≠ p := fun b o hb no z => by
      rw [z, hpH'] at hb
      cases hb
      exact no _ rfl
    refine q p _ (fun b o hb => ?_) ⟨ps, upd_same, Paired.mono h' fun a b g => ?_⟩
    · have nb : b ≠ p := ne_of_none hb hp
      rw [upd_ne nb]
      exact e' _ _ (by rw [upd_ne nb]; exact hb)
    · show (upd _ p _) a = _
      rw [upd_ne (nn _ _ g fun _ => nofun)]
      exact g
theorem mkR_run {σ : St} {H : Hp} {trs : List (TE × TE)} {row : Rw} {Q : VK} (h : MkPs σ trs row) (nd : (row.map (·.1)).Nodup) (hl : row.length ≤ 15) (q : ∀ p H', Same H H' → RwAt H' p row → Q (.ref p) H') : tDisp trs σ H Q := mkR_disp h nd hl H Q (Same.refl _) q
theorem mkR_new {σ : St} {H0 : Hp} : MkR tDNewK σ H0 [] := fun H Q e0 q p hp => q p _ (same_new hp) ⟨[], upd_same, .nil⟩
theorem mkR_var {σ : St} {H0 : Hp} {i : Nat} {q0 : Addr} {row : Rw} (h : σ[i]? = some (some (.ref q0))) (r : RwAt H0 q0 row) : MkR (tVar i) σ H0 row := fun H Q e0 q => ⟨_, h, q q0 H (Same.refl _) (r.mono e0)⟩
theorem mkRs_nil {σ : St} {H0 : Hp} : MkRs tNil σ H0 [] := fun H Q e0 q => q [] H (Same.refl _) .nil
theorem mkRs_cons {σ : St} {H0 : Hp} {t : TE} {ta : TA} {row : Rw} {rows : List Rw} (h : MkR t σ H0 row) (hs : MkRs ta σ H0 rows) : MkRs (tCons t ta) σ H0 (row :: rows) := fun H Q e0 q =>
  h H _ e0 fun p H1 e1 r1 => hs H1 _ (e0.trans e1) fun qs H2 e2 r2 => q (p :: qs) H2 (e1.trans e2) (.cons (r1.mono e2) r2)
/-- [(rows), [ends], 0] -/
theorem mk_model {σ : St} {H : Hp} {ta tb : TA} {rows : List Rw} {ends : List Int} {Q : VK} (h : MkRs ta σ H rows) (hl : rows.length ≤ 12) (hb : ∀ H Q, Q (ends.map V.int) H → tb σ H Q) (he : ends.length ≤ 12)
    (q : ∀ t H', Same H H' → ModAt H' t rows ends 0 → Q (.ref t) H') : tTup (tCons (tLst ta) (tCons (tLst tb) (tCons (tC (.int 0)) tNil))) σ H Q := by
  refine h H _ (Same.refl _) fun qs H1 e1 r1 => ⟨?_, fun pr hpr => ?_⟩
  · have : qs.length = rows.length := Paired.length r1
    rw [List.length_map, sizeLine_eq]
    omega
  refine hb _ _ ⟨by rw [List.length_map, sizeLine_eq]; omega, fun pe hpe => ⟨by show 3 ≤ sizeLine; decide, fun t ht => ?_⟩⟩
  have e2 := same_new (o := .lst (qs.map .ref)) hpr
  have e3 := same_new (o := .lst (ends.map .int)) hpe
  have e4 := same_new (o := .tup [.ref pr, .ref pe, .int 0]) ht
  exact q t _ (((e1.trans e2).trans e3).trans e4) ⟨pr, pe, qs, upd_same, e4 _ _ (e3 _ _ upd_same), Paired.mono r1 fun a b g => g.mono ((e2.trans e3).trans e4), e4 _ _ upd_same⟩
theorem rowOk_nil {cs ts : List Nat} {ms : List (List Nat)} {n : Nat} : RowOk cs ts ms n [] := ⟨List.Pairwise.nil, fun e he => by cases he⟩
theorem rowOk_cons {cs ts : List Nat} {ms : List (List Nat)} {n c : Nat} {g : Int} {o : Option (List Nat)} {row : Rw} (h1 : c ∉ row.map (·.1)) (h2 : c ∈ cs) (h3 : 0 ≤ g) (h4 : g < (n : Int)) (h5 : ∀ z, o = some z → (∃ c ∈ ts, z = [c]) ∨ z ∈ ms) (h : RowOk cs ts ms n row) : RowOk cs ts ms n ((c, (g, o)) :: row) :=
  ⟨List.nodup_cons.mpr ⟨h1, h.1⟩, fun e he => by
    rcases List.mem_cons.mp he with rfl | he
    · exact ⟨h2, ⟨h3, h4⟩, h5⟩
    · exact h.2 e he⟩
theorem wf_rows {cs ts : List Nat} {ms : List (List Nat)} {rows : List Rw} {ends : List Int} {start : Int} (h1 : 1 ≤ rows.length) (h12 : rows.length ≤ 12) (h : ∀ row ∈ rows, RowOk cs ts ms rows.length row) (he : ∀ s ∈ ends, 0 ≤ s ∧ s < (rows.length : Int)) (hn : ends.Nodup) (s0 : 0 ≤ start) (s1 : start < (rows.length : Int)) : WfR cs ts ms rows ends start :=
  ⟨h1, h12, fun row hr => (h row hr).1, fun row hr e h' => ((h row hr).2 e h').1, fun row hr e h' => ((h row hr).2 e h').2.1, fun row hr e h' => ((h row hr).2 e h').2.2, he, hn, s0, s1⟩
section
variable {P : Program} {w : World} {K : PySem.W.Frag} {mg : Str → Option Value} {base : Heap}
/-! ### _law_family -/
abbrev sFam : Stmt := top 37
abbrev nFam : List Str := ["_law_way", "_law_paper", "_law_tells", "_law_marks_here", "_law_p", "_law_q", "_law_r", "_law_a", "_law_b", "_law_m", "_law_n", "_law_core"]
abbrev psFam : List Str := ["_law_way", "_law_paper", "_law_tells", "_law_marks_here"]
theorem scFam : FnScope nFam psFam (defScope sFam) := ⟨rfl, rfl, rfl, by decide +kernel, rfl, by decide +kernel, by decide +kernel⟩
def spFam : Sp := fun vs H Q _ => ∃ (way : Int) (pc pt pm : Addr) (cs ts : List Nat) (ms : List (List Nat)), vs = [.int way, .ref pc, .ref pt, .ref pm] ∧ 3 ≤ cs.length ∧ 2 ≤ ts.length ∧ 2 ≤ ms.length ∧ cs.Nodup ∧
  H pc = some (.lst (cs.map ltV)) ∧ H pt = some (.lst (ts.map ltV)) ∧ H pm = some (.lst (ms.map txtV)) ∧
  ∀ (t : Addr) (rows : List Rw) (ends : List Int) (H' : Hp), WfR cs ts ms rows ends 0 → rows.length ≤ 4 → Same H H' → ModAt H' t rows ends 0 → Q (.ref t) H'
theorem ok_fam {f : Addr} {fd : FuncData} (F : Fun K "_law_family" "_law_family" sFam f fd) (B : Bl mg) : FnOk P w K mg base CX0 1 f fd psFam spFam := by
  refine F.ok scFam (fun vs H Q E h => ?_) (fun cdv A outer s H vs Q E hr h => ?_)
  · obtain ⟨way, pc, pt, pm, cs, ts, ms, rfl, _⟩ := h
    rfl
  · obtain ⟨way, pc, pt, pm, cs, ts, ms, rfl, c3, t2, m2, cnd, hc, ht, hm, k⟩ := h
    refine ⟨_, pss_cons (ps_asg (pe_slice sl_list (pv 1) po_none (po_some pe_int)) (pg_lst rfl (pgs_cons (pg_name (i := 4) scFam.nd rfl (.inl rfl)) (pgs_cons (pg_name (i := 5) scFam.nd rfl (.inl rfl)) (pgs_cons (pg_name (i := 6) scFam.nd rfl (.inl rfl)) (pgs_nil))))))
      (pss_cons (ps_asg (pe_slice sl_list (pv 2) po_none (po_some pe_int)) (pg_lst rfl (pgs_cons (pg_name (i := 7) scFam.nd rfl (.inl rfl)) (pgs_cons (pg_name (i := 8) scFam.nd rfl (.inl rfl)) (pgs_nil)))))
      (pss_cons (ps_asg (pe_slice sl_list (pv 3) po_none (po_some pe_int)) (pg_lst rfl (pgs_cons (pg_name (i := 9) scFam.nd rfl (.inl rfl)) (pgs_cons (pg_name (i := 10) scFam.nd rfl (.inl rfl)) (pgs_nil)))))
      (pss_cons (ps_if (pt_cmpR op_eq (pv 0) pe_int (nomark _))
        (pss_cons (ps_set (i := 11) scFam.nd rfl (.inl rfl) (pe_disp (pps_cons (pv 4) (pe_tup (pa_cons pe_int (pa_cons (pv 7) pa_nil))) (pps_cons (pv 5) (pe_tup (pa_cons pe_int (pa_cons (pv 10) pa_nil))) (pps_cons (pv 6) (pe_tup (pa_cons pe_int (pa_cons pe_non pa_nil))) pps_nil))) (by rfl) (by rfl) (fun z => by cases z) (by decide)))
      (pss_one (ps_ret (pe_tup (pa_cons (pe_lst (pa_cons (pe_disp (pps_cons (pv 5) (pe_tup (pa_cons pe_int (pa_cons (pv 9) pa_nil))) pps_nil) (by rfl) (by rfl) (fun z => by cases z) (by decide)) (pa_cons (pv 11) (pa_cons pe_dnewK (pa_cons (pe_disp (pps_cons (pv 5) (pe_tup (pa_cons pe_int (pa_cons (pv 8) pa_nil))) (pps_cons (pv 6) (pe_tup (pa_cons pe_int (pa_cons (pv 7) pa_nil))) pps_nil)) (by rfl) (by rfl) (fun z => by cases z) (by decide)) pa_nil))))) (pa_cons (pe_lst (pa_cons pe_int pa_nil)) (pa_cons pe_int pa_nil))))))) pss_nil)
      (pss_cons (ps_if (pt_cmpR op_eq (pv 0) pe_int (nomark _))
        (pss_one (ps_ret (pe_tup (pa_cons (pe_lst (pa_cons (pe_disp (pps_cons (pv 5) (pe_tup (pa_cons pe_int (pa_cons (pv 9) pa_nil))) pps_nil) (by rfl) (by rfl) (fun z => by cases z) (by decide)) (pa_cons (pe_disp (pps_cons (pv 4) (pe_tup (pa_cons pe_int (pa_cons (pv 7) pa_nil))) (pps_cons (pv 5) (pe_tup (pa_cons pe_int (pa_cons pe_non pa_nil))) pps_nil)) (by rfl) (by rfl) (fun z => by cases z) (by decide)) (pa_cons (pe_disp (pps_cons (pv 5) (pe_tup (pa_cons pe_int (pa_cons (pv 8) pa_nil))) (pps_cons (pv 6) (pe_tup (pa_cons pe_int (pa_cons (pv 10) pa_nil))) pps_nil)) (by rfl) (by rfl) (fun z => by cases z) (by decide)) (pa_cons pe_dnewK pa_nil))))) (pa_cons (pe_lst (pa_cons pe_int pa_nil)) (pa_cons pe_int pa_nil)))))) pss_nil)
      (pss_cons (ps_if (pt_cmpR op_eq (pv 0) pe_int (nomark _))
        (pss_one (ps_ret (pe_tup (pa_cons (pe_lst (pa_cons (pe_disp (pps_cons (pv 4) (pe_tup (pa_cons pe_int (pa_cons (pv 7) pa_nil))) (pps_cons (pv 5) (pe_tup (pa_cons pe_int (pa_cons (pv 7) pa_nil))) (pps_cons (pv 6) (pe_tup (pa_cons pe_int (pa_cons (pv 9) pa_nil))) pps_nil))) (by rfl) (by rfl) (fun z => by cases z) (by decide)) (pa_cons (pe_disp (pps_cons (pv 6) (pe_tup (pa_cons pe_int (pa_cons (pv 9) pa_nil))) pps_nil) (by rfl) (by rfl) (fun z => by cases z) (by decide)) (pa_cons (pe_disp (pps_cons (pv 4) (pe_tup (pa_cons pe_int (pa_cons (pv 8) pa_nil))) (pps_cons (pv 5) (pe_tup (pa_cons pe_int (pa_cons (pv 8) pa_nil))) (pps_cons (pv 6) (pe_tup (pa_cons pe_int (pa_cons (pv 10) pa_nil))) pps_nil))) (by rfl) (by rfl) (fun z => by cases z) (by decide)) (pa_cons pe_dnewK pa_nil))))) (pa_cons (pe_lst (pa_cons pe_int (pa_cons pe_int pa_nil))) (pa_cons pe_int pa_nil)))))) pss_nil)
      (pss_cons (ps_if (pt_cmpR op_eq (pv 0) pe_int (nomark _))
        (pss_one (ps_ret (pe_tup (pa_cons (pe_lst (pa_cons (pe_disp (pps_cons (pv 4) (pe_tup (pa_cons pe_int (pa_cons (pv 7) pa_nil))) (pps_cons (pv 5) (pe_tup (pa_cons pe_int (pa_cons (pv 7) pa_nil))) pps_nil)) (by rfl) (by rfl) (fun z => by cases z) (by decide)) (pa_cons (pe_disp (pps_cons (pv 4) (pe_tup (pa_cons pe_int (pa_cons (pv 7) pa_nil))) (pps_cons (pv 6) (pe_tup (pa_cons pe_int (pa_cons (pv 9) pa_nil))) pps_nil)) (by rfl) (by rfl) (fun z => by cases z) (by decide)) (pa_cons (pe_disp (pps_cons (pv 4) (pe_tup (pa_cons pe_int (pa_cons (pv 7) pa_nil))) (pps_cons (pv 5) (pe_tup (pa_cons pe_int (pa_cons (pv 8) pa_nil))) pps_nil)) (by rfl) (by rfl) (fun z => by cases z) (by decide)) pa_nil)))) (pa_cons (pe_lst (pa_cons pe_int (pa_cons pe_int pa_nil))) (pa_cons pe_int pa_nil)))))) pss_nil)
      (pss_one (ps_ret (pe_tup (pa_cons (pe_lst (pa_cons (pe_disp (pps_cons (pv 4) (pe_tup (pa_cons pe_int (pa_cons pe_non pa_nil))) (pps_cons (pv 5) (pe_tup (pa_cons pe_int (pa_cons (pv 9) pa_nil))) pps_nil)) (by rfl) (by rfl) (fun z => by cases z) (by decide)) (pa_cons (pe_disp (pps_cons (pv 4) (pe_tup (pa_cons pe_int (pa_cons (pv 7) pa_nil))) (pps_cons (pv 5) (pe_tup (pa_cons pe_int (pa_cons (pv 8) pa_nil))) pps_nil)) (by rfl) (by rfl) (fun z => by cases z) (by decide)) (pa_cons (pe_disp (pps_cons (pv 4) (pe_tup (pa_cons pe_int (pa_cons pe_non pa_nil))) (pps_cons (pv 6) (pe_tup (pa_cons pe_int (pa_cons (pv 10) pa_nil))) pps_nil)) (by rfl) (by rfl) (fun z => by cases z) (by decide)) pa_nil)))) (pa_cons (pe_lst (pa_cons pe_int (pa_cons pe_int pa_nil))) (pa_cons pe_int pa_nil)))))))))))), ?_⟩
    obtain ⟨cp, cq, cr, cs', rfl⟩ : ∃ cp cq cr cs', cs = cp :: cq :: cr :: cs' := by
      match cs, c3 with
      | a :: b :: c :: l, _ => exact ⟨a, b, c, l, rfl⟩
    obtain ⟨ca, cb, ts', rfl⟩ : ∃ ca cb ts', ts = ca :: cb :: ts' := by
      match ts, t2 with
      | a :: b :: l, _ => exact ⟨a, b, l, rfl⟩
    obtain ⟨mm, mn, ms', rfl⟩ : ∃ mm mn ms', ms = mm :: mn :: ms' := by
      match ms, m2 with
      | a :: b :: l, _ => exact ⟨a, b, l, rfl⟩
    refine ⟨_, rfl, _, rfl, pc, _, rfl, SqL.of hc, fun p1 hp1 => ⟨p1, [ltV cp, ltV cq, ltV cr], rfl, SqL.of ?_, rfl, ?_⟩⟩
    · rw [upd_same, show (some (3 : Int)) = some ((3 : Nat) : Int) from rfl, cut_take]
      rfl
    have g1 : Same H (upd H p1 (.lst (cutV (List.map ltV (cp :: cq :: cr :: cs')) none (some 3)))) := same_new hp1
    generalize (upd H p1 (.lst (cutV (List.map ltV (cp :: cq :: cr :: cs')) none (some 3)))) = H1 at g1
    refine ⟨_, _, rfl, _, _, rfl, _, _, rfl, rfl, ?_⟩
    refine ⟨_, rfl, _, rfl, pt, _, rfl, SqL.of (g1 _ _ ht), fun p2 hp2 => ⟨p2, [ltV ca, ltV cb], rfl, SqL.of ?_, rfl, ?_⟩⟩
    · rw [upd_same, show (some (2 : Int)) = some ((2 : Nat) : Int) from rfl, cut_take]
      rfl
    have g2 : Same H (upd H1 p2 (.lst (cutV (List.map ltV (ca :: cb :: ts')) none (some 2)))) := g1.trans (same_new hp2)
    generalize (upd H1 p2 (.lst (cutV (List.map ltV (ca :: cb :: ts')) none (some 2)))) = H2 at g2
    refine ⟨_, _, rfl, _, _, rfl, rfl, ?_⟩
    refine ⟨_, rfl, _, rfl, pm, _, rfl, SqL.of (g2 _ _ hm), fun p3 hp3 => ⟨p3, [txtV mm, txtV mn], rfl, SqL.of ?_, rfl, ?_⟩⟩
    · rw [upd_same, show (some (2 : Int)) = some ((2 : Nat) : Int) from rfl, cut_take]
      rfl
    have g3 : Same H (upd H2 p3 (.lst (cutV (List.map txtV (mm :: mn :: ms')) none (some 2)))) := g2.trans (same_new hp3)
    generalize (upd H2 p3 (.lst (cutV (List.map txtV (mm :: mn :: ms')) none (some 2)))) = H3 at g3
    refine ⟨_, _, rfl, _, _, rfl, rfl, ?_⟩
    have hpq : cp ≠ cq := fun z => (List.nodup_cons.mp cnd).1 (by rw [z]; exact List.mem_cons_self)
    have hpr : cp ≠ cr := fun z => (List.nodup_cons.mp cnd).1 (by rw [z]; simp)
    have hqr : cq ≠ cr := fun z => (List.nodup_cons.mp (List.nodup_cons.mp cnd).2).1 (by rw [z]; exact List.mem_cons_self)
    have tA : ∀ z, some [ca] = some z → (∃ c ∈ ca :: cb :: ts', z = [c]) ∨ z ∈ mm :: mn :: ms' := fun z e => by cases e; exact .inl ⟨ca, by simp, rfl⟩
    have tB : ∀ z, some [cb] = some z → (∃ c ∈ ca :: cb :: ts', z = [c]) ∨ z ∈ mm :: mn :: ms' := fun z e => by cases e; exact .inl ⟨cb, by simp, rfl⟩
    have tM : ∀ z, some mm = some z → (∃ c ∈ ca :: cb :: ts', z = [c]) ∨ z ∈ mm :: mn :: ms' := fun z e => by cases e; exact .inr (by simp)
    have tN : ∀ z, some mn = some z → (∃ c ∈ ca :: cb :: ts', z = [c]) ∨ z ∈ mm :: mn :: ms' := fun z e => by cases e; exact .inr (by simp)
    have tO : ∀ z, (none : Option (List Nat)) = some z → (∃ c ∈ ca :: cb :: ts', z = [c]) ∨ z ∈ mm :: mn :: ms' := fun z e => by cases e
    refine ⟨_, rfl, rfl, _, rfl, ite2 (fun hw => ?_) (fun hw => ?_)⟩
    · unfold tSeq tAsg
      refine mkR_run (row := [(cp, (1, some [ca])), (cq, (2, some mn)), (cr, (3, none))]) (.cons (mkV_var (by rfl)) (mkM_tup (o := some [ca]) (mkV_var (by rfl))) (.cons (mkV_var (by rfl)) (mkM_tup (o := some mn) (mkV_var (by rfl))) (.cons (mkV_var (by rfl)) (mkM_tup (o := none) (mkV_c)) .nil))) (by simp [hpq, hpr, hqr]) (by simp) fun q0 H4 e4 r4 => ?_
      refine mk_model (rows := [[(cq, (1, some mm))], [(cp, (1, some [ca])), (cq, (2, some mn)), (cr, (3, none))], [], [(cq, (1, some [cb])), (cr, (1, some [ca]))]]) (ends := [2]) (mkRs_cons (mkR_disp (row := [(cq, (1, some mm))]) (.cons (mkV_var (by rfl)) (mkM_tup (o := some mm) (mkV_var (by rfl))) .nil) (by simp [hpq, hpr, hqr]) (by simp)) (mkRs_cons (mkR_var (by rfl) r4) (mkRs_cons (mkR_new) (mkRs_cons (mkR_disp (row := [(cq, (1, some [cb])), (cr, (1, some [ca]))]) (.cons (mkV_var (by rfl)) (mkM_tup (o := some [cb]) (mkV_var (by rfl))) (.cons (mkV_var (by rfl)) (mkM_tup (o := some [ca]) (mkV_var (by rfl))) .nil)) (by simp [hpq, hpr, hqr]) (by simp)) (mkRs_nil))))) (by simp) (fun H Q q => q) (by simp) fun t H5 e5 mod => ?_
      refine k _ _ _ _ (wf_rows (by simp) (by simp) (fun row hrow => ?_) (fun s hs => ?_) (by decide) (by decide) (by simp)) (by simp) ((g3.trans e4).trans e5) mod
      · simp only [List.mem_cons, List.not_mem_nil, or_false] at hrow
        rcases hrow with rfl | rfl | rfl | rfl
        · exact rowOk_cons (by simp [hpq, hpr, hqr]) (by simp) (by decide) (by simp) tM (rowOk_nil)
        · exact rowOk_cons (by simp [hpq, hpr, hqr]) (by simp) (by decide) (by simp) tA (rowOk_cons (by simp [hpq, hpr, hqr]) (by simp) (by decide) (by simp) tN (rowOk_cons (by simp [hpq, hpr, hqr]) (by simp) (by decide) (by simp) tO (rowOk_nil)))
        · exact rowOk_nil
        · exact rowOk_cons (by simp [hpq, hpr, hqr]) (by simp) (by decide) (by simp) tB (rowOk_cons (by simp [hpq, hpr, hqr]) (by simp) (by decide) (by simp) tA (rowOk_nil))
      · simp only [List.mem_cons, List.not_mem_nil, or_false] at hs
        rcases hs with rfl
        · exact ⟨by decide, by simp⟩
    refine ⟨_, rfl, rfl, _, rfl, ite2 (fun hw => ?_) (fun hw => ?_)⟩
    · refine mk_model (rows := [[(cq, (1, some mm))], [(cp, (1, some [ca])), (cq, (2, none))], [(cq, (1, some [cb])), (cr, (3, some mn))], []]) (ends := [3]) (mkRs_cons (mkR_disp (row := [(cq, (1, some mm))]) (.cons (mkV_var (by rfl)) (mkM_tup (o := some mm) (mkV_var (by rfl))) .nil) (by simp [hpq, hpr, hqr]) (by simp)) (mkRs_cons (mkR_disp (row := [(cp, (1, some [ca])), (cq, (2, none))]) (.cons (mkV_var (by rfl)) (mkM_tup (o := some [ca]) (mkV_var (by rfl))) (.cons (mkV_var (by rfl)) (mkM_tup (o := none) (mkV_c)) .nil)) (by simp [hpq, hpr, hqr]) (by simp)) (mkRs_cons (mkR_disp (row := [(cq, (1, some [cb])), (cr, (3, some mn))]) (.cons (mkV_var (by rfl)) (mkM_tup (o := some [cb]) (mkV_var (by rfl))) (.cons (mkV_var (by rfl)) (mkM_tup (o := some mn) (mkV_var (by rfl))) .nil)) (by simp [hpq, hpr, hqr]) (by simp)) (mkRs_cons (mkR_new) (mkRs_nil))))) (by simp) (fun H Q q => q) (by simp) fun t H5 e5 mod => ?_
      refine k _ _ _ _ (wf_rows (by simp) (by simp) (fun row hrow => ?_) (fun s hs => ?_) (by decide) (by decide) (by simp)) (by simp) (g3.trans e5) mod
      · simp only [List.mem_cons, List.not_mem_nil, or_false] at hrow
        rcases hrow with rfl | rfl | rfl | rfl
        · exact rowOk_cons (by simp [hpq, hpr, hqr]) (by simp) (by decide) (by simp) tM (rowOk_nil)
        · exact rowOk_cons (by simp [hpq, hpr, hqr]) (by simp) (by decide) (by simp) tA (rowOk_cons (by simp [hpq, hpr, hqr]) (by simp) (by decide) (by simp) tO (rowOk_nil))
        · exact rowOk_cons (by simp [hpq, hpr, hqr]) (by simp) (by decide) (by simp) tB (rowOk_cons (by simp [hpq, hpr, hqr]) (by simp) (by decide) (by simp) tN (rowOk_nil))
        · exact rowOk_nil
      · simp only [List.mem_cons, List.not_mem_nil, or_false] at hs
        rcases hs with rfl
        · exact ⟨by decide, by simp⟩
    refine ⟨_, rfl, rfl, _, rfl, ite2 (fun hw => ?_) (fun hw => ?_)⟩
    · refine mk_model (rows := [[(cp, (0, some [ca])), (cq, (1, some [ca])), (cr, (2, some mm))], [(cr, (2, some mm))], [(cp, (2, some [cb])), (cq, (3, some [cb])), (cr, (3, some mn))], []]) (ends := [2, 3]) (mkRs_cons (mkR_disp (row := [(cp, (0, some [ca])), (cq, (1, some [ca])), (cr, (2, some mm))]) (.cons (mkV_var (by rfl)) (mkM_tup (o := some [ca]) (mkV_var (by rfl))) (.cons (mkV_var (by rfl)) (mkM_tup (o := some [ca]) (mkV_var (by rfl))) (.cons (mkV_var (by rfl)) (mkM_tup (o := some mm) (mkV_var (by rfl))) .nil))) (by simp [hpq, hpr, hqr]) (by simp)) (mkRs_cons (mkR_disp (row := [(cr, (2, some mm))]) (.cons (mkV_var (by rfl)) (mkM_tup (o := some mm) (mkV_var (by rfl))) .nil) (by simp [hpq, hpr, hqr]) (by simp)) (mkRs_cons (mkR_disp (row := [(cp, (2, some [cb])), (cq, (3, some [cb])), (cr, (3, some mn))]) (.cons (mkV_var (by rfl)) (mkM_tup (o := some [cb]) (mkV_var (by rfl))) (.cons (mkV_var (by rfl)) (mkM_tup (o := some [cb]) (mkV_var (by rfl))) (.cons (mkV_var (by rfl)) (mkM_tup (o := some mn) (mkV_var (by rfl))) .nil))) (by simp [hpq, hpr, hqr]) (by simp)) (mkRs_cons (mkR_new) (mkRs_nil))))) (by simp) (fun H Q q => q) (by simp) fun t H5 e5 mod => ?_
      refine k _ _ _ _ (wf_rows (by simp) (by simp) (fun row hrow => ?_) (fun s hs => ?_) (by decide) (by decide) (by simp)) (by simp) (g3.trans e5) mod
      · simp only [List.mem_cons, List.not_mem_nil, or_false] at hrow
        rcases hrow with rfl | rfl | rfl | rfl
        · exact rowOk_cons (by simp [hpq, hpr, hqr]) (by simp) (by decide) (by simp) tA (rowOk_cons (by simp [hpq, hpr, hqr]) (by simp) (by decide) (by simp) tA (rowOk_cons (by simp [hpq, hpr, hqr]) (by simp) (by decide) (by simp) tM (rowOk_nil)))
        · exact rowOk_cons (by simp [hpq, hpr, hqr]) (by simp) (by decide) (by simp) tM (rowOk_nil)
        · exact rowOk_cons (by simp [hpq, hpr, hqr]) (by simp) (by decide) (by simp) tB (rowOk_cons (by simp [hpq, hpr, hqr]) (by simp) (by decide) (by simp) tB (rowOk_cons (by simp [hpq, hpr, hqr]) (by simp) (by decide) (by simp) tN (rowOk_nil)))
        · exact rowOk_nil
      · simp only [List.mem_cons, List.not_mem_nil, or_false] at hs
        rcases hs with rfl | rfl
        · exact ⟨by decide, by simp⟩
        · exact ⟨by decide, by simp⟩
    refine ⟨_, rfl, rfl, _, rfl, ite2 (fun hw => ?_) (fun hw => ?_)⟩
    · refine mk_model (rows := [[(cp, (1, some [ca])), (cq, (2, some [ca]))], [(cp, (2, some [ca])), (cr, (0, some mm))], [(cp, (1, some [ca])), (cq, (1, some [cb]))]]) (ends := [0, 1]) (mkRs_cons (mkR_disp (row := [(cp, (1, some [ca])), (cq, (2, some [ca]))]) (.cons (mkV_var (by rfl)) (mkM_tup (o := some [ca]) (mkV_var (by rfl))) (.cons (mkV_var (by rfl)) (mkM_tup (o := some [ca]) (mkV_var (by rfl))) .nil)) (by simp [hpq, hpr, hqr]) (by simp)) (mkRs_cons (mkR_disp (row := [(cp, (2, some [ca])), (cr, (0, some mm))]) (.cons (mkV_var (by rfl)) (mkM_tup (o := some [ca]) (mkV_var (by rfl))) (.cons (mkV_var (by rfl)) (mkM_tup (o := some mm) (mkV_var (by rfl))) .nil)) (by simp [hpq, hpr, hqr]) (by simp)) (mkRs_cons (mkR_disp (row := [(cp, (1, some [ca])), (cq, (1, some [cb]))]) (.cons (mkV_var (by rfl)) (mkM_tup (o := some [ca]) (mkV_var (by rfl))) (.cons (mkV_var (by rfl)) (mkM_tup (o := some [cb]) (mkV_var (by rfl))) .nil)) (by simp [hpq, hpr, hqr]) (by simp)) (mkRs_nil)))) (by simp) (fun H Q q => q) (by simp) fun t H5 e5 mod => ?_
      refine k _ _ _ _ (wf_rows (by simp) (by simp) (fun row hrow => ?_) (fun s hs => ?_) (by decide) (by decide) (by simp)) (by simp) (g3.trans e5) mod
      · simp only [List.mem_cons, List.not_mem_nil, or_false] at hrow
        rcases hrow with rfl | rfl | rfl
        · exact rowOk_cons (by simp [hpq, hpr, hqr]) (by simp) (by decide) (by simp) tA (rowOk_cons (by simp [hpq, hpr, hqr]) (by simp) (by decide) (by simp) tA (rowOk_nil))
        · exact rowOk_cons (by simp [hpq, hpr, hqr]) (by simp) (by decide) (by simp) tA (rowOk_cons (by simp [hpq, hpr, hqr]) (by simp) (by decide) (by simp) tM (rowOk_nil))
        · exact rowOk_cons (by simp [hpq, hpr, hqr]) (by simp) (by decide) (by simp) tA (rowOk_cons (by simp [hpq, hpr, hqr]) (by simp) (by decide) (by simp) tB (rowOk_nil))
      · simp only [List.mem_cons, List.not_mem_nil, or_false] at hs
        rcases hs with rfl | rfl
        · exact ⟨by decide, by simp⟩
        · exact ⟨by decide, by simp⟩
    refine mk_model (rows := [[(cp, (1, none)), (cq, (2, some mm))], [(cp, (0, some [ca])), (cq, (0, some [cb]))], [(cp, (2, none)), (cr, (0, some mn))]]) (ends := [0, 2]) (mkRs_cons (mkR_disp (row := [(cp, (1, none)), (cq, (2, some mm))]) (.cons (mkV_var (by rfl)) (mkM_tup (o := none) (mkV_c)) (.cons (mkV_var (by rfl)) (mkM_tup (o := some mm) (mkV_var (by rfl))) .nil)) (by simp [hpq, hpr, hqr]) (by simp)) (mkRs_cons (mkR_disp (row := [(cp, (0, some [ca])), (cq, (0, some [cb]))]) (.cons (mkV_var (by rfl)) (mkM_tup (o := some [ca]) (mkV_var (by rfl))) (.cons (mkV_var (by rfl)) (mkM_tup (o := some [cb]) (mkV_var (by rfl))) .nil)) (by simp [hpq, hpr, hqr]) (by simp)) (mkRs_cons (mkR_disp (row := [(cp, (2, none)), (cr, (0, some mn))]) (.cons (mkV_var (by rfl)) (mkM_tup (o := none) (mkV_c)) (.cons (mkV_var (by rfl)) (mkM_tup (o := some mn) (mkV_var (by rfl))) .nil)) (by simp [hpq, hpr, hqr]) (by simp)) (mkRs_nil)))) (by simp) (fun H Q q => q) (by simp) fun t H5 e5 mod => ?_
    refine k _ _ _ _ (wf_rows (by simp) (by simp) (fun row hrow => ?_) (fun s hs => ?_) (by decide) (by decide) (by simp)) (by simp) (g3.trans e5) mod
    · simp only [List.mem_cons, List.not_mem_nil, or_false] at hrow
      rcases hrow with rfl | rfl | rfl
      · exact rowOk_cons (by simp [hpq, hpr, hqr]) (by simp) (by decide) (by simp) tO (rowOk_cons (by simp [hpq, hpr, hqr]) (by simp) (by decide) (by simp) tM (rowOk_nil))
      · exact rowOk_cons (by simp [hpq, hpr, hqr]) (by simp) (by decide) (by simp) tA (rowOk_cons (by simp [hpq, hpr, hqr]) (by simp) (by decide) (by simp) tB (rowOk_nil))
      · exact rowOk_cons (by simp [hpq, hpr, hqr]) (by simp) (by decide) (by simp) tO (rowOk_cons (by simp [hpq, hpr, hqr]) (by simp) (by decide) (by simp) tN (rowOk_nil))
    · simp only [List.mem_cons, List.not_mem_nil, or_false] at hs
      rcases hs with rfl | rfl
      · exact ⟨by decide, by simp⟩
      · exact ⟨by decide, by simp⟩
end
end SS

set_option maxRecDepth 100000
set_option maxHeartbeats 4000000
set_option pp.maxSteps 1500
namespace SS
open PySem L2 SR TL
theorem paired_of {α β : Type} {R : α → β → Prop} : ∀ {xs : List α} {ys : List β}, xs.length = ys.length → (∀ (i : Nat) x y, xs[i]? = some x → ys[i]? = some y → R x y) → Paired R xs ys
  | [], [], _, _ => .nil
  | [], _ :: _, h, _ => by cases h
  | _ :: _, [], h, _ => by cases h
  | x :: xs, y :: ys, h, f => .cons (f 0 x y rfl rfl) (paired_of (Nat.succ.inj h) fun i a b h1 h2 => f (i + 1) a b (by simpa using h1) (by simpa using h2))
theorem paired_at {α β : Type} {R : α → β → Prop} : ∀ {xs : List α} {ys : List β}, Paired R xs ys → ∀ {i : Nat} {x : α} {y : β}, xs[i]? = some x → ys[i]? = some y → R x y
  | _, _, .nil, i, x, y, h, _ => by simp at h
  | _, _, .cons r _, 0, x, y, h1, h2 => by cases h1; cases h2; exact r
  | _, _, .cons _ t, i + 1, x, y, h1, h2 => paired_at t (by simpa using h1) (by simpa using h2)
/-- an entry of a state's dict -/
def EntAt (H : Hp) (kv : Key × V) (e : Nat × Mv) : Prop := kv.1 = Sum.inr (lt e.1) ∧ ∃ p, kv.2 = V.ref p ∧ MvAt H p e.2
theorem rw_iff {H : Hp} {q : Addr} {row : Rw} : RwAt H q row ↔ ∃ kvs, H q = some (.dK kvs) ∧ Paired (EntAt H) kvs row := by
  constructor
  · rintro ⟨ps, h1, h2⟩
    refine ⟨_, h1, ?_⟩
    clear h1
    induction h2 with
    | nil => exact .nil
    | cons r _ ih => exact .cons ⟨rfl, _, rfl, r⟩ ih
  · rintro ⟨kvs, h1, h2⟩
    have key : ∀ {kvs : List (Key × V)} {row : Rw}, Paired (EntAt H) kvs row → ∃ ps : List Addr, kvs = List.zipWith entK row ps ∧ Paired (fun p e => MvAt H p e.2) ps row := by
      intro kvs row h
      induction h with
      | nil => exact ⟨[], rfl, .nil⟩
      | @cons kv e _ _ r _ ih =>
        obtain ⟨ps, h1, h2⟩ := ih
        obtain ⟨k1, p, k2, k3⟩ := r
        refine ⟨p :: ps, ?_, .cons k3 h2⟩
        rw [h1]
        show kv :: _ = entK e p :: _
        rw [show kv = entK e p from Prod.ext k1 k2]
    obtain ⟨ps, rfl, h⟩ := key h2
    exact ⟨ps, h1, h⟩
theorem lt_inj {a b : Nat} (h : lt a = lt b) : a = b := by
  have := congrArg (fun z : Str => z.cps.toList) h
  simpa [lt] using this
def putR (row : Rw) (c : Nat) (m : Mv) : Rw := if c ∈ row.map (·.1) then row.map (fun e => if e.1 = c then (e.1, m) else e) else row ++ [(c, m)]
def dropR (row : Rw) (c : Nat) : Rw := row.filter fun e => decide (e.1 ≠ c)
theorem ents_any {H : Hp} {c : Nat} : ∀ {kvs : List (Key × V)} {row : Rw}, Paired (EntAt H) kvs row → ((kvs.any fun kv => decide (kv.1 = Sum.inr (lt c))) = true ↔ c ∈ row.map (·.1))
  | _, _, .nil => by simp
  | _, _, .cons (a := kv) (b := e) r t => by
    rw [List.any_cons, Bool.or_eq_true, ents_any t, List.map_cons, List.mem_cons, decide_eq_true_iff, r.1]
    exact or_congr ⟨fun h => (lt_inj (Sum.inr.inj h)).symm, fun h => by rw [h]⟩ Iff.rfl
theorem ents_put {H : Hp} {kvs : List (Key × V)} {row : Rw} {c : Nat} {p : Addr} {m : Mv} (h : Paired (EntAt H) kvs row) (hp : MvAt H p m) : Paired (EntAt H) (putK kvs (Sum.inr (lt c)) (.ref p)) (putR row c m) := by
  unfold putK putR
  by_cases hc : c ∈ row.map (·.1)
  · rw [if_pos ((ents_any h).mpr hc), if_pos hc]
    clear hc
    induction h with
    | nil => exact .nil
    | @cons kv e _ _ r _ ih =>
      refine .cons ?_ ih
      obtain ⟨k1, p', k2, k3⟩ := r
      show EntAt H (if kv.1 = Sum.inr (lt c) then (kv.1, V.ref p) else kv) (if e.1 = c then (e.1, m) else e)
      by_cases he : e.1 = c
      · rw [if_pos (by rw [k1, he]), if_pos he]
        exact ⟨k1, p, rfl, hp⟩
      · rw [if_neg (by rw [k1]; exact fun z => he (lt_inj (Sum.inr.inj z))), if_neg he]
        exact ⟨k1, p', k2, k3⟩
  · rw [if_neg (fun z => hc ((ents_any h).mp z)), if_neg hc]
    exact paired_snoc h ⟨rfl, p, rfl, hp⟩
theorem ents_drop {H : Hp} {kvs : List (Key × V)} {row : Rw} {c : Nat} (h : Paired (EntAt H) kvs row) : Paired (EntAt H) (dropK kvs (Sum.inr (lt c))) (dropR row c) := by
  unfold dropK dropR
  induction h with
  | nil => exact .nil
  | @cons kv e _ _ r _ ih =>
    by_cases he : e.1 = c
    · rw [List.filter_cons_of_neg (by simp [r.1, he]), List.filter_cons_of_neg (by simp [he])]
      exact ih
    · have hk : ¬ (kv.1 = Sum.inr (lt c)) := by rw [r.1]; exact fun z => he (lt_inj (Sum.inr.inj z))
      rw [List.filter_cons_of_pos (by simp [hk]), List.filter_cons_of_pos (by simp [he])]
      exact .cons r ih
theorem ents_val {H : Hp} {c : Nat} : ∀ {kvs : List (Key × V)} {row : Rw}, Paired (EntAt H) kvs row → (∃ p m, valV kvs (Sum.inr (lt c)) = some (.ref p) ∧ mvOf row c = some m ∧ MvAt H p m) ∨ (valV kvs (Sum.inr (lt c)) = none ∧ mvOf row c = none ∧ c ∉ row.map (·.1))
  | _, _, .nil => .inr ⟨rfl, rfl, by simp⟩
  | _, _, .cons (a := kv) (b := e) r t => by
    obtain ⟨k1, p, k2, k3⟩ := r
    unfold valV mvOf
    by_cases he : e.1 = c
    · left
      refine ⟨p, e.2, ?_, ?_, k3⟩
      · rw [List.find?_cons_of_pos (by simp [k1, he])]
        show some kv.2 = _
        rw [k2]
      · rw [List.find?_cons_of_pos (by simp [he])]
        rfl
    · have hk : ¬ (kv.1 = Sum.inr (lt c)) := by rw [k1]; exact fun z => he (lt_inj (Sum.inr.inj z))
      rw [List.find?_cons_of_neg (by simp [hk]), List.find?_cons_of_neg (by simp [he])]
      rcases ents_val (c := c) t with h | ⟨h1, h2, h3⟩
      · exact .inl h
      · refine .inr ⟨h1, h2, ?_⟩
        rw [List.map_cons, List.mem_cons]
        rintro (h | h)
        · exact he h.symm
        · exact h3 h
theorem put_keys {row : Rw} {c : Nat} {m : Mv} : (putR row c m).map (·.1) = if c ∈ row.map (·.1) then row.map (·.1) else row.map (·.1) ++ [c] := by
  unfold putR
  by_cases hc : c ∈ row.map (·.1)
  · rw [if_pos hc, if_pos hc, List.map_map]
    refine List.map_congr_left fun e _ => ?_
    show (if e.1 = c then (e.1, m) else e).1 = e.1
    by_cases he : e.1 = c
    · rw [if_pos he]
    · rw [if_neg he]
  · rw [if_neg hc, if_neg hc, List.map_append]
    rfl
theorem put_mem {row : Rw} {c : Nat} {m : Mv} {e : Nat × Mv} (h : e ∈ putR row c m) : e ∈ row ∨ e = (c, m) := by
  unfold putR at h
  by_cases hc : c ∈ row.map (·.1)
  · rw [if_pos hc] at h
    obtain ⟨a, ha, rfl⟩ := List.mem_map.mp h
    by_cases he : a.1 = c
    · rw [if_pos he]
      exact .inr (by rw [he])
    · rw [if_neg he]
      exact .inl ha
  · rw [if_neg hc] at h
    rcases List.mem_append.mp h with z | z
    · exact .inl z
    · exact .inr (List.mem_singleton.mp z)
theorem RowOk.put {cs ts : List Nat} {ms : List (List Nat)} {n c : Nat} {row : Rw} {m : Mv} (h : RowOk cs ts ms n row) (h2 : c ∈ cs) (h3 : 0 ≤ m.1 ∧ m.1 < (n : Int)) (h5 : ∀ z, m.2 = some z → (∃ c ∈ ts, z = [c]) ∨ z ∈ ms) : RowOk cs ts ms n (putR row c m) := by
  refine ⟨?_, fun e he => ?_⟩
  · rw [put_keys]
    by_cases hc : c ∈ row.map (·.1)
    · rw [if_pos hc]; exact h.1
    · rw [if_neg hc, List.nodup_append]
      refine ⟨h.1, List.pairwise_singleton _ _, fun a ha b hb => ?_⟩
      rw [List.mem_singleton.mp hb]
      exact fun z => hc (z ▸ ha)
  · rcases put_mem he with z | z
    · exact h.2 e z
    · rw [z]; exact ⟨h2, h3, h5⟩
theorem RowOk.drop {cs ts : List Nat} {ms : List (List Nat)} {n c : Nat} {row : Rw} (h : RowOk cs ts ms n row) : RowOk cs ts ms n (dropR row c) := by
  refine ⟨h.1.sublist (List.Sublist.map _ List.filter_sublist), fun e he => h.2 e (List.mem_filter.mp he).1⟩
theorem WfR.row {cs ts : List Nat} {ms : List (List Nat)} {rows : List Rw} {ends : List Int} {start : Int} (W : WfR cs ts ms rows ends start) {row : Rw} (h : row ∈ rows) : RowOk cs ts ms rows.length row := ⟨W.nd row h, fun e he => ⟨W.key row h e he, W.goal row h e he, W.told row h e he⟩⟩
theorem WfR.set {cs ts : List Nat} {ms : List (List Nat)} {rows : List Rw} {ends : List Int} {start : Int} (W : WfR cs ts ms rows ends start) {i : Nat} {row : Rw} (h : RowOk cs ts ms rows.length row) : WfR cs ts ms (rows.set i row) ends start := by
  have hl : (rows.set i row).length = rows.length := List.length_set
  refine wf_rows (by rw [hl]; exact W.one) (by rw [hl]; exact W.most) (fun r hr => ?_) (by rw [hl]; exact W.end0) W.endN W.st0 (by rw [hl]; exact W.st1)
  rw [hl]
  rcases List.mem_or_eq_of_mem_set hr with z | z
  · exact W.row z
  · rw [z]; exact h
/-- one dict of the rows is another now -/
theorem rows_set {H H' : Hp} {qs : List Addr} {rows : List Rw} {i : Nat} {q : Addr} {kv : List (Key × V)} {row : Rw} (h : Paired (RwAt H) qs rows) (nd : qs.Nodup) (hi : qs[i]? = some q) (hq : H q = some (.dK kv)) (e : SameB q H H') (r : RwAt H' q row) : Paired (RwAt H') qs (rows.set i row) := by
  have hl : qs.length = rows.length := Paired.length h
  refine paired_of (by rw [List.length_set]; exact hl) fun j a b h1 h2 => ?_
  by_cases hj : i = j
  · subst hj
    rw [hi] at h1
    cases h1
    have hlt : i < rows.length := by rw [← hl]; exact (List.getElem?_eq_some_iff.mp hi).1
    rw [List.getElem?_set_self hlt] at h2
    cases h2
    exact r
  · rw [List.getElem?_set_ne hj] at h2
    obtain ⟨kvs, k1, k2⟩ := rw_iff.mp (paired_at h h1 h2)
    have na : a ≠ q := fun z => hj ((List.getElem?_inj (List.getElem?_eq_some_iff.mp hi).1 nd).mp (by rw [hi, h1, z]))
    refine rw_iff.mpr ⟨kvs, e _ _ na k1, Paired.mono k2 fun x y g => ⟨g.1, ?_⟩⟩
    obtain ⟨p, g1, g2⟩ := g.2
    refine ⟨p, g1, e _ _ (fun z => ?_) g2⟩
    unfold MvAt at g2
    rw [z, hq] at g2
    cases g2
def rDictD : List V → Hp → VK → Prop := fun xs H Q => ∃ (a : Addr) (kvs : List (Key × V)), xs = [.ref a] ∧ Rd H a (.dK kvs) ∧ ∀ p, H p = none → Q (.ref p) (upd H p (.dK kvs))
theorem tell_choice1 {ts : List Nat} {ms : List (List Nat)} {x : V} (h : x ∈ [V.non] ++ ts.map ltV ++ ms.map txtV) : ∃ o : Option (List Nat), x = tellV o ∧ ∀ z, o = some z → (∃ c ∈ ts, z = [c]) ∨ z ∈ ms := by
  refine tell_choice ?_
  rcases List.mem_append.mp h with h | h
  · rcases List.mem_append.mp h with h | h
    · exact List.mem_append_left _ (List.mem_append_left _ h)
    · exact List.mem_append_left _ (List.mem_append_right _ (List.mem_flatten.mpr ⟨_, by simp, h⟩))
  · exact List.mem_append_right _ h
section
variable {P : Program} {w : World} {K : PySem.W.Frag} {mg : Str → Option Value} {base : Heap}
/-! ### _law_bent -/
abbrev sBent : Stmt := top 38
abbrev nBent : List Str := ["_law_rng_here", "_law_model", "_law_paper", "_law_tells", "_law_marks_here", "_law_rows", "_law_line", "_law_at", "_law_letter"]
abbrev psBent : List Str := ["_law_rng_here", "_law_model", "_law_paper", "_law_tells", "_law_marks_here"]
theorem scBent : FnScope nBent psBent (defScope sBent) := ⟨rfl, rfl, rfl, by decide +kernel, rfl, by decide +kernel, by decide +kernel⟩
def spBent : Sp := fun vs H Q _ => ∃ (r t pc pt pm : Addr) (cs ts : List Nat) (ms : List (List Nat)) (rows : List Rw) (ends : List Int) (start : Int), vs = [.ref r, .ref t, .ref pc, .ref pt, .ref pm] ∧ Pal cs ts ms ∧ 1 ≤ cs.length ∧ H r = some (rngO r) ∧
  H pc = some (.lst (cs.map ltV)) ∧ H pt = some (.lst (ts.map ltV)) ∧ H pm = some (.lst (ms.map txtV)) ∧ WfR cs ts ms rows ends start ∧ ModAt H t rows ends start ∧
  ∀ (t' : Addr) (rows' : List Rw) (H' : Hp), WfR cs ts ms rows' ends start → rows'.length = rows.length → Same H H' → ModAt H' t' rows' ends start → Q (.ref t') H'
theorem ok_bent {f : Addr} {fd : FuncData} (F : Fun K "_law_bent" "_law_bent" sBent f fd) (B : Bl mg) (D : Cal P w K mg base "_law_draw" 1 ["_law_rng_here", "_law_many"] spDraw) (C : Cal P w K mg base "_law_choice" 2 ["_law_rng_here", "_law_some"] (spChoice K)) : FnOk P w K mg base CX0 3 f fd psBent spBent := by
  refine F.ok scBent (fun vs H Q E h => ?_) (fun cdv A outer s H vs Q E hr h => ?_)
  · obtain ⟨r, t, pc, pt, pm, cs, ts, ms, rows, ends, start, rfl, _⟩ := h
    rfl
  · obtain ⟨r, t, pc, pt, pm, cs, ts, ms, rows, ends, start, rfl, PA', c1, hR, hc, ht, hm, W, M, k⟩ := h
    have hr1 := hr.mono (by decide : 1 ≤ 2)
    have hu := hu_of hr
    refine ⟨_, pss_cons (ps_setLc (i := 5) (own := [("_law_line", 6)]) (g := gName 6) (tt := tYes) (te := tCB rDictD (tCons (tVar 6) tNil)) rfl scBent.nd rfl rfl (sw_true rfl rfl rfl (by decide +kernel)) (pi_list (pe_ix ix_tup (pv 1) pe_int (fun _ _ => rfl))) (blkOk_by (by kernel_rfl)) (fun _ _ _ _ _ => pg_name (i := 6) scBent.nd rfl (.inl rfl)) (fun _ _ _ _ _ => pts_nil) (fun _ _ _ _ _ => pe_callTy call_dictD (by rfl) B.dict (by decide +kernel) (pa_cons (pv 6) pa_nil)))
      (pss_cons (ps_par (i := 7) (j := 8) (by rfl) scBent.nd rfl rfl (by decide) rfl rfl (pa_cons (pe_cal D hr1 (pa_cons (pv 0) (pa_cons (pe_callB call_len_seq (by rfl) B.len boot_len (pa_cons (pv 5) pa_nil)) pa_nil))) (pa_cons (pe_cal C hr (pa_cons (pv 0) (pa_cons (pv 2) pa_nil))) pa_nil)) (by rfl))
      (pss_cons (ps_dput hu (pe_ix ix_list (pv 5) (pv 7) (fun _ _ => rfl)) (pv 8) (pe_tup (pa_cons (pe_cal D hr1 (pa_cons (pv 0) (pa_cons (pe_callB call_len_seq (by rfl) B.len boot_len (pa_cons (pv 5) pa_nil)) pa_nil))) (pa_cons (pe_cal C hr (pa_cons (pv 0) (pa_cons (pe_op op_cat (pe_op op_cat (pe_lst (pa_cons pe_non pa_nil)) (pv 3)) (pv 4)) pa_nil))) pa_nil))) rfl)
      (pss_cons (ps_if (pt_cmpR op_eq (pe_cal D hr1 (pa_cons (pv 0) (pa_cons pe_int pa_nil))) pe_int (nomark _))
        (pss_one (ps_expr (pe_dpop1 (pe_ix ix_list (pv 5) (pv 7) (fun _ _ => rfl)) (pv 8) ⟨rfl, rfl, rfl, rfl⟩))) pss_nil)
      (pss_one (ps_ret (pe_tup (pa_cons (pv 5) (pa_cons (pe_callTy call_list_of (by rfl) B.list (by decide +kernel) (pa_cons (pe_ix ix_tup (pv 1) pe_int (fun _ _ => rfl)) pa_nil)) (pa_cons (pe_ix ix_tup (pv 1) pe_int (fun _ _ => rfl)) pa_nil))))))))), ?_⟩
    obtain ⟨pr0, pe0, qs0, m1, m2, m3, m4⟩ := M.ex
    have hq0 : qs0.length = rows.length := Paired.length m3
    have h12 := W.most
    have h1 := W.one
    refine ⟨_, rfl, t, _, _, _, rfl, rfl, SqT.of m1, rfl, pr0, rfl, ⟨_, SqL.of m2⟩, fun pr hpr => lc_S (walk_list (K := K) (a := pr0) (xs := qs0.map .ref)) hpr (by rw [List.length_map]; omega) (fun i acc H' => ∃ qs : List Addr, acc = qs.map .ref ∧ Paired (fun q row => RwAt H' q row ∧ H q = none) qs (rows.take i) ∧ qs.Nodup) ?_ ⟨[], rfl, .nil, List.Pairwise.nil⟩ (fun H' e' => e'.seq (SqL.of m2)) ?_ ?_⟩
    · rintro i acc acc' H1 H2 hd ee ⟨qs, q1, q2, q3⟩
      refine ⟨qs, q1, Paired.mono q2 fun a b h => ⟨RwAt.nl (fun x o hx no => ee _ _ (fun z => ?_) hx) h.1, h.2⟩, q3⟩
      rw [z, hd] at hx
      cases hx
      exact no _ rfl
    · rintro i v H1 H1' acc Qt Qf hi e1 hd ⟨qs, rfl, hq, qnd⟩ ⟨rfl, hv⟩ kt kf
      rw [List.length_map] at hi
      rw [List.getElem?_map] at hv
      obtain ⟨q, hqi, rfl⟩ := Option.map_eq_some_iff.mp hv
      have hir : i < rows.length := by omega
      obtain ⟨q', hq', hrow⟩ := paired_get i m3 (List.getElem?_eq_getElem hir)
      rw [hqi] at hq'
      cases hq'
      obtain ⟨kvs, k1, k2⟩ := rw_iff.mp (hrow.mono e1)
      refine ⟨rfl, _, rfl, q, _, rfl, .inl k1, fun p hp => kt _ _ (same_new hp) ⟨qs ++ [p], by simp, ?_, ?_⟩⟩
      · rw [List.take_add_one, List.getElem?_eq_getElem hir]
        exact paired_snoc (Paired.mono hq fun a b h => ⟨h.1.mono (same_new hp), h.2⟩) ⟨rw_iff.mpr ⟨kvs, upd_same, Paired.mono k2 fun a b g => ⟨g.1, g.2.imp fun p' z => ⟨z.1, (same_new hp) _ _ z.2⟩⟩⟩, e1.free hp⟩
      · rw [List.nodup_append]
        refine ⟨qnd, List.pairwise_singleton _ _, fun a ha b hb => ?_⟩
        rw [List.mem_singleton.mp hb]
        obtain ⟨ix, hix⟩ := List.mem_iff_getElem?.mp ha
        have hlq : qs.length = (rows.take i).length := Paired.length hq
        obtain ⟨y, hy, hyr⟩ := LiI.paired_get hq hix
        obtain ⟨kv2, g1, _⟩ := rw_iff.mp hyr.1
        exact ne_of_none g1 hp
    rintro H1 acc e1 hl1 ⟨qs, rfl, hq, qnd⟩
    rw [List.length_map, hq0, List.take_length] at hq
    have hql : qs.length = rows.length := Paired.length hq
    have em1 := e1
    refine ⟨_, rfl, _, rfl, pr, _, rfl, .inl (SqL.of hl1), r, _, rfl, by rw [List.length_map]; omega, by rw [List.length_map]; omega, em1 _ _ hR, fun d H2 d0 d1 e2 => ?_⟩
    rw [List.length_map] at d1
    have em2 := em1.trans e2
    refine ⟨_, rfl, _, rfl, .inl ⟨r, pc, _, rfl, em2 _ _ hR, SqL.of (em2 _ _ hc), by rw [List.length_map]; omega, by have := PA'.csn; rw [List.length_map]; omega, fun x H3 hx e3 => ⟨_, _, rfl, ?_⟩⟩⟩
    obtain ⟨c, hcm, rfl⟩ := List.mem_map.mp hx
    have em3 := em2.trans e3
    have e13 := e2.trans e3
    -- the new move
    refine ⟨_, rfl, _, rfl, pr, _, rfl, .inl (SqL.of (e13 _ _ hl1)), r, _, rfl, by rw [List.length_map]; omega, by rw [List.length_map]; omega, em3 _ _ hR, fun g H4 g0 g1 e4 => ?_⟩
    rw [List.length_map] at g1
    have em4 := em3.trans e4
    refine ⟨_, rfl, by show 1 ≤ sizeLine; decide, fun p1 hp1 => ?_⟩
    have f1 : Same H4 (upd H4 p1 (.lst [.non])) := same_new hp1
    refine ⟨_, rfl, p1, pt, _, _, rfl, rfl, upd_same, f1 _ _ (em4 _ _ ht), by have := PA'.tsn; rw [List.length_map, sizeLine_eq]; show 1 + _ ≤ _; omega, fun p2 hp2 => ?_⟩
    have f2 := f1.trans (same_new (o := .lst ([.non] ++ ts.map ltV)) hp2)
    refine ⟨_, rfl, p2, pm, _, _, rfl, rfl, upd_same, f2 _ _ (em4 _ _ hm), by have := PA'.tsn; have := PA'.msn; rw [List.length_append, List.length_map, List.length_map, sizeLine_eq]; show 1 + _ + _ ≤ _; omega, fun p3 hp3 => ?_⟩
    have f3 := f2.trans (same_new (o := .lst ([.non] ++ ts.map ltV ++ ms.map txtV)) hp3)
    refine .inl ⟨r, p3, _, rfl, f3 _ _ (em4 _ _ hR), SqL.of upd_same, by rw [List.length_append, List.length_append]; show 0 < 1 + _ + _; omega, by have := PA'.tsn; have := PA'.msn; rw [List.length_append, List.length_append, List.length_map, List.length_map]; show 1 + _ + _ < _; omega, fun x H5 hx e5 => ?_⟩
    obtain ⟨o, rfl, ho⟩ := tell_choice1 hx
    have f5 := f3.trans e5
    refine ⟨by show 2 ≤ sizeLine; decide, fun p4 hp4 => ?_⟩
    have f6 := f5.trans (same_new (o := .tup [.int g, tellV o]) hp4)
    have hM6 : MvAt (upd H5 p4 (.tup [.int g, tellV o])) p4 (g, o) := upd_same
    generalize (upd H5 p4 (.tup [.int g, tellV o])) = H6 at f6 hM6
    have e16 : Same H1 H6 := (e13.trans e4).trans f6
    have em6 : Same H H6 := em1.trans e16
    obtain ⟨at', hat⟩ : ∃ at' : Nat, d = (at' : Int) := ⟨d.toNat, by omega⟩
    subst hat
    have hlt : at' < qs.length := by omega
    obtain ⟨q, hqa⟩ : ∃ q, qs[at']? = some q := ⟨_, List.getElem?_eq_getElem hlt⟩
    obtain ⟨row, hra⟩ : ∃ row, rows[at']? = some row := ⟨_, List.getElem?_eq_getElem (by omega)⟩
    have hrq := paired_at hq hqa hra
    obtain ⟨kvs, k1, k2⟩ := rw_iff.mp (hrq.1.mono e16)
    have rok := W.row (List.mem_of_getElem? hra)
    have klen : kvs.length ≤ 6 := by
      have h1 := len_subG (row.map (·.1)) cs rok.1 fun y hy => by
        obtain ⟨e, he, rfl⟩ := List.mem_map.mp hy
        exact (rok.2 e he).1
      rw [List.length_map] at h1
      have := PA'.csn
      have : kvs.length = row.length := Paired.length k2
      omega
    have hat' : atI (qs.map V.ref) ((at' : Nat) : Int) = some (.ref q) := atI_of (by omega) (by rw [Int.toNat_natCast, List.getElem?_map, hqa]; rfl)
    refine ⟨_, rfl, _, rfl, pr, _, _, _, rfl, rfl, SqL.of (e16 _ _ hl1), hat', _, rfl, q, _, rfl, DPut.k (k := Sum.inr (lt c)) k1 (by rw [sizeLine_eq]; omega), ?_⟩
    have hprq : pr ≠ q := ne_of (e16 _ _ hl1) k1 (by intro z; cases z)
    have sb : SameB q H6 (upd H6 q (.dK (putK kvs (Sum.inr (lt c)) (.ref p4)))) := SameB.upd
    have ent : ∀ {kv : List (Key × V)} {rw' : Rw}, Paired (EntAt H6) kv rw' → Paired (EntAt (upd H6 q (.dK (putK kvs (Sum.inr (lt c)) (.ref p4))))) kv rw' := fun h => Paired.mono h fun a b g => ⟨g.1, g.2.imp fun p z => ⟨z.1, sb _ _ (fun y => by have := z.2; unfold MvAt at this; rw [y, k1] at this; cases this) z.2⟩⟩
    have r7 : RwAt (upd H6 q (.dK (putK kvs (Sum.inr (lt c)) (.ref p4)))) q (putR row c (g, o)) := rw_iff.mpr ⟨_, upd_same, ent (ents_put k2 hM6)⟩
    have ps7 := rows_set (Paired.mono hq fun a b h => h.1.mono e16) qnd hqa k1 sb r7
    have hq7 : (upd H6 q (.dK (putK kvs (Sum.inr (lt c)) (.ref p4)))) q = some (.dK (putK kvs (Sum.inr (lt c)) (.ref p4))) := upd_same
    have em7 : Same H (upd H6 q (.dK (putK kvs (Sum.inr (lt c)) (.ref p4)))) := same_upd em6 hrq.2
    have hl7 : (upd H6 q (.dK (putK kvs (Sum.inr (lt c)) (.ref p4)))) pr = some (.lst (qs.map .ref)) := by rw [upd_ne hprq]; exact e16 _ _ hl1
    have k7 := ent (ents_put (c := c) k2 hM6)
    generalize (upd H6 q (.dK (putK kvs (Sum.inr (lt c)) (.ref p4)))) = H7 at ps7 hq7 em7 hl7 r7 k7 sb
    have rok7 : RowOk cs ts ms rows.length (putR row c (g, o)) := rok.put hcm ⟨g0, by omega⟩ ho
    -- the end
    have fin : ∀ (H8 : Hp) (rows' : List Rw), Same H H8 → H8 pr = some (.lst (qs.map .ref)) → Paired (RwAt H8) qs rows' → WfR cs ts ms rows' ends start → rows'.length = rows.length → ∀ (Hz : Hp) (pe t' : Addr), H8 pe = none → (upd H8 pe (.lst (ends.map .int))) t' = none → Q (.ref t') (upd (upd H8 pe (.lst (ends.map .int))) t' (.tup [.ref pr, .ref pe, .int start])) := by
      intro H8 rows' em8 hl8 ps8 W8 hln _ pe t' hpe ht'
      have z1 := same_new (o := .lst (ends.map .int)) hpe
      have z2 := same_new (o := .tup [.ref pr, .ref pe, .int start]) ht'
      exact k t' rows' _ W8 hln ((em8.trans z1).trans z2) ⟨pr, pe, qs, upd_same, z2 _ _ (z1 _ _ hl8), Paired.mono ps8 fun a b h => h.mono (z1.trans z2), z2 _ _ upd_same⟩
    refine ⟨_, rfl, r, _, rfl, by decide, by decide, em7 _ _ hR, fun d' H8 d0' d1' e8 => ⟨rfl, _, rfl, ite2 (fun hd => ?_) (fun hd => ?_)⟩⟩
    · -- taken out again
      have hv : ∃ p m, valV (putK kvs (Sum.inr (lt c)) (.ref p4)) (Sum.inr (lt c)) = some (.ref p) ∧ mvOf (putR row c (g, o)) c = some m ∧ MvAt H7 p m := by
        rcases ents_val (c := c) k7 with h | ⟨_, _, h⟩
        · exact h
        · refine absurd ?_ h
          rw [put_keys]
          by_cases hc' : c ∈ row.map (·.1)
          · rw [if_pos hc']; exact hc'
          · rw [if_neg hc']; exact List.mem_append_right _ List.mem_cons_self
      obtain ⟨pv', mv', hv1, _, _⟩ := hv
      have hq8 := e8 _ _ hq7
      refine ⟨_, rfl, _, rfl, pr, _, _, _, rfl, rfl, SqL.of (e8 _ _ hl7), hat', q, rfl, .inl ⟨_, .inl hq8⟩, _, rfl, _, Sum.inr (lt c), _, hq8, rfl, hv1, ?_⟩
      have sb8 : SameB q H8 (upd H8 q (.dK (dropK (putK kvs (Sum.inr (lt c)) (.ref p4)) (Sum.inr (lt c))))) := SameB.upd
      have r8 : RwAt (upd H8 q (.dK (dropK (putK kvs (Sum.inr (lt c)) (.ref p4)) (Sum.inr (lt c))))) q (dropR (putR row c (g, o)) c) := rw_iff.mpr ⟨_, upd_same, Paired.mono (ents_drop k7) fun a b g => ⟨g.1, g.2.imp fun p z => ⟨z.1, sb8 _ _ (fun y => by have := e8 _ _ z.2; rw [y, hq8] at this; cases this) (e8 _ _ z.2)⟩⟩⟩
      have ps8 := rows_set (Paired.mono ps7 fun a b h => h.mono e8) qnd hqa hq8 sb8 r8
      have hl8 : (upd H8 q (.dK (dropK (putK kvs (Sum.inr (lt c)) (.ref p4)) (Sum.inr (lt c))))) pr = some (.lst (qs.map .ref)) := by rw [upd_ne hprq]; exact e8 _ _ hl7
      have em8 := same_upd (o := .dK (dropK (putK kvs (Sum.inr (lt c)) (.ref p4)) (Sum.inr (lt c)))) (em7.trans e8) hrq.2
      generalize (upd H8 q (.dK (dropK (putK kvs (Sum.inr (lt c)) (.ref p4)) (Sum.inr (lt c))))) = H9 at ps8 hl8 em8
      refine ⟨_, rfl, _, rfl, t, _, _, _, rfl, rfl, SqT.of (em8 _ _ m1), rfl, pe0, _, rfl, .inl (SqL.of (em8 _ _ m4)), fun pe hpe => ⟨_, rfl, t, _, _, _, rfl, rfl, SqT.of ((em8.trans (same_new hpe)) _ _ m1), rfl, by show 3 ≤ sizeLine; decide, fun t' ht' => ?_⟩⟩
      rw [List.set_set] at ps8
      exact fin H9 _ em8 hl8 ps8 (W.set rok7.drop) (List.length_set) H9 pe t' hpe ht'
    · refine ⟨_, rfl, _, rfl, t, _, _, _, rfl, rfl, SqT.of ((em7.trans e8) _ _ m1), rfl, pe0, _, rfl, .inl (SqL.of ((em7.trans e8) _ _ m4)), fun pe hpe => ⟨_, rfl, t, _, _, _, rfl, rfl, SqT.of (((em7.trans e8).trans (same_new hpe)) _ _ m1), rfl, by show 3 ≤ sizeLine; decide, fun t' ht' => ?_⟩⟩
      exact fin H8 _ (em7.trans e8) (e8 _ _ hl7) (Paired.mono ps7 fun a b h => h.mono e8) (W.set rok7) (List.length_set) H8 pe t' hpe ht'
end
end SS

set_option maxRecDepth 100000
set_option maxHeartbeats 4000000
set_option pp.maxSteps 1500
namespace SS
open PySem L2 SR TL
section
variable {P : Program} {w : World} {K : PySem.W.Frag} {mg : Str → Option Value} {base : Heap}
/-! ### _law_format -/
abbrev sFmt : Stmt := top 39
abbrev nFmt : List Str := ["_law_rng_here", "_law_cap", "_law_paper", "_law_tells", "_law_marks_here", "_law_way", "_law_found"]
abbrev psFmt : List Str := ["_law_rng_here", "_law_cap", "_law_paper", "_law_tells", "_law_marks_here"]
theorem scFmt : FnScope nFmt psFmt (defScope sFmt) := ⟨rfl, rfl, rfl, by decide +kernel, rfl, by decide +kernel, by decide +kernel⟩
def spFmt : Sp := fun vs H Q _ => ∃ (r pc pt pm : Addr) (cap : Nat) (cs ts : List Nat) (ms : List (List Nat)), vs = [.ref r, .int cap, .ref pc, .ref pt, .ref pm] ∧ 4 ≤ cap ∧ cap ≤ 12 ∧ Pal cs ts ms ∧ cs.Nodup ∧ 3 ≤ cs.length ∧ 2 ≤ ts.length ∧ 2 ≤ ms.length ∧ H r = some (rngO r) ∧
  H pc = some (.lst (cs.map ltV)) ∧ H pt = some (.lst (ts.map ltV)) ∧ H pm = some (.lst (ms.map txtV)) ∧
  ∀ (t : Addr) (rows : List Rw) (ends : List Int) (start : Int) (H' : Hp), WfR cs ts ms rows ends start → rows.length ≤ cap → Same H H' → ModAt H' t rows ends start → Q (.ref t) H'
theorem ok_fmt {f : Addr} {fd : FuncData} (F : Fun K "_law_format" "_law_format" sFmt f fd) (D : Cal P w K mg base "_law_draw" 1 ["_law_rng_here", "_law_many"] spDraw) (An : Cal P w K mg base "_law_any_format" 3 psAny spAny) (Fa : Cal P w K mg base "_law_family" 1 psFam spFam) (Be : Cal P w K mg base "_law_bent" 3 psBent spBent) : FnOk P w K mg base CX0 4 f fd psFmt spFmt := by
  refine F.ok scFmt (fun vs H Q E h => ?_) (fun cdv A outer s H vs Q E hr h => ?_)
  · obtain ⟨r, pc, pt, pm, cap, cs, ts, ms, rfl, _⟩ := h
    rfl
  · obtain ⟨r, pc, pt, pm, cap, cs, ts, ms, rfl, c4, c12, PA', cnd, c3, t2, m2, hR, hc, ht, hm, k⟩ := h
    have hr1 := hr.mono (by decide : 1 ≤ 3)
    refine ⟨_, pss_cons (ps_set (i := 5) scFmt.nd rfl (.inl rfl) (pe_cal D hr1 (pa_cons (pv 0) (pa_cons pe_int pa_nil))))
      (pss_cons (ps_if (pt_cmpR op_lt (pv 5) pe_int (nomark _))
        (pss_one (ps_ret (pe_cal An hr (pa_cons (pv 0) (pa_cons (pv 1) (pa_cons (pv 2) (pa_cons (pv 3) (pa_cons (pv 4) pa_nil)))))))) pss_nil)
      (pss_cons (ps_set (i := 6) scFmt.nd rfl (.inl rfl) (pe_cal Fa hr1 (pa_cons (pe_cal D hr1 (pa_cons (pv 0) (pa_cons pe_int pa_nil))) (pa_cons (pv 2) (pa_cons (pv 3) (pa_cons (pv 4) pa_nil))))))
      (pss_one (ps_ret (pe_ifExp (pt_cmpR op_lt (pv 5) pe_int (nomark _)) (pv 6) (pe_cal Be hr (pa_cons (pv 0) (pa_cons (pv 6) (pa_cons (pv 2) (pa_cons (pv 3) (pa_cons (pv 4) pa_nil))))))))))), ?_⟩
    refine ⟨_, rfl, r, _, rfl, by decide, by decide, hR, fun d H1 d0 d1 e1 => ⟨_, rfl, _, _, rfl, rfl, _, rfl, ite2 (fun hd => ?_) (fun hd => ?_)⟩⟩
    · exact ⟨_, rfl, _, rfl, _, rfl, _, rfl, _, rfl, r, pc, pt, pm, cap, cs, ts, ms, rfl, by omega, c12, PA', cnd, e1 _ _ hR, e1 _ _ hc, e1 _ _ ht, e1 _ _ hm, fun t rows ends start H2 W hl _ e2 M => k t rows ends start H2 W hl (e1.trans e2) M⟩
    refine ⟨_, rfl, r, _, rfl, by decide, by decide, e1 _ _ hR, fun d' H2 d0' d1' e2 => ?_⟩
    have e12 := e1.trans e2
    refine ⟨_, rfl, _, rfl, _, rfl, d', pc, pt, pm, cs, ts, ms, rfl, c3, t2, m2, cnd, e12 _ _ hc, e12 _ _ ht, e12 _ _ hm, fun t rows ends H3 W hl e3 M => ?_⟩
    have e13 := e12.trans e3
    refine ⟨_, rfl, _, _, rfl, rfl, _, rfl, ite2 (fun hd2 => ?_) (fun hd2 => ?_)⟩
    · exact ⟨_, rfl, k t rows ends 0 H3 W (by omega) e13 M⟩
    · exact ⟨_, rfl, _, rfl, _, rfl, _, rfl, _, rfl, r, t, pc, pt, pm, cs, ts, ms, rows, ends, 0, rfl, PA', by omega, e13 _ _ hR, e13 _ _ hc, e13 _ _ ht, e13 _ _ hm, W, M, fun t' rows' H4 W' hl' e4 M' => k t' rows' ends 0 H4 W' (by omega) (e13.trans e4) M'⟩
end
end SS

set_option maxRecDepth 100000
set_option maxHeartbeats 4000000
namespace SR
open PySem PySem.Spec PyProof.Rows L2
/-! A list or a tuple, or a tuple of the written part (a default). -/
def KTup (K : PySem.W.Frag) (a : Addr) (xs : List V) : Prop := ∃ (o : Obj) (its : Array Value) (n : Nat), K.lookup a = some o ∧ o.cls = .type "tuple" ∧ o.data = .seq its n ∧ its.size ≤ sizeLine ∧ Vals xs its.toList
def LoQ (K : PySem.W.Frag) (H : Hp) (a : Addr) (xs : List V) : Prop := LoT H a xs ∨ KTup K a xs
theorem LoQ.mono {K : PySem.W.Frag} {H H' : Hp} {a : Addr} {xs : List V} (e : Same H H') (h : LoQ K H a xs) : LoQ K H' a xs := h.imp (·.mono e) id
theorem LoQ.seq {K : PySem.W.Frag} {H : Hp} {a : Addr} {xs : List V} (h : LoQ K H a xs) : SqL K H a xs ∨ SqT K H a xs := h.elim LoT.seq fun k => .inr (.inr k)
theorem isi_LQ {K : PySem.W.Frag} {H : Hp} {a : Addr} {xs : List V} (h : LoQ K H a xs) : ∃ t, TyX K H (.ref a) t ∧ PySem.W.kitAny K t [.type "list", .type "tuple"] = some true := by
  rcases h with h | ⟨o, its, n, h1, h2, _⟩
  · exact isi_LT h
  · exact ⟨_, .kTuple h1 h2, kitAny_cons (kit_ty (b := "list") (r := false) (by decide +kernel)) (fun _ => kitAny_cons (kit_ty (b := "tuple") (r := true) (by decide +kernel)) nofun fun _ => rfl) nofun⟩
def iLoQ (K : PySem.W.Frag) (tl : TE) : TI := fun σ H R => tl σ H fun x H1 => ∃ a xs, x = .ref a ∧ LoQ K H1 a xs ∧ ∀ (J : It) (G : Hp → Prop), Walk J xs.length G (YAt xs) → (∀ H', Same H1 H' → G H') → R J H1
theorem pi_loq {X : Cx} {tg l : Expr} {tl : TE} (hl : PE X l tl) : PI X tg l (iLoQ X.K tl) := by
  refine ⟨fun pins s σ H R I h => ?_⟩
  refine thn (hl.run pins s σ H _ I h) fun v s1 ⟨x, H1, I1, r1, q1⟩ => ?_
  obtain ⟨a, xs, e, hq, q⟩ := q1
  subst e
  cases r1
  have tp : ∀ hq' : SqT X.K H1 a xs, (∀ H', Same H1 H' → SqT X.K H' a xs) → wpAny (model X.prog X.w) X.A (pyIter (.ref a)) (PIE X pins σ tg R) X.xe s1 := fun hq' hs => by
    obtain ⟨its, rv, p, hz⟩ := I1.tuple hq'
    refine wpAny_pyIter_tuple (show s1.heap.IsTuple a its.toArray from p) ?_
    exact pi_one (tk := s1.toks) I1 _ (turn_tuple a _) ⟨_, Heap.get?_push_size _ rfl, rfl, rfl⟩ (q (Itt X.K a) _ walk_tup hs)
  rcases hq with (hq | hq) | hq
  · have hq' : SqL X.K H1 a xs := SqL.of hq
    obtain ⟨its, rv, p, hz⟩ := I1.list hq'
    refine wpAny_pyIter_list p.isList ?_
    exact pi_one (tk := s1.toks) I1 _ (turn_list a _) ⟨_, Heap.get?_push_size _ rfl, rfl, rfl⟩ (q (Itl X.K a) _ walk_list fun H' e => e.seq hq')
  · exact tp (SqT.of hq) fun H' e => SqT.of (e _ _ hq)
  · exact tp (.inr hq) fun H' e => .inr hq
end SR

set_option maxRecDepth 100000
set_option maxHeartbeats 4000000
set_option pp.maxSteps 1500
namespace SS
open PySem L2 SR TL
theorem all_true : ∀ n : Nat, (List.replicate n true).all id = true
  | 0 => rfl
  | n + 1 => by rw [List.replicate_succ, List.all_cons, all_true n]; rfl
/-- the constants of the program -/
structure Cn (mg : Str → Option Value) : Prop where
  letters : ∃ t, mg "LETTERS" = some (.str (Str.ofString "abcdefghijklmnopqrstuvwxyz") t)
  longest : ∃ t, mg "LONGEST_NAME" = some (.int 8 t)
  page : ∃ t, mg "MOST_PAGE_SIGNS" = some (.int 6 t)
  text : ∃ t, mg "MOST_TEXT_SIGNS" = some (.int 4 t)
  marks : ∃ t, mg "MOST_MARKS" = some (.int 6 t)
section
variable {P : Program} {w : World} {K : PySem.W.Frag} {mg : Str → Option Value} {base : Heap}
/-! ### is_word -/
abbrev sWord : Stmt := top 12
abbrev nWord : List Str := ["value", "letter"]
abbrev psWord : List Str := ["value"]
theorem scWord : FnScope nWord psWord (defScope sWord) := ⟨rfl, rfl, rfl, by decide +kernel, rfl, by decide +kernel, by decide +kernel⟩
def spWord : Sp := fun vs H Q _ => ∃ v, vs = [v] ∧ ((NonStr H v ∧ Q (.bl false) H) ∨ ∃ x, v = .str (txt x) ∧ x.length ≤ 1000 ∧ ∀ b H', (b = true ↔ Lets x) → Same H H' → Q (.bl b) H')
theorem ok_word {f : Addr} {fd : FuncData} (F : Fun K "is_word" "is_word" sWord f fd) (B : Bl mg) (C : Cn mg) : FnOk P w K mg base CX0 1 f fd ["value"] spWord := by
  obtain ⟨tl, hl⟩ := C.letters
  refine F.ok scWord (fun vs H Q E h => ?_) (fun cdv A outer s H vs Q E hr h => ?_)
  · obtain ⟨v, rfl, _⟩ := h
    rfl
  · obtain ⟨v, rfl, k⟩ := h
    refine ⟨_, pss_one (ps_ret (pe_and (pe_callB call_isi (by rfl) B.isinstance (by decide +kernel) (pa_cons (pv 0) (pa_cons (pe_bltn (v := .ty "str") (by rfl) B.str (by decide +kernel) rfl) pa_nil)))
      (pe_one (pe_callB (cr_all rfl) (by rfl) B.all (by decide +kernel) (pa_cons (pe_lc (own := [("letter", 1)]) (g := gName 1) (tt := tYes) (te := tOp rInSg (tVar 1) (tC (.str (Str.ofString "abcdefghijklmnopqrstuvwxyz")))) rfl scWord.nd (pi_str (pv 0)) (blkOk_by (by kernel_rfl))
        (fun _ _ _ _ _ => pg_name (i := 1) scWord.nd rfl (.inl rfl)) (fun _ _ _ _ _ => pts_nil) (fun _ _ _ _ _ => pe_cmpR op_in_sign (pv 1) (pe_glob rfl hl ⟨tl, rfl⟩) (by rfl))) pa_nil))))), ?_⟩
    rcases k with ⟨hn, k⟩ | ⟨x, rfl, hx, k⟩
    · obtain ⟨t, h1, h2⟩ := hn.isi (K := K)
      exact ⟨_, rfl, _, _, t, _, false, rfl, .ty "str", h1, h2, false, rfl, k⟩
    · refine ⟨_, rfl, _, _, _, _, true, rfl, .ty "str", .base (.str _), kit_ty (by decide +kernel), true, rfl, ?_⟩
      have hz : (txt x).cps.size = x.length := by simp [txt]
      refine ⟨_, rfl, _, rfl, fun D hD => lc_S walk_str hD (by rw [hz]; omega) (fun i acc _ => acc = ((x.take i).map fun c => decide (97 ≤ c ∧ c < 123)).map V.bl) (fun _ _ _ _ _ _ _ h => h) rfl (fun _ _ => trivial) ?_ ?_⟩
      · rintro i v H3 H3' acc Qt Qf hi e3 hd rfl ⟨rfl, c, hc, rfl⟩ kt kf
        have hc' : x[i]? = some c := by simpa [txt] using hc
        refine ⟨rfl, _, rfl, c, _, rfl, rfl, kt _ _ (Same.refl _) ?_⟩
        have et : x.take (i + 1) = x.take i ++ [c] := by rw [List.take_add_one, hc']; rfl
        rw [et, List.map_append, List.map_append]
        have : decide (c ∈ (Str.ofString "abcdefghijklmnopqrstuvwxyz").cps.toList) = decide (97 ≤ c ∧ c < 123) := decide_eq_decide.mpr (in26 c)
        rw [this]
        rfl
      · rintro H1 acc e1 hd rfl
        rw [hz, List.take_length] at hd
        refine ⟨D, _, rfl, SqL.of hd, k _ _ ?_ e1⟩
        rw [List.all_eq_true]
        constructor
        · intro h c hc
          exact of_decide_eq_true (h _ (List.mem_map.mpr ⟨c, hc, rfl⟩))
        · intro h b hb
          obtain ⟨c, hc, rfl⟩ := List.mem_map.mp hb
          exact decide_eq_true (h c hc)
/-! ### is_sign, is_mark, is_name -/
abbrev sSign : Stmt := top 13
abbrev nSign : List Str := ["value"]
abbrev psSign : List Str := ["value"]
theorem scSign : FnScope nSign psSign (defScope sSign) := ⟨rfl, rfl, rfl, by decide +kernel, rfl, by decide +kernel, by decide +kernel⟩
def spSign : Sp := fun vs H Q _ => ∃ x, vs = [txtV x] ∧ Lets x ∧ x.length ≤ 1000 ∧ ∀ H', Same H H' → Q (.bl (decide (x.length = 1))) H'
theorem ok_sign {f : Addr} {fd : FuncData} (F : Fun K "is_sign" "is_sign" sSign f fd) (B : Bl mg) (Wd : Cal P w K mg base "is_word" 1 ["value"] spWord) : FnOk P w K mg base CX0 2 f fd ["value"] spSign := by
  refine F.ok scSign (fun vs H Q E h => ?_) (fun cdv A outer s H vs Q E hr h => ?_)
  · obtain ⟨x, rfl, _⟩ := h
    rfl
  · obtain ⟨x, rfl, hx, hl, k⟩ := h
    refine ⟨_, pss_one (ps_ret (pe_and (pe_cal Wd hr (pa_cons (pv 0) pa_nil)) (pe_one (pe_cmpR op_eq (pe_callB call_len_str (by rfl) B.len boot_len (pa_cons (pv 0) pa_nil)) pe_int (nomark _))))), ?_⟩
    refine ⟨_, rfl, _, rfl, .inr ⟨x, rfl, hl, fun b H1 hb e1 => ?_⟩⟩
    have hb' : b = true := hb.mpr hx
    subst hb'
    refine ⟨true, rfl, ?_⟩
    refine ⟨_, rfl, _, rfl, by rw [txt_len, sizeLine_eq]; omega, rfl, ?_⟩
    rw [show decide (V.int ((txt x).length : Nat) = V.int 1) = decide (x.length = 1) by
      rw [txt_len, decide_eq_decide]
      exact ⟨fun h => by have := V.int.inj h; omega, fun h => by rw [h]; rfl⟩]
    exact k _ e1
abbrev sMark : Stmt := top 14
abbrev nMark : List Str := ["value"]
abbrev psMark : List Str := ["value"]
theorem scMark : FnScope nMark psMark (defScope sMark) := ⟨rfl, rfl, rfl, by decide +kernel, rfl, by decide +kernel, by decide +kernel⟩
def spMark : Sp := fun vs H Q _ => ∃ x, vs = [txtV x] ∧ Lets x ∧ x.length ≤ 1000 ∧ ∀ H', Same H H' → Q (.bl (decide (1 < x.length ∧ x.length ≤ 8))) H'
theorem ok_mark {f : Addr} {fd : FuncData} (F : Fun K "is_mark" "is_mark" sMark f fd) (B : Bl mg) (C : Cn mg) (Wd : Cal P w K mg base "is_word" 1 ["value"] spWord) : FnOk P w K mg base CX0 2 f fd ["value"] spMark := by
  obtain ⟨tl, hlo⟩ := C.longest
  refine F.ok scMark (fun vs H Q E h => ?_) (fun cdv A outer s H vs Q E hr h => ?_)
  · obtain ⟨x, rfl, _⟩ := h
    rfl
  · obtain ⟨x, rfl, hx, hl, k⟩ := h
    refine ⟨_, pss_one (ps_ret (pe_and (pe_cal Wd hr (pa_cons (pv 0) pa_nil)) (pe_one (pe_chain op_lt op_le pe_int (pe_callB call_len_str (by rfl) B.len boot_len (pa_cons (pv 0) pa_nil)) (pe_glob (v := .int 8) rfl hlo ⟨tl, rfl⟩))))), ?_⟩
    refine ⟨_, rfl, _, rfl, .inr ⟨x, rfl, hl, fun b H1 hb e1 => ?_⟩⟩
    have hb' : b = true := hb.mpr hx
    subst hb'
    refine ⟨true, rfl, ?_⟩
    refine ⟨_, rfl, _, rfl, by rw [txt_len, sizeLine_eq]; omega, _, _, rfl, rfl, _, rfl, ?_⟩
    rw [txt_len]
    by_cases h1 : 1 < x.length
    · rw [show decide ((1 : Int) < (x.length : Nat)) = true from decide_eq_true (by omega)]
      refine ⟨_, _, rfl, rfl, ?_⟩
      show Q (.bl (decide (((x.length : Nat) : Int) ≤ 8))) _
      rw [show decide (((x.length : Nat) : Int) ≤ 8) = decide (1 < x.length ∧ x.length ≤ 8) by rw [decide_eq_decide]; omega]
      exact k _ e1
    · rw [show decide ((1 : Int) < (x.length : Nat)) = false from decide_eq_false (by omega)]
      have := k _ e1
      rw [show decide (1 < x.length ∧ x.length ≤ 8) = false from decide_eq_false (by omega)] at this
      exact this
abbrev sName : Stmt := top 15
abbrev nName : List Str := ["value"]
abbrev psName : List Str := ["value"]
theorem scName : FnScope nName psName (defScope sName) := ⟨rfl, rfl, rfl, by decide +kernel, rfl, by decide +kernel, by decide +kernel⟩
def spName : Sp := fun vs H Q _ => ∃ x, vs = [txtV x] ∧ Lets x ∧ x.length ≤ 1000 ∧ ∀ H', Same H H' → Q (.bl (decide (1 ≤ x.length ∧ x.length ≤ 8))) H'
theorem ok_name {f : Addr} {fd : FuncData} (F : Fun K "is_name" "is_name" sName f fd) (Sg : Cal P w K mg base "is_sign" 2 ["value"] spSign) (Mk : Cal P w K mg base "is_mark" 2 ["value"] spMark) : FnOk P w K mg base CX0 3 f fd ["value"] spName := by
  refine F.ok scName (fun vs H Q E h => ?_) (fun cdv A outer s H vs Q E hr h => ?_)
  · obtain ⟨x, rfl, _⟩ := h
    rfl
  · obtain ⟨x, rfl, hx, hl, k⟩ := h
    refine ⟨_, pss_one (ps_ret (pe_or (pe_cal Sg hr (pa_cons (pv 0) pa_nil)) (pe_one (pe_cal Mk hr (pa_cons (pv 0) pa_nil))))), ?_⟩
    refine ⟨_, rfl, x, rfl, hx, hl, fun H1 e1 => ⟨_, rfl, ite2 (fun h => ?_) (fun h => ?_)⟩⟩
    · have := k _ e1
      rw [show decide (1 ≤ x.length ∧ x.length ≤ 8) = true from decide_eq_true (by have := of_decide_eq_true h; omega)] at this
      exact this
    · refine ⟨_, rfl, x, rfl, hx, hl, fun H2 e2 => ?_⟩
      have h' : ¬ x.length = 1 := fun z => h (decide_eq_true z)
      have := k _ (e1.trans e2)
      rw [show decide (1 ≤ x.length ∧ x.length ≤ 8) = decide (1 < x.length ∧ x.length ≤ 8) by rw [decide_eq_decide]; omega] at this
      exact this
/-! ### is_below, are_different -/
abbrev sNum : Stmt := top 16
abbrev nNum : List Str := ["value", "limit"]
abbrev psNum : List Str := ["value", "limit"]
theorem scNum : FnScope nNum psNum (defScope sNum) := ⟨rfl, rfl, rfl, by decide +kernel, rfl, by decide +kernel, by decide +kernel⟩
def spNum : Sp := fun vs H Q _ => ∃ i m, vs = [.int i, .int m] ∧ 0 ≤ i ∧ i < m ∧ Q (.bl true) H
theorem ok_num {f : Addr} {fd : FuncData} (F : Fun K "is_below" "is_below" sNum f fd) (B : Bl mg) : FnOk P w K mg base CX0 1 f fd ["value", "limit"] spNum := by
  refine F.ok scNum (fun vs H Q E h => ?_) (fun cdv A outer s H vs Q E hr h => ?_)
  · obtain ⟨i, m, rfl, _⟩ := h
    rfl
  · obtain ⟨i, m, rfl, i0, i1, k⟩ := h
    refine ⟨_, pss_one (ps_ret (pe_and (pe_callB call_isi (by rfl) B.isinstance (by decide +kernel) (pa_cons (pv 0) (pa_cons (pe_bltn (v := .ty "int") (by rfl) B.int (by decide +kernel) rfl) pa_nil)))
      (pe_and (pe_not (pe_callB call_isi (by rfl) B.isinstance (by decide +kernel) (pa_cons (pv 0) (pa_cons (pe_bltn (v := .ty "bool") (by rfl) B.bool (by decide +kernel) rfl) pa_nil))))
        (pe_one (pe_chain op_le op_lt pe_int (pv 0) (pv 1)))))), ?_⟩
    refine ⟨_, rfl, _, _, _, _, true, rfl, .ty "int", .base (.int i), kit_ty (by decide +kernel), true, rfl, ?_⟩
    refine ⟨_, rfl, _, _, _, _, false, rfl, .ty "bool", .base (.int i), kit_ty (by decide +kernel), false, rfl, true, rfl, ?_⟩
    refine ⟨_, rfl, _, _, rfl, rfl, _, rfl, ?_⟩
    rw [decide_eq_true i0]
    refine ⟨_, rfl, _, _, rfl, rfl, ?_⟩
    show Q (.bl (decide (i < m))) H
    rw [decide_eq_true i1]
    exact k
abbrev sSta : Stmt := top 17
abbrev nSta : List Str := ["value", "limit", "one"]
abbrev psSta : List Str := ["value", "limit"]
theorem scSta : FnScope nSta psSta (defScope sSta) := ⟨rfl, rfl, rfl, by decide +kernel, rfl, by decide +kernel, by decide +kernel⟩
def spSta (K : PySem.W.Frag) : Sp := fun vs H Q _ => ∃ (a : Addr) (m : Int) (es : List Int), vs = [.ref a, .int m] ∧ es.length ≤ 100 ∧ es.Nodup ∧ (∀ g ∈ es, 0 ≤ g ∧ g < m) ∧ LoQ K H a (es.map .int) ∧ ∀ H', Same H H' → Q (.bl true) H'
theorem ok_sta {f : Addr} {fd : FuncData} (F : Fun K "are_different" "are_different" sSta f fd) (B : Bl mg) (N : Cal P w K mg base "is_below" 1 ["value", "limit"] spNum) : FnOk P w K mg base CX0 2 f fd ["value", "limit"] (spSta K) := by
  refine F.ok scSta (fun vs H Q E h => ?_) (fun cdv A outer s H vs Q E hr h => ?_)
  · obtain ⟨a, m, es, rfl, _⟩ := h
    rfl
  · obtain ⟨a, m, es, rfl, hl, nd, hg, ha, k⟩ := h
    refine ⟨_, pss_cons (ps_if (PW.pt (pw_or (pt_not (pt_val (pe_callB call_isiT (by rfl) B.isinstance (by decide +kernel) (pa_cons (pv 0) (pa_cons (pe_tup (pa_cons (pe_bltn (v := .ty "list") (by rfl) B.list (by decide +kernel) rfl) (pa_cons (pe_bltn (v := .ty "tuple") (by rfl) B.tuple (by decide +kernel) rfl) pa_nil))) pa_nil)))))
          (pw_or1 (pt_not (pt_val (pe_callB (cr_all rfl) (by rfl) B.all (by decide +kernel) (pa_cons (pe_lc (own := [("one", 2)]) (g := gName 2) (tt := tYes) (te := tCall spNum [] E0 (tCons (tVar 2) (tCons (tVar 1) tNil))) rfl scSta.nd (pi_loq (pv 0)) (blkOk_by (by kernel_rfl))
            (fun _ _ _ _ _ => pg_name (i := 2) scSta.nd rfl (.inl rfl)) (fun _ _ _ _ _ => pts_nil) (fun _ _ _ _ _ => pe_cal N hr (pa_cons (pv 2) (pa_cons (pv 1) pa_nil)))) pa_nil)))))))
        (pss_one (ps_ret pe_bl)) pss_nil)
      (pss_one (ps_ret (pe_cmpR op_eq (pe_callB cr_lenK (by rfl) B.len boot_len (pa_cons (pe_callTy (cr_setK rfl) (by rfl) B.set (by decide +kernel) (pa_cons (pv 0) pa_nil)) pa_nil)) (pe_callB call_len_seq (by rfl) B.len boot_len (pa_cons (pv 0) pa_nil)) (nomark _)))), ?_⟩
    refine ⟨_, rfl, (by show 2 ≤ sizeLine; decide), fun T hT => ?_⟩
    have e0 : Same H (upd H T (.tup [.ty "list", .ty "tuple"])) := same_new hT
    obtain ⟨t, ty, kt⟩ := isi_LQ (K := K) (ha.mono e0)
    refine ⟨_, T, _, t, _, true, rfl, upd_same, .cons (.ty _) (.cons (.ty _) .nil), ty, kt, true, rfl, ?_⟩
    refine ⟨_, rfl, a, _, rfl, ha.mono e0, fun J G wk hG D hD => lc_S wk hD (by rw [List.length_map]; omega) (fun i acc _ => acc = (List.replicate i true).map V.bl) (fun _ _ _ _ _ _ _ h => h) rfl hG ?_ ?_⟩
    · rintro i v H3 H3' acc Qt Qf hi e3 hd rfl ⟨rfl, hv⟩ kt kf
      rw [List.getElem?_map] at hv
      obtain ⟨g, hg', rfl⟩ := Option.map_eq_some_iff.mp hv
      have hgm := hg g (List.mem_of_getElem? hg')
      refine ⟨rfl, _, rfl, _, rfl, _, _, rfl, hgm.1, hgm.2, kt _ _ (Same.refl _) ?_⟩
      rw [List.replicate_succ', List.map_append]
      rfl
    · rintro H1 acc e1 hd rfl
      refine ⟨D, _, rfl, SqL.of hd, _, rfl, ?_⟩
      rw [all_true]
      have e01 := e0.trans e1
      refine ⟨_, rfl, es.map Sum.inl, .inl ⟨a, rfl, ?_⟩, by rw [List.length_map]; omega, fun p l hp ndl hm hll => ?_⟩
      · have := (ha.mono e01).seq
        rw [show (es.map Sum.inl).map kV = es.map V.int by rw [List.map_map]; rfl]
        exact this
      · have pm : l.Perm (es.map Sum.inl) := (List.perm_ext_iff_of_nodup ndl (List.Pairwise.map _ (fun a b hab e => hab (Sum.inl.inj e)) nd)).mpr hm
        have e2 := e01.trans (same_new (o := SetMO w p l) hp)
        refine ⟨p, l, rfl, upd_same, _, rfl, a, _, rfl, (ha.mono e2).seq, rfl, ?_⟩
        have hh : decide (V.int (l.length : Nat) = V.int ((es.map V.int).length : Nat)) = true := decide_eq_true (by rw [pm.length_eq, List.length_map, List.length_map])
        show Q (.bl (decide (V.int (l.length : Nat) = V.int ((es.map V.int).length : Nat)))) _
        rw [hh]
        exact k _ e2
end
end SS

set_option maxRecDepth 100000
set_option maxHeartbeats 4000000
set_option pp.maxSteps 1500
namespace SS
open PySem L2 SR TL
def rIsN : R2 := fun x y H Q => y = .non ∧ Q (.bl (decide (x = .non))) H
theorem lock_same {H H' : Hp} {q : Addr} {u : HO} {od : Obj} (h : H q = some u) (e : Same (upd H q (.frz od u)) H') : Same H (upd H' q u) := fun b o hb => by
  by_cases hq : b = q
  · subst hq
    rw [upd_same, ← hb, h]
  · rw [upd_ne hq]
    exact e _ _ (by rw [upd_ne hq]; exact hb)
theorem lock_get {H : Hp} {q b : Addr} {u o : HO} {od : Obj} (h : H q = some u) (hb : H b = some o) (n : u ≠ o) : (upd H q (.frz od u)) b = some o := by
  rw [upd_ne fun z => ?_]
  · exact hb
  · rw [z, h] at hb
    exact n (Option.some.inj hb)
theorem tell_non {o : Option (List Nat)} : decide (tellV o = V.non) = decide (o = none) := by
  cases o with
  | none => rfl
  | some x => exact (decide_eq_false (by intro z; cases z)).trans (decide_eq_false (by intro z; cases z)).symm
section
variable {P : Program} {w : World} {K : PySem.W.Frag} {mg : Str → Option Value} {base : Heap}
/-! ### is_move -/
abbrev sMove : Stmt := top 18
abbrev nMove : List Str := ["value", "many"]
abbrev psMove : List Str := ["value", "many"]
theorem scMove : FnScope nMove psMove (defScope sMove) := ⟨rfl, rfl, rfl, by decide +kernel, rfl, by decide +kernel, by decide +kernel⟩
def spMove : Sp := fun vs H Q _ => ∃ (p : Addr) (m : Mv) (n : Int), vs = [.ref p, .int n] ∧ MvAt H p m ∧ 0 ≤ m.1 ∧ m.1 < n ∧ (∀ x, m.2 = some x → Name x) ∧ ∀ H', Same H H' → Q (.bl true) H'
theorem ok_move {f : Addr} {fd : FuncData} (F : Fun K "is_move" "is_move" sMove f fd) (B : Bl mg) (N : Cal P w K mg base "is_below" 1 ["value", "limit"] spNum) (Nm : Cal P w K mg base "is_name" 3 ["value"] spName) : FnOk P w K mg base CX0 4 f fd psMove spMove := by
  refine F.ok scMove (fun vs H Q E h => ?_) (fun cdv A outer s H vs Q E hr h => ?_)
  · obtain ⟨p, m, n, rfl, _⟩ := h
    rfl
  · obtain ⟨p, m, n, rfl, hp, g0, g1, hx, k⟩ := h
    have hr1 := hr.mono (by decide : 1 ≤ 3)
    refine ⟨_, pss_cons (ps_if (PW.pt (pw_or (pt_not (pt_val (pe_callB call_isi (by rfl) B.isinstance (by decide +kernel) (pa_cons (pv 0) (pa_cons (pe_bltn (v := .ty "tuple") (by rfl) B.tuple (by decide +kernel) rfl) pa_nil))))) (pw_or (pt_cmpR op_ne (pe_callB call_len_seq (by rfl) B.len boot_len (pa_cons (pv 0) pa_nil)) pe_int (nomark _)) (pw_or1 (pt_not (pt_val (pe_cal N hr1 (pa_cons (pe_ix ix_tup (pv 0) pe_int (fun _ _ => rfl)) (pa_cons (pv 1) pa_nil)))))))))
        (pss_one (ps_ret pe_bl)) pss_nil)
      (pss_one (ps_ret (pe_or (pe_cmpR op_isN (pe_ix ix_tup (pv 0) pe_int (fun _ _ => rfl)) pe_non (nomark _)) (pe_one (pe_cal Nm hr (pa_cons (pe_ix ix_tup (pv 0) pe_int (fun _ _ => rfl)) pa_nil)))))), ?_⟩
    have sp := SqT.of (K := K) hp
    refine ⟨_, rfl, _, _, _, _, true, rfl, .ty "tuple", .base (.tup hp), kit_ty (by decide +kernel), _, rfl, ?_⟩
    refine ⟨_, rfl, p, _, rfl, .inr sp, rfl, _, rfl, ?_⟩
    refine ite2 (fun h => absurd h (by simp)) (fun _ => ?_)
    refine ⟨_, rfl, p, _, _, _, rfl, rfl, sp, rfl, _, rfl, _, _, rfl, g0, g1, _, rfl, iteF ?_⟩
    refine ⟨_, rfl, p, _, _, _, rfl, rfl, sp, rfl, rfl, _, rfl, ?_⟩
    rw [tell_non]
    cases ho : m.2 with
    | none => exact iteT (k _ (Same.refl _))
    | some x =>
      obtain ⟨n1, n2, n3⟩ := hx x ho
      refine iteF ⟨_, rfl, p, _, _, _, rfl, rfl, sp, rfl, x, by rw [ho]; rfl, n1, by omega, fun H' e => ?_⟩
      rw [decide_eq_true (show 1 ≤ x.length ∧ x.length ≤ 8 from ⟨n2, n3⟩)]
      exact k _ e
/-! ### is_state_dict -/
abbrev sSdi : Stmt := top 19
abbrev nSdi : List Str := ["value", "many", "sign", "move"]
abbrev psSdi : List Str := ["value", "many"]
theorem scSdi : FnScope nSdi psSdi (defScope sSdi) := ⟨rfl, rfl, rfl, by decide +kernel, rfl, by decide +kernel, by decide +kernel⟩
def spSdi : Sp := fun vs H Q _ => ∃ (q : Addr) (row : Rw) (n : Int), vs = [.ref q, .int n] ∧ RwAt H q row ∧ row.length ≤ 100 ∧ (∀ e ∈ row, (97 ≤ e.1 ∧ e.1 < 123) ∧ (0 ≤ e.2.1 ∧ e.2.1 < n) ∧ ∀ x, e.2.2 = some x → Name x) ∧ ∀ H', Same H H' → Q (.bl true) H'
theorem ok_sdi {f : Addr} {fd : FuncData} (F : Fun K "is_state_dict" "is_state_dict" sSdi f fd) (B : Bl mg) (Sg : Cal P w K mg base "is_sign" 2 ["value"] spSign) (Mo : Cal P w K mg base "is_move" 4 psMove spMove) : FnOk P w K mg base CX0 5 f fd psSdi spSdi := by
  refine F.ok scSdi (fun vs H Q E h => ?_) (fun cdv A outer s H vs Q E hr h => ?_)
  · obtain ⟨q, row, n, rfl, _⟩ := h
    rfl
  · obtain ⟨q, row, n, rfl, hq, hl, hrow, k⟩ := h
    have hr2 := hr.mono (by decide : 2 ≤ 4)
    refine ⟨_, pss_one (ps_ret (pe_and (pe_callB call_isi (by rfl) B.isinstance (by decide +kernel) (pa_cons (pv 0) (pa_cons (pe_bltn (v := .ty "dict") (by rfl) B.dict (by decide +kernel) rfl) pa_nil))) (pe_one (pe_callB (cr_all rfl) (by rfl) B.all (by decide +kernel) (pa_cons (pe_lock (pe_lc (own := [("sign", 2), ("move", 3)]) (g := gTup K 2 (gCons (gName 2) (gCons (gName 3) gNil))) (tt := tYes) (te := tAndV (tCall spSign [] E0 (tCons (tVar 2) tNil)) (tCall spMove [] E0 (tCons (tVar 3) (tCons (tVar 1) tNil)))) rfl scSdi.nd (pi_items (pv 0)) (blkOk_by (by kernel_rfl)) (fun _ _ _ _ _ => pg_tup rfl (pgs_cons (pg_name (i := 2) scSdi.nd rfl (.inl rfl)) (pgs_cons (pg_name (i := 3) scSdi.nd rfl (.inl rfl)) pgs_nil))) (fun _ _ _ _ _ => pts_nil) (fun _ _ _ _ _ => pe_and (pe_cal Sg hr2 (pa_cons (pv 2) pa_nil)) (pe_one (pe_cal Mo hr (pa_cons (pv 3) (pa_cons (pv 1) pa_nil))))))) pa_nil))))), ?_⟩
    obtain ⟨kvs, h1, h2⟩ := rw_iff.mp hq
    have hkl : kvs.length = row.length := Paired.length h2
    refine ⟨_, rfl, _, _, _, _, true, rfl, .ty "dict", .base (.dK h1), kit_ty (by decide +kernel), true, rfl, ?_⟩
    refine ⟨q, _, h1, trivial, fun od => ?_⟩
    refine ⟨_, rfl, q, od, kvs, rfl, upd_same, fun D hD => lc_S (walk_items (d := q) (o := od) (kvs := kvs)) hD (by omega) (fun i acc _ => acc = (List.replicate i true).map V.bl) (fun _ _ _ _ _ _ _ h => h) rfl (fun H' e' => e' _ _ upd_same) ?_ ?_⟩
    · rintro i v H3 H3' acc Qt Qf hi e3 hd rfl ⟨T, x, y, rfl, hT, rfl, hx, hy⟩ kt kf
      have hir : i < row.length := by omega
      obtain ⟨kv, hkv, ent⟩ := paired_get i h2 (List.getElem?_eq_getElem hir)
      obtain ⟨en1, p, en2, en3⟩ := ent
      have hx' : x = ltV (row[i]).1 := by
        have := hx
        simp only [hkv, Option.map_some] at this
        rw [← Option.some.inj this, en1]
        rfl
      have hy' : y = .ref p := by
        have := hy
        simp only [hkv, Option.map_some] at this
        rw [← Option.some.inj this, en2]
      subst hx' hy'
      obtain ⟨c0, g0, t0⟩ := hrow _ (List.getElem_mem hir)
      have eT := same_new (o := .tup [ltV (row[i]).1, .ref p]) hT
      refine ⟨T, _, rfl, SqT.of upd_same, rfl, _, _, rfl, _, _, rfl, rfl, rfl, ?_⟩
      refine ⟨_, rfl, [(row[i]).1], rfl, fun c hc => by rw [List.mem_singleton.mp hc]; exact c0, by show 1 ≤ 1000; decide, fun H4 e4 => ⟨_, rfl, iteT ?_⟩⟩
      refine ⟨_, rfl, _, rfl, p, (row[i]).2, n, rfl, e4 _ _ (eT _ _ (e3 _ _ (lock_get h1 en3 (by intro z; cases z)))), g0.1, g0.2, t0, fun H5 e5 => kt _ _ ((eT.trans e4).trans e5) ?_⟩
      rw [List.replicate_succ', List.map_append]
      rfl
    · rintro H1 acc e1 hd rfl
      have nDq : D ≠ q := fun z => by rw [z, upd_same] at hD; cases hD
      refine ⟨e1 _ _ upd_same, D, List.replicate kvs.length true, rfl, SqL.of (by rw [upd_ne nDq]; exact hd), ?_⟩
      rw [all_true]
      exact k _ (lock_same h1 e1)
end
end SS

set_option maxRecDepth 100000
set_option maxHeartbeats 4000000
set_option pp.maxSteps 1500
namespace SS
open PySem L2 SR TL
/-- [.. for row in rows for .. in row], the rows dicts: what is gathered -/
theorem lc2_rows {J : It} {G : Hp → Prop} {ds : List (Addr × List (Key × V))} (w : Walk J ds.length G (YAt (ds.map fun d => V.ref d.1))) {ir : Nat} {vs vs2 : List Nat} {wi2 : TI} {g2 : TG} {tt2 : TT} {te : TE} {σ : St} {H1 : Hp} {D : Addr} {Qd : Hp → Prop} (hD : H1 D = none) (hG : ∀ H, Same H1 H → G H)
    (hds : ∀ d ∈ ds, H1 d.1 = some (.dK d.2)) (part : List (Key × V) → List V) (p0 : part [] = []) (few : ∀ i j d, ds[i]? = some d → j ≤ d.2.length → (((ds.take i).flatMap fun d => part d.2) ++ part (d.2.take j)).length ≤ 1000000)
    (Jk : Addr → Obj → List (Key × V) → It) (Yk : List (Key × V) → Nat → Hp → V → Hp → Prop) (wk : ∀ d od kvs, Walk (Jk d od kvs) kvs.length (fun H => H d = some (.frz od (.dK kvs))) (Yk kvs))
    (hwi : ∀ σ2 H R q od kvs, σ2[ir]? = some (some (.ref q)) → H q = some (.frz od (.dK kvs)) → R (Jk q od kvs) H → wi2 σ2 H R)
    (hst : ∀ d ∈ ds, ∀ (j : Nat) (kv : Key × V), d.2[j]? = some kv → ∀ (v0 : V) (od : Obj) (H : Hp) (y : V) (H6 : Hp) (Qt : V → Hp → Prop) (Qf : Hp → Prop), Same (upd H1 d.1 (.frz od (.dK d.2))) H → Yk d.2 j H y H6 →
      (∀ z H8, Same H H8 → part (d.2.take (j + 1)) = part (d.2.take j) ++ [z] → Qt z H8) → (∀ H8, Same H H8 → part (d.2.take (j + 1)) = part (d.2.take j) → Qf H8) →
      g2 y (wipe ((wipe σ vs).set ir (some v0)) vs2) H6 fun σ3 H7 => wipe σ3 vs2 = wipe ((wipe σ vs).set ir (some v0)) vs2 ∧ tt2 σ3 H7 fun b H8 => if b = true then te σ3 H8 Qt else Qf H8)
    (hσ1 : ∀ v, ((wipe σ vs).set ir (some v))[ir]? = some (some v)) (hσ2 : ∀ v, wipe ((wipe σ vs).set ir (some v)) vs = wipe σ vs)
    (hd : ∀ H, Same H1 H → H D = some (.lst (ds.flatMap fun d => part d.2)) → Qd H) :
    ∃ W : Nat → Nat → Hp → Prop, (∃ m, W 0 m (upd H1 D (.lst []))) ∧ ∀ i m H, W i m H →
      (J.stop i H ∧ Qd H) ∨ (J.go i H ∧ ∃ Nx : Hp → Prop, (∀ H', Nx H' → ∃ m', m' < m ∧ W (i + 1) m' H') ∧ ∀ x H', J.yld i H x H' → gName ir x (wipe σ vs) H' fun σ2 H2 => wipe σ2 vs = wipe σ vs ∧ tYes σ2 H2 fun b H3 =>
        if b = true then (∃ d u, H3 d = some u ∧ Mut (some u) ∧ ∀ od, wi2 σ2 (upd H3 d (.frz od u)) fun J2 H4 => ∃ W2 : Nat → Nat → Hp → Prop, (∃ m, W2 0 m H4) ∧ ∀ j m H5, W2 j m H5 →
          (J2.stop j H5 ∧ H5 d = some (.frz od u) ∧ Nx (upd H5 d u)) ∨ (J2.go j H5 ∧ ∃ N2 : Hp → Prop, (∀ H', N2 H' → ∃ m', m' < m ∧ W2 (j + 1) m' H') ∧ ∀ y H6, J2.yld j H5 y H6 → g2 y (wipe σ2 vs2) H6 fun σ3 H7 => wipe σ3 vs2 = wipe σ2 vs2 ∧ tt2 σ3 H7 fun b H8 =>
            if b = true then te σ3 H8 fun z H9 => ∃ acc, H9 D = some (.lst acc) ∧ acc.length < sizeLine ∧ N2 (upd H9 D (.lst (acc ++ [z]))) else N2 H8)) else Nx H3) := by
  refine ⟨fun i m H => m = ds.length - i ∧ i ≤ ds.length ∧ Same H1 H ∧ H D = some (.lst ((ds.take i).flatMap fun d => part d.2)), ⟨ds.length, by omega, Nat.zero_le _, same_new hD, upd_same⟩, ?_⟩
  rintro i m H ⟨rfl, hi, e, hacc⟩
  by_cases hlt : i < ds.length
  · refine .inr ⟨w.goes i H hlt (hG H e), fun H' => Same H1 H' ∧ H' D = some (.lst ((ds.take (i + 1)).flatMap fun d => part d.2)), fun H' h => ⟨_, by omega, rfl, hlt, h⟩, fun x H' hy => ?_⟩
    obtain ⟨rfl, hx⟩ := w.yields i H x H' hlt (hG H e) hy
    rw [List.getElem?_map, List.getElem?_eq_getElem hlt] at hx
    cases hx
    generalize hq : ds[i] = dd
    have hmem : dd ∈ ds := by rw [← hq]; exact List.getElem_mem hlt
    have hget : ds[i]? = some dd := by rw [List.getElem?_eq_getElem hlt, hq]
    obtain ⟨q, kvs⟩ := dd
    have h1 : H1 q = some (.dK kvs) := hds _ hmem
    refine ⟨hσ2 _, q, _, e _ _ h1, trivial, fun od => hwi _ _ _ q od kvs (hσ1 _) upd_same ?_⟩
    have nqD : D ≠ q := fun z => by rw [z, h1] at hD; cases hD
    refine ⟨fun j m H => m = kvs.length - j ∧ j ≤ kvs.length ∧ Same (upd H1 q (.frz od (.dK kvs))) H ∧ H D = some (.lst (((ds.take i).flatMap fun d => part d.2) ++ part (kvs.take j))), ⟨kvs.length, by omega, Nat.zero_le _, fun b o hb => ?_, ?_⟩, ?_⟩
    · by_cases hbq : b = q
      · subst hbq
        rw [upd_same] at hb ⊢
        exact hb
      · rw [upd_ne hbq] at hb ⊢
        exact e _ _ hb
    · rw [upd_ne nqD, List.take_zero, p0, List.append_nil]
      exact hacc
    rintro j m H5 ⟨rfl, hj, e5, hacc5⟩
    have hfz : H5 q = some (.frz od (.dK kvs)) := e5 _ _ upd_same
    by_cases hjl : j < kvs.length
    · refine .inr ⟨(wk q od kvs).goes j H5 hjl hfz, fun H' => Same (upd H1 q (.frz od (.dK kvs))) H' ∧ H' D = some (.lst (((ds.take i).flatMap fun d => part d.2) ++ part (kvs.take (j + 1)))), fun H' h => ⟨_, by omega, rfl, hjl, h⟩, fun y H6 hy => ?_⟩
      have hY := (wk q od kvs).yields j H5 y H6 hjl hfz hy
      have hDl : (upd H1 q (.frz od (.dK kvs))) D = none := by rw [upd_ne nqD]; exact hD
      refine hst _ hmem j kvs[j] (List.getElem?_eq_getElem hjl) _ od H5 y H6 _ _ e5 hY (fun z H8 e8 hp => ⟨_, e8 _ _ hacc5, ?_, same_upd (e5.trans e8) hDl, ?_⟩) (fun H8 e8 hp => ⟨e5.trans e8, by rw [hp]; exact e8 _ _ hacc5⟩)
      · exact Nat.lt_of_le_of_lt (few i j (q, kvs) hget hj) (by rw [sizeLine_eq]; decide)
      · rw [upd_same, List.append_assoc, ← hp]
    · have ej : j = kvs.length := by omega
      subst ej
      refine .inl ⟨(wk q od kvs).stops H5 hfz, hfz, lock_same h1 e5, ?_⟩
      rw [upd_ne nqD, List.take_add_one, hget, List.flatMap_append, hacc5, List.take_length]
      simp
  · have ei : i = ds.length := by omega
    subst ei
    exact .inl ⟨w.stops H (hG H e), hd H e (by rw [hacc, List.take_length])⟩
end SS

set_option maxRecDepth 100000
set_option maxHeartbeats 4000000
set_option pp.maxSteps 1500
namespace SS
open PySem L2 SR TL
def rNotN : R2 := fun x y H Q => y = .non ∧ Q (.bl (!decide (x = .non))) H
/-- what the rows tell, as it comes -/
def toldsOf (rows : List Rw) : List (List Nat) := rows.flatMap fun row => row.filterMap fun e => e.2.2
def signsOf (rows : List Rw) : List Nat := rows.flatMap fun row => row.map (·.1)
/-- what the move at v tells -/
def toldV (H : Hp) : V → Option (List Nat)
  | .ref p => match H p with
    | some (.tup [_, .str z]) => some z.cps.toList
    | _ => none
  | _ => none
theorem toldV_of {H : Hp} {p : Addr} {m : Mv} (h : MvAt H p m) : toldV H (.ref p) = m.2 := by
  unfold MvAt at h
  unfold toldV
  cases e : m.2 with
  | none => rw [e] at h; simp only [h]; rfl
  | some x => rw [e] at h; simp only [h, tellV, txtV, txt_codes]
def partT (H : Hp) (kvs : List (Key × V)) : List V := kvs.filterMap fun kv => (toldV H kv.2).map txtV
theorem partT_of {H : Hp} : ∀ {kvs : List (Key × V)} {row : Rw}, Paired (EntAt H) kvs row → partT H kvs = (row.filterMap fun e => e.2.2).map txtV
  | _, _, .nil => rfl
  | _, _, .cons (a := kv) (b := e) r t => by
    obtain ⟨k1, p, k2, k3⟩ := r
    unfold partT
    have ih := partT_of t
    unfold partT at ih
    rw [List.filterMap_cons, List.filterMap_cons, ih, k2, toldV_of k3]
    cases e.2.2 <;> rfl
def partS (kvs : List (Key × V)) : List V := kvs.map fun kv => kV kv.1
theorem partS_of {H : Hp} : ∀ {kvs : List (Key × V)} {row : Rw}, Paired (EntAt H) kvs row → partS kvs = (row.map (·.1)).map ltV
  | _, _, .nil => rfl
  | _, _, .cons (a := kv) (b := e) r t => by
    have ih := partS_of t
    unfold partS at ih ⊢
    rw [List.map_cons, ih, r.1]
    rfl
theorem flat_paired {H : Hp} {part : List (Key × V) → List V} {g : Rw → List V} (hp : ∀ {kvs : List (Key × V)} {row : Rw}, Paired (EntAt H) kvs row → part kvs = g row) : ∀ {ds : List (Addr × List (Key × V))} {rows : List Rw}, Paired (fun d row => Paired (EntAt H) d.2 row) ds rows → (ds.flatMap fun d => part d.2) = rows.flatMap g
  | _, _, .nil => rfl
  | _, _, .cons r t => by rw [List.flatMap_cons, List.flatMap_cons, hp r, flat_paired hp t]
/-- rows laid: a list or a tuple of dicts -/
def RowsL (H : Hp) (a : Addr) (rows : List Rw) : Prop := ∃ qs : List Addr, LoT H a (qs.map .ref) ∧ Paired (RwAt H) qs rows
theorem RowsL.mono {H H' : Hp} {a : Addr} {rows : List Rw} (e : Same H H') (h : RowsL H a rows) : RowsL H' a rows := by
  obtain ⟨qs, h1, h2⟩ := h
  exact ⟨qs, h1.mono e, Paired.mono h2 fun a b g => g.mono e⟩
/-- the dicts of the rows -/
theorem RowsL.ds {H : Hp} {a : Addr} {rows : List Rw} (h : RowsL H a rows) : ∃ ds : List (Addr × List (Key × V)), LoT H a (ds.map fun d => V.ref d.1) ∧ (∀ d ∈ ds, H d.1 = some (.dK d.2)) ∧ Paired (fun d row => Paired (EntAt H) d.2 row) ds rows := by
  obtain ⟨qs, h1, h2⟩ := h
  have key : ∀ {qs : List Addr} {rows : List Rw}, Paired (RwAt H) qs rows → ∃ ds : List (Addr × List (Key × V)), qs = ds.map (·.1) ∧ (∀ d ∈ ds, H d.1 = some (.dK d.2)) ∧ Paired (fun d row => Paired (EntAt H) d.2 row) ds rows := by
    intro qs rows h
    induction h with
    | nil => exact ⟨[], rfl, fun d hd => (nomatch hd), .nil⟩
    | @cons q row _ _ r _ ih =>
      obtain ⟨ds, e1, e2, e3⟩ := ih
      obtain ⟨kvs, k1, k2⟩ := rw_iff.mp r
      refine ⟨(q, kvs) :: ds, by rw [e1]; rfl, fun d hd => ?_, .cons k2 e3⟩
      rcases List.mem_cons.mp hd with rfl | hd
      · exact k1
      · exact e2 d hd
  obtain ⟨ds, e1, e2, e3⟩ := key h2
  exact ⟨ds, by rw [e1, List.map_map] at h1; exact h1, e2, e3⟩
theorem flat_len {α β : Type} {f : α → List β} {b : Nat} : ∀ {l : List α}, (∀ x ∈ l, (f x).length ≤ b) → (l.flatMap f).length ≤ l.length * b
  | [], _ => by simp
  | x :: l, h => by
    rw [List.flatMap_cons, List.length_append, List.length_cons, Nat.succ_mul]
    have := h x List.mem_cons_self
    have := flat_len (l := l) fun y hy => h y (List.mem_cons_of_mem _ hy)
    omega
section
variable {P : Program} {w : World} {K : PySem.W.Frag} {mg : Str → Option Value} {base : Heap}
/-! ### told_in -/
abbrev sTol : Stmt := top 20
abbrev nTol : List Str := ["rows", "row", "goal", "told"]
abbrev psTol : List Str := ["rows"]
theorem scTol : FnScope nTol psTol (defScope sTol) := ⟨rfl, rfl, rfl, by decide +kernel, rfl, by decide +kernel, by decide +kernel⟩
def spTol : Sp := fun vs H Q _ => ∃ (a : Addr) (rows : List Rw), vs = [.ref a] ∧ RowsL H a rows ∧ rows.length ≤ 12 ∧ (∀ row ∈ rows, row.length ≤ 6) ∧ (∃ cap : List (List Nat), cap.length < 64 ∧ ∀ x ∈ toldsOf rows, x ∈ cap) ∧
  ∀ (p : Addr) (xs : List (List Nat)) (H' : Hp), H p = none → Same H H' → xs.Nodup → (∀ x, x ∈ xs ↔ x ∈ toldsOf rows) → PyProof.Rows.sortedS (xs.map txt) = true → H' p = some (.lst (xs.map txtV)) → Q (.ref p) H'
theorem ok_tol {f : Addr} {fd : FuncData} (F : Fun K "told_in" "told_in" sTol f fd) (B : Bl mg) : FnOk P w K mg base CX0 1 f fd psTol spTol := by
  refine F.ok scTol (fun vs H Q E h => ?_) (fun cdv A outer s H vs Q E hr h => ?_)
  · obtain ⟨a, rows, rfl, _⟩ := h
    rfl
  · obtain ⟨a, rows, rfl, hR, h12, h6, ⟨cap, hcap, hin⟩, k⟩ := h
    refine ⟨_, pss_one (ps_ret (pe_callB (cr_sortedKS rfl) (by rfl) B.sorted (by decide +kernel) (pa_cons (pe_callTy (cr_setK rfl) (by rfl) B.set (by decide +kernel) (pa_cons (pe_lc2L (own := [("row", 1), ("goal", 2), ("told", 3)]) (vs2 := [2, 3]) (g := gName 1) (tt := tYes) (wi2 := iVals (tVar 1)) (g2 := gTup K 2 (gCons (gName 2) (gCons (gName 3) gNil))) (tt2 := tTest (tOp rNotN (tVar 3) (tC .non))) (te := tVar 3) rfl scTol.nd (pi_lot (pv 0)) (blkOk_by (by kernel_rfl)) (by decide) (fun _ _ _ _ _ => pg_name (i := 1) scTol.nd rfl (.inl rfl)) (fun _ _ _ _ _ => pts_nil) (fun _ _ _ _ _ => pi_values (pv 1)) (fun _ _ _ _ _ => pg_tup rfl (pgs_cons (pg_name (i := 2) scTol.nd rfl (.inl rfl)) (pgs_cons (pg_name (i := 3) scTol.nd rfl (.inl rfl)) pgs_nil))) (fun _ _ _ _ _ => pts_one (pt_cmpR op_notN (pv 3) pe_non (nomark _))) (fun _ _ _ _ _ => pv 3)) pa_nil)) pa_nil))), ?_⟩
    obtain ⟨ds, d1, d2, d3⟩ := hR.ds
    have hdl : ds.length = rows.length := Paired.length d3
    have hkl : ∀ (i : Nat) d row, ds[i]? = some d → rows[i]? = some row → d.2.length = row.length := fun i d row h1 h2 => Paired.length (paired_at d3 h1 h2)
    have hk6 : ∀ d ∈ ds, d.2.length ≤ 6 := fun d hd => by
      obtain ⟨i, hi⟩ := List.mem_iff_getElem?.mp hd
      obtain ⟨row, hrow⟩ : ∃ row, rows[i]? = some row := ⟨_, List.getElem?_eq_getElem (by have := (List.getElem?_eq_some_iff.mp hi).1; omega)⟩
      rw [hkl i d row hi hrow]
      exact h6 row (List.mem_of_getElem? hrow)
    refine ⟨_, rfl, a, _, rfl, d1, fun J G wk hG D hD => ?_⟩
    rw [List.length_map] at wk
    have hpl : ∀ kvs : List (Key × V), (partT H kvs).length ≤ kvs.length := fun kvs => List.length_filterMap_le _ _
    refine lc2_rows wk hD hG d2 (partT H) rfl (fun i j d hd hj => ?_) Itd (fun kvs i H x H' => H' = H ∧ ∃ k, kvs[i]? = some (k, x)) (fun _ _ _ => walk_values) (fun σ2 H R q od kvs hq hfz hR => ⟨_, hq, q, od, kvs, rfl, hfz, hR⟩) ?_ (fun _ => rfl) (fun _ => rfl) ?_
    · have h1 := flat_len (f := fun d : Addr × List (Key × V) => partT H d.2) (b := 6) (l := ds.take i) fun d hd => Nat.le_trans (hpl _) (hk6 d (List.mem_of_mem_take hd))
      have h2 := hpl (d.2.take j)
      have h3 := hk6 d (List.mem_of_getElem? hd)
      rw [List.length_take] at h1 h2
      rw [List.length_append]
      omega
    · rintro d hd j kv hkv v0 od H3 y H6 Qt Qf e3 ⟨rfl, k', hk'⟩ kt kf
      rw [hkv] at hk'
      cases hk'
      obtain ⟨i, hi⟩ := List.mem_iff_getElem?.mp hd
      obtain ⟨row, hrow⟩ : ∃ row, rows[i]? = some row := ⟨_, List.getElem?_eq_getElem (by have := (List.getElem?_eq_some_iff.mp hi).1; omega)⟩
      have pr := paired_at d3 hi hrow
      obtain ⟨e, he, ent⟩ := LiI.paired_get pr hkv
      obtain ⟨k1, p, k2, k3⟩ := ent
      have k2' : y = .ref p := k2
      subst k2'
      have hp3 : MvAt H6 p e.2 := e3 _ _ (lock_get (d2 d hd) k3 (by intro z; cases z))
      refine ⟨p, _, rfl, SqT.of hp3, rfl, _, _, rfl, _, _, rfl, rfl, rfl, ?_⟩
      refine ⟨_, rfl, rfl, _, rfl, ?_⟩
      have et : d.2.take (j + 1) = d.2.take j ++ [(k', .ref p)] := by rw [List.take_add_one, hkv]; rfl
      have ep : partT H (d.2.take (j + 1)) = partT H (d.2.take j) ++ (e.2.2.map txtV).toList := by
        unfold partT
        rw [et, List.filterMap_append]
        congr 1
        simp only [List.filterMap_cons, List.filterMap_nil, toldV_of k3]
        cases e.2.2 <;> rfl
      rw [tell_non]
      cases ho : e.2.2 with
      | none =>
        refine kf _ (Same.refl _) ?_
        rw [ep, ho]
        exact List.append_nil _
      | some x =>
        refine ⟨_, rfl, kt _ _ (Same.refl _) ?_⟩
        rw [ep, ho]
        rfl
    · intro H1 e1 hd1
      rw [flat_paired (g := fun row => (row.filterMap fun e => e.2.2).map txtV) partT_of d3] at hd1
      have hfl : (rows.flatMap fun row => (row.filterMap fun e => e.2.2).map txtV) = (toldsOf rows).map txtV := by
        unfold toldsOf
        rw [List.map_flatMap]
      rw [hfl] at hd1
      have htl : (toldsOf rows).length ≤ 72 := by
        have := flat_len (f := fun row : Rw => row.filterMap fun e => e.2.2) (b := 6) (l := rows) fun row hr => Nat.le_trans (List.length_filterMap_le _ _) (h6 row hr)
        unfold toldsOf
        omega
      refine ⟨(toldsOf rows).map (fun x => (Sum.inr (txt x) : Key)), .inl ⟨D, rfl, .inl (SqL.of (by rw [hd1, List.map_map]; rfl))⟩, by rw [List.length_map]; omega, fun p l hp nd hm hll => ?_⟩
      obtain ⟨xs, rfl, xnd, xm⟩ : ∃ xs : List (List Nat), l = (xs.map txt).map Sum.inr ∧ xs.Nodup ∧ ∀ x, x ∈ xs ↔ x ∈ toldsOf rows := by
        have ex : ∀ l : List Key, (∀ k ∈ l, ∃ x, k = Sum.inr (txt x)) → ∃ xs : List (List Nat), l = (xs.map txt).map Sum.inr := by
          intro l
          induction l with
          | nil => intro _; exact ⟨[], rfl⟩
          | cons k l ih =>
            intro h
            obtain ⟨x, rfl⟩ := h k List.mem_cons_self
            obtain ⟨xs, rfl⟩ := ih fun k' hk' => h k' (List.mem_cons_of_mem _ hk')
            exact ⟨x :: xs, rfl⟩
        obtain ⟨xs, rfl⟩ := ex l fun k hk => by
          obtain ⟨x, _, e⟩ := List.mem_map.mp ((hm k).mp hk)
          exact ⟨x, e.symm⟩
        refine ⟨xs, rfl, ?_, fun x => ?_⟩
        · rw [List.map_map] at nd
          exact List.Pairwise.of_map _ (fun a b h e => h (by rw [e])) nd
        · have := hm (Sum.inr (txt x))
          rw [List.map_map] at this
          constructor
          · intro h
            obtain ⟨y, hy, e⟩ := List.mem_map.mp (this.mp (List.mem_map.mpr ⟨x, h, rfl⟩))
            rw [← txt_inj (Sum.inr.inj e)]
            exact hy
          · intro h
            obtain ⟨y, hy, e⟩ := List.mem_map.mp (this.mpr (List.mem_map.mpr ⟨x, h, rfl⟩))
            rw [← txt_inj (Sum.inr.inj e)]
            exact hy
      have xl : xs.length < 64 := Nat.lt_of_le_of_lt (len_subG xs cap xnd fun x hx => hin x ((xm x).mp hx)) hcap
      refine ⟨p, xs.map txt, rfl, upd_same, by rw [List.length_map]; exact xl, fun ys p2 py so hp2 => ?_⟩
      obtain ⟨zs, rfl⟩ : ∃ zs : List (List Nat), ys = zs.map txt := ⟨ys.map fun y => y.cps.toList, by rw [List.map_map]; exact (List.map_id _).symm.trans (List.map_congr_left fun y _ => txt_of y)⟩
      have pz : zs.Perm xs := by
        have := py.map (fun y : Str => y.cps.toList)
        rw [List.map_map, List.map_map] at this
        have e : ∀ u : List (List Nat), u.map ((fun y : Str => y.cps.toList) ∘ txt) = u := fun u => by
          conv => rhs; rw [← List.map_id u]
          exact List.map_congr_left fun x _ => txt_codes x
        rw [e, e] at this
        exact this
      refine k p2 zs _ ?_ ?_ (pz.nodup_iff.mpr xnd) (fun x => (pz.mem_iff).trans (xm x)) so ?_
      · exact e1.free ((same_new hp).free hp2)
      · exact (e1.trans (same_new hp)).trans (same_new hp2)
      · rw [upd_same, List.map_map]
        rfl
/-! ### signs_in -/
abbrev sSgi : Stmt := top 21
abbrev nSgi : List Str := ["rows", "row", "sign"]
abbrev psSgi : List Str := ["rows"]
theorem scSgi : FnScope nSgi psSgi (defScope sSgi) := ⟨rfl, rfl, rfl, by decide +kernel, rfl, by decide +kernel, by decide +kernel⟩
def spSgi : Sp := fun vs H Q _ => ∃ (a : Addr) (rows : List Rw), vs = [.ref a] ∧ RowsL H a rows ∧ rows.length ≤ 12 ∧ (∀ row ∈ rows, row.length ≤ 6) ∧ (∃ cap : List Nat, cap.length < 64 ∧ ∀ x ∈ signsOf rows, x ∈ cap) ∧
  ∀ (p : Addr) (xs : List Nat) (H' : Hp), H p = none → Same H H' → xs.Nodup → (∀ x, x ∈ xs ↔ x ∈ signsOf rows) → xs.Pairwise (· ≤ ·) → H' p = some (.lst (xs.map ltV)) → Q (.ref p) H'
theorem ok_sgi {f : Addr} {fd : FuncData} (F : Fun K "signs_in" "signs_in" sSgi f fd) (B : Bl mg) : FnOk P w K mg base CX0 1 f fd psSgi spSgi := by
  refine F.ok scSgi (fun vs H Q E h => ?_) (fun cdv A outer s H vs Q E hr h => ?_)
  · obtain ⟨a, rows, rfl, _⟩ := h
    rfl
  · obtain ⟨a, rows, rfl, hR, h12, h6, ⟨cap, hcap, hin⟩, k⟩ := h
    refine ⟨_, pss_one (ps_ret (pe_callB (cr_sortedKS rfl) (by rfl) B.sorted (by decide +kernel) (pa_cons (pe_callTy (cr_setK rfl) (by rfl) B.set (by decide +kernel) (pa_cons (pe_lc2L (own := [("row", 1), ("sign", 2)]) (vs2 := [2]) (g := gName 1) (tt := tYes) (wi2 := iKeys (tVar 1)) (g2 := gName 2) (tt2 := tYes) (te := tVar 2) rfl scSgi.nd (pi_lot (pv 0)) (blkOk_by (by kernel_rfl)) (by decide) (fun _ _ _ _ _ => pg_name (i := 1) scSgi.nd rfl (.inl rfl)) (fun _ _ _ _ _ => pts_nil) (fun _ _ _ _ _ => pi_keys (pv 1)) (fun _ _ _ _ _ => pg_name (i := 2) scSgi.nd rfl (.inl rfl)) (fun _ _ _ _ _ => pts_nil) (fun _ _ _ _ _ => pv 2)) pa_nil)) pa_nil))), ?_⟩
    obtain ⟨ds, d1, d2, d3⟩ := hR.ds
    have hdl : ds.length = rows.length := Paired.length d3
    have hkl : ∀ (i : Nat) d row, ds[i]? = some d → rows[i]? = some row → d.2.length = row.length := fun i d row h1 h2 => Paired.length (paired_at d3 h1 h2)
    have hk6 : ∀ d ∈ ds, d.2.length ≤ 6 := fun d hd => by
      obtain ⟨i, hi⟩ := List.mem_iff_getElem?.mp hd
      obtain ⟨row, hrow⟩ : ∃ row, rows[i]? = some row := ⟨_, List.getElem?_eq_getElem (by have := (List.getElem?_eq_some_iff.mp hi).1; omega)⟩
      rw [hkl i d row hi hrow]
      exact h6 row (List.mem_of_getElem? hrow)
    refine ⟨_, rfl, a, _, rfl, d1, fun J G wk hG D hD => ?_⟩
    rw [List.length_map] at wk
    refine lc2_rows wk hD hG d2 partS rfl (fun i j d hd hj => ?_) Itk (fun kvs i H x H' => H' = H ∧ ∃ k v, kvs[i]? = some (k, v) ∧ x = kV k) (fun _ _ _ => walk_keys) (fun σ2 H R q od kvs hq hfz hR => ⟨_, hq, q, od, rfl, .inl ⟨kvs, hfz, hR⟩⟩) ?_ (fun _ => rfl) (fun _ => rfl) ?_
    · have h1 := flat_len (f := fun d : Addr × List (Key × V) => partS d.2) (b := 6) (l := ds.take i) fun d hd => by unfold partS; rw [List.length_map]; exact hk6 d (List.mem_of_mem_take hd)
      have h3 := hk6 d (List.mem_of_getElem? hd)
      rw [List.length_take] at h1
      rw [List.length_append]
      have h2 : (partS (d.2.take j)).length ≤ 6 := by unfold partS; rw [List.length_map, List.length_take]; omega
      omega
    · rintro d hd j kv hkv v0 od H3 y H6 Qt Qf e3 ⟨rfl, k', v', hk', rfl⟩ kt kf
      rw [hkv] at hk'
      cases hk'
      refine ⟨rfl, _, rfl, kt _ _ (Same.refl _) ?_⟩
      unfold partS
      rw [List.take_add_one, hkv, List.map_append]
      rfl
    · intro H1 e1 hd1
      rw [flat_paired (g := fun row => (row.map (·.1)).map ltV) partS_of d3] at hd1
      have hfl : (rows.flatMap fun row => (row.map (·.1)).map ltV) = (signsOf rows).map ltV := by
        unfold signsOf
        rw [List.map_flatMap]
      rw [hfl] at hd1
      have htl : (signsOf rows).length ≤ 72 := by
        have := flat_len (f := fun row : Rw => row.map (·.1)) (b := 6) (l := rows) fun row hr => by rw [List.length_map]; exact h6 row hr
        unfold signsOf
        omega
      refine ⟨(signsOf rows).map (fun x => (Sum.inr (lt x) : Key)), .inl ⟨D, rfl, .inl (SqL.of (by rw [hd1, List.map_map]; rfl))⟩, by rw [List.length_map]; omega, fun p l hp nd hm hll => ?_⟩
      obtain ⟨xs, rfl, xnd, xm⟩ : ∃ xs : List Nat, l = (xs.map lt).map Sum.inr ∧ xs.Nodup ∧ ∀ x, x ∈ xs ↔ x ∈ signsOf rows := by
        have ex : ∀ l : List Key, (∀ k ∈ l, ∃ x, k = Sum.inr (lt x)) → ∃ xs : List Nat, l = (xs.map lt).map Sum.inr := by
          intro l
          induction l with
          | nil => intro _; exact ⟨[], rfl⟩
          | cons k l ih =>
            intro h
            obtain ⟨x, rfl⟩ := h k List.mem_cons_self
            obtain ⟨xs, rfl⟩ := ih fun k' hk' => h k' (List.mem_cons_of_mem _ hk')
            exact ⟨x :: xs, rfl⟩
        obtain ⟨xs, rfl⟩ := ex l fun k hk => by
          obtain ⟨x, _, e⟩ := List.mem_map.mp ((hm k).mp hk)
          exact ⟨x, e.symm⟩
        refine ⟨xs, rfl, ?_, fun x => ?_⟩
        · rw [List.map_map] at nd
          exact List.Pairwise.of_map _ (fun a b h e => h (by rw [e])) nd
        · have := hm (Sum.inr (lt x))
          rw [List.map_map] at this
          constructor
          · intro h
            obtain ⟨y, hy, e⟩ := List.mem_map.mp (this.mp (List.mem_map.mpr ⟨x, h, rfl⟩))
            rw [← lt_inj (Sum.inr.inj e)]
            exact hy
          · intro h
            obtain ⟨y, hy, e⟩ := List.mem_map.mp (this.mpr (List.mem_map.mpr ⟨x, h, rfl⟩))
            rw [← lt_inj (Sum.inr.inj e)]
            exact hy
      have xl : xs.length < 64 := Nat.lt_of_le_of_lt (len_subG xs cap xnd fun x hx => hin x ((xm x).mp hx)) hcap
      refine ⟨p, xs.map lt, rfl, upd_same, by rw [List.length_map]; exact xl, fun ys p2 py so hp2 => ?_⟩
      obtain ⟨zs, rfl, pz⟩ := perm_lt py
      refine k p2 zs _ ?_ ?_ (pz.nodup_iff.mpr xnd) (fun x => (pz.mem_iff).trans (xm x)) (sorted_lt zs so) ?_
      · exact e1.free ((same_new hp).free hp2)
      · exact (e1.trans (same_new hp)).trans (same_new hp2)
      · rw [upd_same, List.map_map]
        rfl
end
end SS

set_option maxRecDepth 100000
set_option maxHeartbeats 4000000
set_option pp.maxSteps 1500
namespace SS
open PySem L2 SR TL
theorem told_mem {rows : List Rw} {x : List Nat} : x ∈ toldsOf rows ↔ ∃ row ∈ rows, ∃ e ∈ row, e.2.2 = some x := by
  unfold toldsOf
  rw [List.mem_flatMap]
  exact exists_congr fun row => and_congr Iff.rfl List.mem_filterMap
theorem WfR.told_in {cs ts : List Nat} {ms : List (List Nat)} {rows : List Rw} {ends : List Int} {start : Int} (W : WfR cs ts ms rows ends start) {x : List Nat} (h : x ∈ toldsOf rows) : (∃ c ∈ ts, x = [c]) ∨ x ∈ ms := by
  obtain ⟨row, hr, e, he, ex⟩ := told_mem.mp h
  exact W.told row hr e he x ex
theorem WfR.row6 {cs ts : List Nat} {ms : List (List Nat)} {rows : List Rw} {ends : List Int} {start : Int} (W : WfR cs ts ms rows ends start) (A : Pal cs ts ms) {row : Rw} (h : row ∈ rows) : row.length ≤ 6 := by
  have h1 := len_subG (row.map (·.1)) cs (W.nd row h) fun y hy => by
    obtain ⟨e, he, rfl⟩ := List.mem_map.mp hy
    exact W.key row h e he
  rw [List.length_map] at h1
  exact Nat.le_trans h1 A.csn
theorem Pal.name {cs ts : List Nat} {ms : List (List Nat)} (A : Pal cs ts ms) {x : List Nat} (h : (∃ c ∈ ts, x = [c]) ∨ x ∈ ms) : Name x := by
  rcases h with ⟨c, hc, rfl⟩ | h
  · exact ⟨fun b hb => by rw [List.mem_singleton.mp hb]; exact A.tsl c hc, by show 1 ≤ 1; decide, by show 1 ≤ 8; decide⟩
  · obtain ⟨h1, h2, h3⟩ := A.msl x h
    exact ⟨h1, by omega, h3⟩
/-- the class as a name, its constant -/
structure RdM (K : PySem.W.Frag) (mg : Str → Option Value) (C : Addr) : Prop where
  mgC : mg "Reader" = some (.ref C)
  mx : ∃ mc u, ClX.CRead K C mc ∧ ClX.CVal K C mc "MAX_STATES" (.int 12) u
section
variable {P : Program} {w : World} {K : PySem.W.Frag} {mg : Str → Option Value} {base : Heap}
/-! ### reader_problem -/
abbrev sPrb : Stmt := top 22
abbrev nPrb : List Str := ["states", "ends", "start", "index", "row", "things", "thing"]
abbrev psPrb : List Str := ["states", "ends", "start"]
theorem scPrb : FnScope nPrb psPrb (defScope sPrb) := ⟨rfl, rfl, rfl, by decide +kernel, rfl, by decide +kernel, by decide +kernel⟩
def spPrb (K : PySem.W.Frag) : Sp := fun vs H Q _ => ∃ (a e : Addr) (cs ts : List Nat) (ms : List (List Nat)) (rows : List Rw) (ends : List Int) (start : Int), vs = [.ref a, .ref e, .int start] ∧ Pal cs ts ms ∧ WfR cs ts ms rows ends start ∧ RowsL H a rows ∧ LoQ K H e (ends.map .int) ∧ ∀ H', Same H H' → Q .non H'
theorem ok_prb {f C : Addr} {fd : FuncData} (F : Fun K "reader_problem" "reader_problem" sPrb f fd) (B : Bl mg) (Cc : Cn mg) (G : RdM K mg C) (Sd : Cal P w K mg base "is_state_dict" 5 psSdi spSdi) (Sa : Cal P w K mg base "are_different" 2 ["value", "limit"] (spSta K)) (N : Cal P w K mg base "is_below" 1 ["value", "limit"] spNum)
    (Si : Cal P w K mg base "signs_in" 1 psSgi spSgi) (To : Cal P w K mg base "told_in" 1 psTol spTol) (Sg : Cal P w K mg base "is_sign" 2 ["value"] spSign) (Mk : Cal P w K mg base "is_mark" 2 ["value"] spMark) : FnOk P w K mg base CX0 6 f fd psPrb (spPrb K) := by
  obtain ⟨tpg, hpg⟩ := Cc.page
  obtain ⟨ttx, htx⟩ := Cc.text
  obtain ⟨tmk, hmk⟩ := Cc.marks
  obtain ⟨mc, mu, cR, cV⟩ := G.mx
  refine F.ok scPrb (fun vs H Q E h => ?_) (fun cdv A outer s H vs Q E hr h => ?_)
  · obtain ⟨a, e, cs, ts, ms, rows, ends, start, rfl, _⟩ := h
    rfl
  · obtain ⟨a, e, cs, ts, ms, rows, ends, start, rfl, PA', W, hR, hE, k⟩ := h
    have hr1 := hr.mono (by decide : 1 ≤ 5)
    have hr2 := hr.mono (by decide : 2 ≤ 5)
    refine ⟨_, pss_cons (ps_if (PW.pt (pw_or (pt_not (pt_val (pe_callB call_isiT (by rfl) B.isinstance (by decide +kernel) (pa_cons (pv 0) (pa_cons (pe_tup (pa_cons (pe_bltn (v := .ty "list") (by rfl) B.list (by decide +kernel) rfl) (pa_cons (pe_bltn (v := .ty "tuple") (by rfl) B.tuple (by decide +kernel) rfl) pa_nil))) pa_nil))))) (pw_or1 (pt_not (pt_chain op_le op_le pe_int (pe_callB call_len_seq (by rfl) B.len boot_len (pa_cons (pv 0) pa_nil)) (ClX.pe_cval (pe_glob (v := .ref C) rfl G.mgC rfl)))))))
        (pss_one (ps_ret (pe_tup (pa_cons pe_str (pa_cons pe_non pa_nil))))) pss_nil)
      (pss_cons (ps_for PassesOwn.never rfl (pi_enumL (by rfl) B.enumerate (pa_cons (pv 0) pa_nil)) (pg_tup rfl (pgs_cons (pg_name (i := 3) scPrb.nd rfl (.inl rfl)) (pgs_cons (pg_name (i := 4) scPrb.nd rfl (.inl rfl)) pgs_nil)))
        (pss_one (ps_if (pt_not (pt_val (pe_cal Sd hr (pa_cons (pv 4) (pa_cons (pe_callB call_len_seq (by rfl) B.len boot_len (pa_cons (pv 0) pa_nil)) pa_nil)))))
        (pss_one (ps_ret (pe_tup (pa_cons pe_str (pa_cons (pv 3) pa_nil))))) pss_nil)))
      (pss_cons (ps_if (pt_not (pt_val (pe_cal Sa hr2 (pa_cons (pv 1) (pa_cons (pe_callB call_len_seq (by rfl) B.len boot_len (pa_cons (pv 0) pa_nil)) pa_nil)))))
        (pss_one (ps_ret (pe_tup (pa_cons pe_str (pa_cons pe_non pa_nil))))) pss_nil)
      (pss_cons (ps_if (pt_not (pt_val (pe_cal N hr1 (pa_cons (pv 2) (pa_cons (pe_callB call_len_seq (by rfl) B.len boot_len (pa_cons (pv 0) pa_nil)) pa_nil)))))
        (pss_one (ps_ret (pe_tup (pa_cons pe_str (pa_cons pe_non pa_nil))))) pss_nil)
      (pss_cons (ps_if (pt_cmpR op_gt (pe_callB call_len_seq (by rfl) B.len boot_len (pa_cons (pe_cal Si hr1 (pa_cons (pv 0) pa_nil)) pa_nil)) (pe_glob (v := .int 6) rfl hpg ⟨tpg, rfl⟩) (nomark _))
        (pss_one (ps_ret (pe_tup (pa_cons pe_str (pa_cons pe_non pa_nil))))) pss_nil)
      (pss_cons (ps_set (i := 5) scPrb.nd rfl (.inl rfl) (pe_cal To hr1 (pa_cons (pv 0) pa_nil)))
      (pss_cons (ps_if (pt_cmpR op_gt (pe_callB call_len_seq (by rfl) B.len boot_len (pa_cons (pe_lc (own := [("thing", 6)]) (g := gName 6) (tt := tB (tCall spSign [] E0 (tCons (tVar 6) tNil))) (te := tVar 6) rfl scPrb.nd (pi_list (pv 5)) (blkOk_by (by kernel_rfl)) (fun _ _ _ _ _ => pg_name (i := 6) scPrb.nd rfl (.inl rfl)) (fun _ _ _ _ _ => pts_one (pt_val (pe_cal Sg hr2 (pa_cons (pv 6) pa_nil)))) (fun _ _ _ _ _ => pv 6)) pa_nil)) (pe_glob (v := .int 4) rfl htx ⟨ttx, rfl⟩) (nomark _))
        (pss_one (ps_ret (pe_tup (pa_cons pe_str (pa_cons pe_non pa_nil))))) pss_nil)
      (pss_one (ps_ret (pe_ifExp (pt_cmpR op_gt (pe_callB call_len_seq (by rfl) B.len boot_len (pa_cons (pe_lc (own := [("thing", 6)]) (g := gName 6) (tt := tB (tCall spMark [] E0 (tCons (tVar 6) tNil))) (te := tVar 6) rfl scPrb.nd (pi_list (pv 5)) (blkOk_by (by kernel_rfl)) (fun _ _ _ _ _ => pg_name (i := 6) scPrb.nd rfl (.inl rfl)) (fun _ _ _ _ _ => pts_one (pt_val (pe_cal Mk hr2 (pa_cons (pv 6) pa_nil)))) (fun _ _ _ _ _ => pv 6)) pa_nil)) (pe_glob (v := .int 6) rfl hmk ⟨tmk, rfl⟩) (nomark _)) (pe_tup (pa_cons pe_str (pa_cons pe_non pa_nil))) pe_non))))))))), ?_⟩
    have h1 := W.one
    have h12 := W.most
    obtain ⟨qs, q1, q2⟩ := hR
    have hql : qs.length = rows.length := Paired.length q2
    refine ⟨_, rfl, (by show 2 ≤ sizeLine; decide), fun T hT => ?_⟩
    have e2 : Same H (upd H T (.tup [.ty "list", .ty "tuple"])) := same_new hT
    obtain ⟨t, ty, kt⟩ := isi_LT (K := K) (q1.mono e2)
    refine ⟨_, T, _, t, _, true, rfl, upd_same, .cons (.ty _) (.cons (.ty _) .nil), ty, kt, true, rfl, ?_⟩
    refine ⟨_, rfl, a, _, rfl, (q1.mono e2).seq, _, _, rfl, rfl, _, rfl, ?_⟩
    rw [List.length_map, hql]
    rw [decide_eq_true (show (1 : Int) ≤ (rows.length : Nat) by omega)]
    refine ⟨C, mc, _, mu, rfl, cR, cV, _, _, rfl, rfl, _, rfl, ?_⟩
    rw [decide_eq_true (show ((rows.length : Nat) : Int) ≤ 12 by omega)]
    generalize (upd H T (.tup [.ty "list", .ty "tuple"])) = H2 at e2
    refine ⟨_, rfl, a, _, rfl, q1.mono e2, fun J G' wk hG => for_it wk (fun i σ H' => Same H2 H' ∧ ∃ a3 a4 a5 a6, σ = [some (.ref a), some (.ref e), some (.int start), a3, a4, a5, a6]) ⟨Same.refl _, _, _, _, _, rfl⟩ (fun _ _ H' _ p => hG H' p.1) ?_ ?_⟩
    · rintro j v σ H3 H3' hj ⟨e3, b3, b4, b5, b6, rfl⟩ ⟨T2, x, y, rfl, hT2, rfl, ex, ey⟩
      rw [List.length_map] at hj
      cases ex
      dsimp only at ey
      rw [List.getElem?_map] at ey
      obtain ⟨q, hq, rfl⟩ := Option.map_eq_some_iff.mp ey
      have hjr : j < rows.length := by omega
      obtain ⟨q', hq', hrow⟩ := paired_get j q2 (List.getElem?_eq_getElem hjr)
      rw [hq] at hq'
      cases hq'
      have rok := W.row (List.getElem_mem hjr)
      have e4 : Same H3 (upd H3 T2 (.tup [.int (j : Nat), .ref q])) := same_new hT2
      have e5 := e2.trans (e3.trans e4)
      refine ⟨T2, _, rfl, SqT.of upd_same, rfl, _, _, rfl, _, _, rfl, rfl, ?_⟩
      refine ⟨_, rfl, _, rfl, a, _, rfl, (q1.mono e5).seq, q, _, _, rfl, hrow.mono e5, by have := W.row6 PA' (List.getElem_mem hjr); omega, fun en hen => ?_, fun H6 e6 => ⟨_, rfl, iteF ⟨(e3.trans e4).trans e6, _, _, _, _, rfl⟩⟩⟩
      obtain ⟨z1, z2, z3⟩ := rok.2 en hen
      rw [List.length_map, hql]
      exact ⟨PA'.csl _ z1, z2, fun x hx => PA'.name (z3 x hx)⟩
    · rintro σ H3 ⟨e3, b3, b4, b5, b6, rfl⟩
      have e5 := e2.trans e3
      refine ⟨_, rfl, _, rfl, a, _, rfl, (q1.mono e5).seq, e, _, ends, rfl, ?_, W.endN, ?_, hE.mono e5, fun H4 e4 => ⟨_, rfl, iteF ?_⟩⟩
      · exact Nat.le_trans (nodup_len _ _ W.endN W.end0) (by omega)
      · intro g hg
        rw [List.length_map, hql]
        exact W.end0 g hg
      have e6 := e5.trans e4
      refine ⟨_, rfl, _, rfl, a, _, rfl, (q1.mono e6).seq, _, _, rfl, W.st0, by rw [List.length_map, hql]; exact W.st1, _, rfl, iteF ?_⟩
      refine ⟨_, rfl, a, rows, rfl, ⟨qs, q1.mono e6, Paired.mono q2 fun _ _ g => g.mono e6⟩, h12, fun row hrow => W.row6 PA' hrow, ⟨cs, by have := PA'.csn; omega, fun x hx => ?_⟩, fun p xs H5 hp e7 xnd xm xs' hp5 => ?_⟩
      · unfold signsOf at hx
        obtain ⟨row, hrow, hx⟩ := List.mem_flatMap.mp hx
        obtain ⟨en, hen, rfl⟩ := List.mem_map.mp hx
        exact W.key row hrow en hen
      have sgm : ∀ x ∈ xs, x ∈ cs := fun x hx => by
        have := (xm x).mp hx
        unfold signsOf at this
        obtain ⟨row, hrow, hx⟩ := List.mem_flatMap.mp this
        obtain ⟨en, hen, rfl⟩ := List.mem_map.mp hx
        exact W.key row hrow en hen
      have xl : xs.length ≤ 6 := Nat.le_trans (len_subG xs cs xnd sgm) PA'.csn
      refine ⟨p, _, rfl, .inl (SqL.of hp5), _, _, rfl, rfl, _, rfl, ?_⟩
      rw [List.length_map]
      rw [show decide ((6 : Int) < ((xs.length : Nat) : Int)) = false from decide_eq_false (by omega)]
      refine iteF ?_
      have e8 := e6.trans e7
      refine ⟨_, rfl, a, rows, rfl, ⟨qs, q1.mono e8, Paired.mono q2 fun _ _ g => g.mono e8⟩, h12, fun row hrow => W.row6 PA' hrow, ⟨ts.map (fun c => [c]) ++ ms, by have := PA'.tsn; have := PA'.msn; rw [List.length_append, List.length_map]; omega, fun x hx => ?_⟩, fun pt zs H6 hpt e9 znd zm zs' hpt6 => ?_⟩
      · rcases W.told_in hx with ⟨c, hc, rfl⟩ | h
        · exact List.mem_append_left _ (List.mem_map.mpr ⟨c, hc, rfl⟩)
        · exact List.mem_append_right _ h
      have zt : ∀ x ∈ zs, (∃ c ∈ ts, x = [c]) ∨ x ∈ ms := fun x hx => W.told_in ((zm x).mp hx)
      have zl : zs.length ≤ 10 := by
        have := len_subG zs (ts.map (fun c => [c]) ++ ms) znd fun x hx => by
          rcases zt x hx with ⟨c, hc, rfl⟩ | h
          · exact List.mem_append_left _ (List.mem_map.mpr ⟨c, hc, rfl⟩)
          · exact List.mem_append_right _ h
        rw [List.length_append, List.length_map] at this
        have := PA'.tsn
        have := PA'.msn
        omega
      have ea := e8.trans e9
      -- the signs among them
      refine ⟨_, rfl, pt, rfl, ⟨_, SqL.of hpt6⟩, fun D1 hD1 => lc_S (walk_list (K := K) (a := pt) (xs := zs.map txtV)) hD1 (by rw [List.length_map]; omega) (fun j acc _ => acc = ((zs.take j).filter fun x => decide (x.length = 1)).map txtV) (fun _ _ _ _ _ _ _ h => h) rfl (fun H' e' => SqL.of (e' _ _ hpt6)) ?_ ?_⟩
      · rintro j v H7 H7' acc Qt Qf hj e7' hd rfl ⟨rfl, hv⟩ kt kf
        rw [List.getElem?_map] at hv
        obtain ⟨x, hx, rfl⟩ := Option.map_eq_some_iff.mp hv
        obtain ⟨n1, n2, n3⟩ := PA'.name (zt x (List.mem_of_getElem? hx))
        refine ⟨rfl, _, rfl, x, rfl, n1, by omega, fun H8 e8' => ⟨_, rfl, ite2 (fun hb => ?_) (fun hb => ?_)⟩⟩
        · refine ⟨_, rfl, kt _ _ e8' ?_⟩
          rw [List.take_add_one, hx, List.filter_append, List.map_append]
          simp [of_decide_eq_true hb]
        · refine kf _ e8' ?_
          rw [List.take_add_one, hx, List.filter_append, List.map_append]
          have : ¬ x.length = 1 := fun z => hb (decide_eq_true z)
          simp [this]
      rintro H7 acc e10 hd7 rfl
      rw [List.length_map, List.take_length] at hd7
      have f1 : (zs.filter fun x => decide (x.length = 1)).length ≤ 4 := by
        have := len_subG (zs.filter fun x => decide (x.length = 1)) (ts.map fun c => [c]) (znd.filter _) fun x hx => by
          obtain ⟨m1, m2⟩ := List.mem_filter.mp hx
          rcases zt x m1 with ⟨c, hc, rfl⟩ | h
          · exact List.mem_map.mpr ⟨c, hc, rfl⟩
          · have := (PA'.msl x h).2.1
            have := of_decide_eq_true m2
            omega
        rw [List.length_map] at this
        exact Nat.le_trans this PA'.tsn
      refine ⟨D1, _, rfl, .inl (SqL.of hd7), _, _, rfl, rfl, _, rfl, ?_⟩
      rw [List.length_map]
      rw [show decide ((4 : Int) < (((zs.filter fun x => decide (x.length = 1)).length : Nat) : Int)) = false from decide_eq_false (by omega)]
      refine iteF ?_
      have eb := ea.trans e10
      have hpt7 := e10 _ _ hpt6
      -- the marks among them
      refine ⟨_, rfl, pt, rfl, ⟨_, SqL.of hpt7⟩, fun D2 hD2 => lc_S (walk_list (K := K) (a := pt) (xs := zs.map txtV)) hD2 (by rw [List.length_map]; omega) (fun j acc _ => acc = ((zs.take j).filter fun x => decide (1 < x.length ∧ x.length ≤ 8)).map txtV) (fun _ _ _ _ _ _ _ h => h) rfl (fun H' e' => SqL.of (e' _ _ hpt7)) ?_ ?_⟩
      · rintro j v H8 H8' acc Qt Qf hj e7' hd rfl ⟨rfl, hv⟩ kt kf
        rw [List.getElem?_map] at hv
        obtain ⟨x, hx, rfl⟩ := Option.map_eq_some_iff.mp hv
        obtain ⟨n1, n2, n3⟩ := PA'.name (zt x (List.mem_of_getElem? hx))
        refine ⟨rfl, _, rfl, x, rfl, n1, by omega, fun H9 e8' => ⟨_, rfl, ite2 (fun hb => ?_) (fun hb => ?_)⟩⟩
        · refine ⟨_, rfl, kt _ _ e8' ?_⟩
          rw [List.take_add_one, hx, List.filter_append, List.map_append]
          simp [of_decide_eq_true hb]
        · refine kf _ e8' ?_
          rw [List.take_add_one, hx, List.filter_append, List.map_append]
          have : ¬ (1 < x.length ∧ x.length ≤ 8) := fun z => hb (decide_eq_true z)
          simp [this]
      rintro H8 acc e11 hd8 rfl
      rw [List.length_map, List.take_length] at hd8
      have f2 : (zs.filter fun x => decide (1 < x.length ∧ x.length ≤ 8)).length ≤ 6 := by
        have := len_subG (zs.filter fun x => decide (1 < x.length ∧ x.length ≤ 8)) ms (znd.filter _) fun x hx => by
          obtain ⟨m1, m2⟩ := List.mem_filter.mp hx
          rcases zt x m1 with ⟨c, hc, rfl⟩ | h
          · have := (of_decide_eq_true m2).1
            exact absurd this (by show ¬ 1 < 1; decide)
          · exact h
        exact Nat.le_trans this PA'.msn
      refine ⟨D2, _, rfl, .inl (SqL.of hd8), _, _, rfl, rfl, _, rfl, ?_⟩
      rw [List.length_map]
      rw [show decide ((6 : Int) < (((zs.filter fun x => decide (1 < x.length ∧ x.length ≤ 8)).length : Nat) : Int)) = false from decide_eq_false (by omega)]
      exact iteF (k _ (eb.trans e11))
end
end SS

set_option maxRecDepth 100000
set_option maxHeartbeats 4000000
set_option pp.maxSteps 1500
namespace SR
open PySem PySem.Spec PyProof.Rows L2
/-- sorted(xs) of a list or tuple of ints -/
def rSortedLT (K : PySem.W.Frag) : List V → Hp → VK → Prop := fun vs H Q => ∃ (a : Addr) (ns : List Int), vs = [V.ref a] ∧ (SqL K H a (ns.map V.int) ∨ SqT K H a (ns.map V.int)) ∧ ns.length < 64 ∧
  ∀ (ns' : List Int) (p : Addr), ns'.Perm ns → ns'.Pairwise (· ≤ ·) → H p = none → Q (.ref p) (upd H p (.lst (ns'.map V.int)))
theorem cr_sortedLT {X : Cx} : CallR X (.builtin "sorted") (rSortedLT X.K) := by
  intro pins s σ H vs us Q I r h
  obtain ⟨a, ns, rfl, hs | hs, h64, q⟩ := h
  · exact cr_sorted pins s σ H _ us Q I r ⟨a, ns, rfl, hs, h64, q⟩
  obtain ⟨its, rv, pl, hz⟩ := I.tuple hs
  obtain ⟨ob, ho, hc, n, hd⟩ := id pl
  rw [Vals.ref1 r]
  have hi := rv.ints
  have hal : its.length = ns.length := hi.length
  refine Calls.call_function_entry PyProof.Rows.kind_sorted PyProof.Rows.plain_sorted PyProof.Rows.entry_sorted (PyProof.Rows.args_sorted1 _) ?_
  unfold Builtin.«sorted»
  refine wpAny_bind (m := checkCount "sorted" 1 1 _) (wpAny_pure ?_)
  refine wpAny_bind (wpAny_collect_seq a (.inr rfl) ho hc hd (fun h' hk => ?_) (by rw [List.size_toArray, hal, sizeLine_eq]; omega))
  have I1 : Inv X pins σ H { s with heap := h' } := I.kept (t' := s.toks) hk
  refine wpAny_bind (wpAny_newList ?_ (by simp only [List.toList_toArray]; rw [hal, sizeLine_eq]; omega))
  simp only [List.toList_toArray]
  have hoL : (h'.push (seqObj "list" its.toArray 0)).get? h'.objs.size = some (seqObj "list" its.toArray 0) := Heap.get?_push_size _ rfl
  show wpAny _ _ _ _ _ { s with heap := h'.push (seqObj "list" its.toArray 0) }
  refine wpAny_bind (wpAny_holding (wpAny_call_entry PyProof.Rows.slot_list_sort ⟨_, hoL, rfl⟩ PyProof.Rows.entry_list_sort
    (PyProof.Rows.list_sort_tree (s := { s with heap := h'.push (seqObj "list" its.toArray 0) }) hoL hi (by rw [hal]; exact h64) fun out ys g1 g2 g3 => ⟨_, rfl, ?_⟩) (PyProof.Rows.args_list_sort _)))
  obtain ⟨e', he'⟩ := PyProof.Rows.sortedHeap_at (vs := its) (out := out) hoL
  have hlen : (ys.map V.int).length ≤ sizeLine := by
    rw [List.length_map, g2.length_eq]
    exact Nat.le_trans (Nat.le_of_lt h64) (by decide)
  refine wpAny_pure ⟨_, rfl, .ref h'.objs.size, upd H h'.objs.size (.lst (ys.map V.int)), I1.laid (t' := s.toks) (fun b u e => ?_) (Nat.le_refl _)
    (show ObjOk X.prog X.w _ _ _ (.lst (ys.map V.int)) from ⟨hlen, out.toList, e', vals_of_ints g1, by rw [Array.toArray_toList]; exact he'⟩), rfl, q ys _ g2 g3 (I1.hok.fresh (Nat.le_refl _))⟩
  have hb : b < h'.objs.size := Heap.lt_size e
  rw [PyProof.Rows.sortedHeap_old (Nat.ne_of_lt hb) (by rw [size_push']; exact Nat.lt_succ_of_lt hb)]
  exact Heap.get?_push_of_some _ e
end SR

set_option maxRecDepth 100000
set_option maxHeartbeats 4000000
set_option pp.maxSteps 1500
namespace SR
open PySem PySem.Spec PyProof.Rows L2
/-- a def with defaults, by its body -/
theorem okD {P : Program} {w : World} {K : PySem.W.Frag} {mg : Str → Option Value} {base : Heap} {x qual : Str} {st : Stmt} {dvs : List V} {kws : List (Str × V)} {f : Addr} {fd : FuncData} {N ps : List Str} {k : Nat} {sp : Sp} (F : FunD K x qual (defArgs st) (defBody st) (defScope st) dvs kws f fd) (S : FnScope N ps (defScope st)) (len : ∀ vs H Q E, sp vs H Q E → vs.length = ps.length)
    (hbody : ∀ (cdv : Value) (A : Around) (outer : List Env) (s : Shared) (H : Hp) (vs : List V) (Q : VK) (E : XK), Room k (A.deeper (envOfC qual (defScope st) s.heap.objs.size f cdv)) → sp vs H Q E →
      ∃ t, PSs (cxOf CX0 P w K mg base N qual (defScope st) f cdv A outer s H E).nox (defBody st) t ∧ t { nx := fun _ H' => Q .non H', rt := Q } (L2.start N vs) H) : FnOk P w K mg base CX0 (k + 1) f fd ps sp := by
  obtain ⟨oc, od, dW, kW, d1, p1, a1, c1, t1, o1, rfl, lk, hcd, _, _⟩ := F.ex
  exact fn_of lk hcd S len fun A outer s H vs Q E hr hsp => (hbody c1 A outer s H vs Q E hr hsp).imp fun t z => ⟨z.1.nox, z.2⟩
end SR
namespace SS
open PySem L2 SR TL
/-! ### sorted rows, sorted ends -/
def sortR (row : Rw) : Rw := row.mergeSort fun a b => decide (a.1 ≤ b.1)
def sortI (l : List Int) : List Int := l.mergeSort fun a b => decide (a ≤ b)
theorem sortR_perm (row : Rw) : (sortR row).Perm row := List.mergeSort_perm _ _
theorem sortI_perm (l : List Int) : (sortI l).Perm l := List.mergeSort_perm _ _
theorem sortR_ord (row : Rw) : (sortR row).Pairwise fun a b => a.1 ≤ b.1 :=
  (List.pairwise_mergeSort (le := fun a b : Nat × Mv => decide (a.1 ≤ b.1)) (fun a b c h1 h2 => decide_eq_true (Nat.le_trans (of_decide_eq_true h1) (of_decide_eq_true h2))) (fun a b => by simp only [Bool.or_eq_true, decide_eq_true_eq]; omega) row).imp fun h => of_decide_eq_true h
theorem sortI_ord (l : List Int) : (sortI l).Pairwise (· ≤ ·) :=
  (List.pairwise_mergeSort (le := fun a b : Int => decide (a ≤ b)) (fun a b c h1 h2 => decide_eq_true (Int.le_trans (of_decide_eq_true h1) (of_decide_eq_true h2))) (fun a b => by simp only [Bool.or_eq_true, decide_eq_true_eq]; omega) l).imp fun h => of_decide_eq_true h
theorem sortI_uniq {l l' : List Int} (p : l'.Perm l) (s : l'.Pairwise (· ≤ ·)) : l' = sortI l :=
  List.Perm.eq_of_pairwise (fun a b _ _ h1 h2 => Int.le_antisymm h1 h2) s (sortI_ord l) (p.trans (sortI_perm l).symm)
theorem sortR_uniq {row row' : Rw} (nd : (row.map (·.1)).Nodup) (p : row'.Perm row) (s : row'.Pairwise fun a b => a.1 ≤ b.1) : row' = sortR row := by
  refine List.Perm.eq_of_pairwise (le := fun a b : Nat × Mv => a.1 ≤ b.1) (fun a b ha hb h1 h2 => ?_) s (sortR_ord row) (p.trans (sortR_perm row).symm)
  have e : a.1 = b.1 := Nat.le_antisymm h1 h2
  obtain ⟨i, hi, ea⟩ := List.getElem_of_mem (p.mem_iff.mp ha)
  obtain ⟨j, hj, eb⟩ := List.getElem_of_mem ((sortR_perm row).mem_iff.mp hb)
  have : i = j := by
    refine (List.getElem_inj (xs := row.map (·.1)) (h₀ := by rw [List.length_map]; exact hi) (h₁ := by rw [List.length_map]; exact hj) nd).mp ?_
    rw [List.getElem_map, List.getElem_map, ea, eb, e]
  subst this
  rw [← ea, ← eb]
theorem paired_perm {α β : Type} {R : α → β → Prop} {xs xs' : List α} {ys : List β} (h : Paired R xs ys) (p : xs'.Perm xs) : ∃ ys' : List β, ys'.Perm ys ∧ Paired R xs' ys' := by
  have key : ∀ {xs xs' : List α}, xs.Perm xs' → ∀ {ys : List β}, Paired R xs ys → ∃ ys' : List β, ys'.Perm ys ∧ Paired R xs' ys' := by
    intro xs xs' p
    induction p with
    | nil => intro ys h; exact ⟨ys, .refl _, h⟩
    | cons x _ ih =>
      intro ys h
      cases h with
      | cons r t =>
        obtain ⟨zs, z1, z2⟩ := ih t
        exact ⟨_ :: zs, z1.cons _, .cons r z2⟩
    | swap x y l =>
      intro ys h
      cases h with
      | cons r t =>
        cases t with
        | cons r2 t2 => exact ⟨_, List.Perm.swap _ _ _, .cons r2 (.cons r t2)⟩
    | trans _ _ ih1 ih2 =>
      intro ys h
      obtain ⟨zs, z1, z2⟩ := ih1 h
      obtain ⟨us, u1, u2⟩ := ih2 z2
      exact ⟨us, u1.trans z1, u2⟩
  exact key p.symm h
/-- the entries of a state in the order of their keys -/
theorem ents_sort {H : Hp} {kvs out : List (Key × V)} {row : Rw} (h : Paired (EntAt H) kvs row) (nd : (row.map (·.1)).Nodup) (p : out.Perm kvs) (s : out.Pairwise (fun e f => ∀ y z : Str, e.1 = .inr y → f.1 = .inr z → ¬ z.cps.toList < y.cps.toList)) : Paired (EntAt H) out (sortR row) := by
  obtain ⟨row', p', h'⟩ := paired_perm h p
  have so : row'.Pairwise fun a b => a.1 ≤ b.1 := by
    have key : ∀ {out : List (Key × V)} {row' : Rw}, Paired (EntAt H) out row' → out.Pairwise (fun e f => ∀ y z : Str, e.1 = .inr y → f.1 = .inr z → ¬ z.cps.toList < y.cps.toList) → row'.Pairwise fun a b => a.1 ≤ b.1 := by
      intro out row' h
      induction h with
      | nil => intro _; exact .nil
      | @cons kv e kvs es r t ih =>
        intro s
        obtain ⟨s1, s2⟩ := List.pairwise_cons.mp s
        refine List.pairwise_cons.mpr ⟨fun f hf => ?_, ih s2⟩
        obtain ⟨i, hi⟩ := List.mem_iff_getElem?.mp hf
        obtain ⟨kv', k1, k2⟩ := paired_get i t hi
        have := s1 kv' (List.mem_of_getElem? k1) (lt e.1) (lt f.1) r.1 k2.1
        have l1 : (lt f.1).cps.toList = [f.1] := rfl
        have l2 : (lt e.1).cps.toList = [e.1] := rfl
        rw [l1, l2] at this
        have h3 : ¬ f.1 < e.1 := fun z => this (show List.Lex (· < ·) [f.1] [e.1] from .rel z)
        omega
    exact key h' s
  rw [← sortR_uniq nd p' so]
  exact h'
theorem paired_getL {α β : Type} {R : α → β → Prop} : ∀ {xs : List α} {ys : List β} (i : Nat) {x : α}, Paired R xs ys → xs[i]? = some x → ∃ y, ys[i]? = some y ∧ R x y
  | _, _, _, _, .nil, h => by simp at h
  | x :: xs, y :: ys, 0, z, .cons r _, h => by
    have e : x = z := Option.some.inj h
    exact ⟨y, rfl, e ▸ r⟩
  | x :: xs, y :: ys, i + 1, z, .cons _ t, h => by
    obtain ⟨a, h1, h2⟩ := paired_getL i t (by simpa using h)
    exact ⟨a, by simpa using h1, h2⟩
theorem keys_nd {H : Hp} : ∀ {kvs : List (Key × V)} {row : Rw}, Paired (EntAt H) kvs row → (row.map (·.1)).Nodup → (kvs.map (·.1)).Nodup
  | _, _, .nil, _ => List.Pairwise.nil
  | _, _, .cons (a := kv) (b := e) r t, nd => by
    rw [List.map_cons, List.nodup_cons] at nd ⊢
    refine ⟨fun hm => nd.1 ?_, keys_nd t nd.2⟩
    obtain ⟨kv', h1, h2⟩ := List.mem_map.mp hm
    obtain ⟨i, hi⟩ := List.mem_iff_getElem?.mp h1
    obtain ⟨e', he', ent⟩ := paired_getL i t hi
    rw [ent.1, r.1] at h2
    exact List.mem_map.mpr ⟨e', List.mem_of_getElem? he', lt_inj (Sum.inr.inj h2)⟩
theorem keys_tx {H : Hp} {kvs : List (Key × V)} {row : Rw} (h : Paired (EntAt H) kvs row) : ∀ q ∈ kvs, ∃ z : Str, q.1 = .inr z := fun q hq => by
  obtain ⟨i, hi⟩ := List.mem_iff_getElem?.mp hq
  obtain ⟨e', _, ent⟩ := paired_getL i h hi
  exact ⟨_, ent.1⟩
theorem lk_ne {a b : Str} {v : V} {fs : List (Str × V)} (h : ¬ a = b) : (putF b v fs).lookup a = fs.lookup a := by rw [lookup_putF, if_neg h]
theorem lk_eq {a : Str} {v : V} {fs : List (Str × V)} : (putF a v fs).lookup a = some v := by rw [lookup_putF, if_pos rfl]
theorem SameB.trans {D : Addr} {H1 H2 H3 : Hp} (e : SameB D H1 H2) (e' : SameB D H2 H3) : SameB D H1 H3 := fun a o n h => e' a o n (e a o n h)
theorem freeB {D b : Addr} {H H' : Hp} (e : SameB D H H') (n : b ≠ D) (h : H' b = none) : H b = none := by
  cases z : H b with
  | none => rfl
  | some o =>
    have := e b o n z
    rw [h] at this
    cases this
/-- dict of a list of pairs -/
def rDictP (K : PySem.W.Frag) : List V → Hp → VK → Prop := fun xs H Q => ∃ (a : Addr) (ps : List Addr) (kvs : List (Key × V)), xs = [.ref a] ∧ SqL K H a (ps.map V.ref) ∧ Paired (fun p kv => SqT K H p [kV kv.1, kv.2]) ps kvs ∧ ∀ p, H p = none → Q (.ref p) (upd H p (.dK (mergeK [] kvs)))
/-- what the walk asks of the class -/
structure RTx (K : PySem.W.Frag) (mg : Str → Option Value) (C : Addr) : Prop where
  cl : Cls K C
  nR : NoAttr K C "rows"
  nE : NoAttr K C "end_list"
  nS : NoAttr K C "own_start"
  mgC : mg "Reader" = some (.ref C)
/-- a reader as it lies -/
structure RdAt (C : Addr) (H : Hp) (x : Addr) (rows : List Rw) (ends : List Int) (start : Int) : Prop where
  ex : ∃ (dx pr pe : Addr) (fs : List (Str × V)) (qs : List Addr), H x = some (.ins C dx fs) ∧ fs.lookup ("rows" : Str) = some (.ref pr) ∧ fs.lookup ("end_list" : Str) = some (.ref pe) ∧ fs.lookup ("own_start" : Str) = some (.int start) ∧
    (∀ n : Str, ¬ n = "rows" → ¬ n = "end_list" → ¬ n = "own_start" → fs.lookup n = none) ∧ H pr = some (.tup (qs.map .ref)) ∧ Paired (RwAt H) qs rows ∧ H pe = some (.tup (ends.map .int))
theorem RdAt.mono {C : Addr} {H H' : Hp} {x : Addr} {rows : List Rw} {ends : List Int} {start : Int} (e : Same H H') (h : RdAt C H x rows ends start) : RdAt C H' x rows ends start := by
  obtain ⟨dx, pr, pe, fs, qs, h1, h2, h3, h4, h5, h6, h7, h8⟩ := h.ex
  exact ⟨dx, pr, pe, fs, qs, e _ _ h1, h2, h3, h4, h5, e _ _ h6, Paired.mono h7 fun a b g => g.mono e, e _ _ h8⟩
theorem RwAt.bx {H H' : Hp} {q x C dx : Addr} {row : Rw} {fs : List (Str × V)} (hx : H x = some (.ins C dx fs)) (e : SameB x H H') (h : RwAt H q row) : RwAt H' q row := by
  obtain ⟨ps, h1, h2⟩ := h
  exact ⟨ps, e _ _ (ne_of h1 hx (by intro z; cases z)) h1, Paired.mono h2 fun a b g => e _ _ (ne_of g hx (by intro z; cases z)) g⟩
section
variable {P : Program} {w : World} {K : PySem.W.Frag} {mg : Str → Option Value} {base : Heap}
/-! ### Reader.__init__ -/
abbrev sIni : Stmt := inClass (top 23) 1
abbrev nIni : List Str := ["self", "states", "ends", "start", "problem", "row"]
abbrev psIni : List Str := ["self", "states", "ends", "start"]
theorem scIni : FnScope nIni psIni (defScope sIni) := ⟨rfl, rfl, rfl, by decide +kernel, rfl, by decide +kernel, by decide +kernel⟩
def spIni (K : PySem.W.Frag) (C : Addr) : Sp := fun vs H Q _ => ∃ (x dx a e : Addr) (cs ts : List Nat) (ms : List (List Nat)) (rows : List Rw) (ends : List Int) (start : Int), vs = [.ref x, .ref a, .ref e, .int start] ∧ H x = some (.ins C dx []) ∧ Pal cs ts ms ∧ WfR cs ts ms rows ends start ∧ RowsL H a rows ∧ LoQ K H e (ends.map .int) ∧
  ∀ H', (∀ H'' : Hp, (∀ b o, (H b = none ∨ b = x ∨ ∃ xs, o = .tup xs) → H' b = some o → H'' b = some o) → RdAt C H'' x (rows.map sortR) (sortI ends) start) → SameB x H H' → Q .non H'
theorem ok_ini {f C : Addr} {fd : FuncData} {dvs : List V} {kws : List (Str × V)} (F : FunD K "__init__" "Reader.__init__" (defArgs sIni) (defBody sIni) (defScope sIni) dvs kws f fd) (B : Bl mg) (T : RTx K mg C) (Pb : Cal P w K mg base "reader_problem" 6 psPrb (spPrb K)) : FnOk P w K mg base CX0 7 f fd psIni (spIni K C) := by
  refine okD F scIni (fun vs H Q E h => ?_) (fun cdv A outer s H vs Q E hr h => ?_)
  · obtain ⟨x, dx, a, e, cs, ts, ms, rows, ends, start, rfl, _⟩ := h
    rfl
  · obtain ⟨x, dx, a, e, cs, ts, ms, rows, ends, start, rfl, hx, PA', W, hR, hE, k⟩ := h
    have hr1 := hr
    refine ⟨_, pss_cons (ps_set (i := 4) scIni.nd rfl (.inl rfl) (pe_cal Pb hr1 (pa_cons (pv 1) (pa_cons (pv 2) (pa_cons (pv 3) pa_nil)))))
      (pss_cons (ps_if (pt_cmpR op_notN (pv 4) pe_non (nomark _))
        (pss_one ps_never) pss_nil)
      (pss_cons (ps_fld (pv 0) (pe_callTy call_tuple_of (by rfl) B.tuple (by decide +kernel) (pa_cons (pe_lc (own := [("row", 5)]) (g := gName 5) (tt := tYes) (te := tCB (rDictP K) (tCons (tCB VSI.rSortItK (tCons (tBM0 K "dict" VSI.rItemsK (tVar 5)) tNil)) tNil)) rfl scIni.nd (pi_lot (pv 1)) (blkOk_by (by kernel_rfl)) (fun _ _ _ _ _ => pg_name (i := 5) scIni.nd rfl (.inl rfl)) (fun _ _ _ _ _ => pts_nil) (fun _ _ _ _ _ => pe_callTy (call_dictP rfl) (by rfl) B.dict (by decide +kernel) (pa_cons (pe_callB (VSI.cr_sortedItK rfl) (by rfl) B.sorted (by decide +kernel) (pa_cons (pe_bm0 PySem.F.plainAttrs_dict PySem.F.slot_dict_items PySem.F.type_dict_items VSI.mt_itemsK (pv 5)) pa_nil)) pa_nil))) pa_nil)) rfl)
      (pss_cons (ps_fld (pv 0) (pe_callTy call_tuple_of (by rfl) B.tuple (by decide +kernel) (pa_cons (pe_callB cr_sortedLT (by rfl) B.sorted (by decide +kernel) (pa_cons (pv 2) pa_nil)) pa_nil)) rfl)
      (pss_one (ps_fld (pv 0) (pv 3) rfl))))), ?_⟩
    have h12 := W.most
    refine ⟨_, rfl, _, rfl, _, rfl, a, e, cs, ts, ms, rows, ends, start, rfl, PA', W, hR, hE, fun H1 e1 => ?_⟩
    refine ⟨_, rfl, rfl, _, rfl, iteF ?_⟩
    obtain ⟨qs, q1, q2⟩ := hR.mono e1
    have hql : qs.length = rows.length := Paired.length q2
    have hx1 := e1 _ _ hx
    -- the rows
    refine ⟨_, rfl, a, _, rfl, q1, fun J G wk hG D hD => lc_S wk hD (by rw [List.length_map]; omega) (fun i acc H' => ∃ qs' : List Addr, acc = qs'.map .ref ∧ Paired (fun q row => RwAt H' q row ∧ H1 q = none) qs' ((rows.take i).map sortR)) ?_ ⟨[], rfl, .nil⟩ hG ?_ ?_⟩
    · rintro i acc acc' H2 H3 hd ee ⟨qs', p1, p2⟩
      refine ⟨qs', p1, Paired.mono p2 fun a b h => ⟨RwAt.nl (fun x o hx no => ee _ _ (fun z => ?_) hx) h.1, h.2⟩⟩
      rw [z, hd] at hx
      cases hx
      exact no _ rfl
    · rintro i v H2 H2' acc Qt Qf hi e2 hd ⟨qs', rfl, hq⟩ ⟨rfl, hv⟩ kt kf
      rw [List.length_map] at hi
      rw [List.getElem?_map] at hv
      obtain ⟨q, hqi, rfl⟩ := Option.map_eq_some_iff.mp hv
      have hir : i < rows.length := by omega
      obtain ⟨q', hq', hrow⟩ := paired_get i q2 (List.getElem?_eq_getElem hir)
      rw [hqi] at hq'
      cases hq'
      obtain ⟨kvs, k1, k2⟩ := rw_iff.mp (hrow.mono e2)
      have nd := W.nd _ (List.getElem_mem hir)
      refine ⟨rfl, _, rfl, .inr (.inr (.inl ⟨rfl, .inl ⟨_, k1⟩⟩)), q, kvs, rfl, rfl, k1, fun p hp => ⟨p, q, kvs, rfl, upd_same, (same_new hp) _ _ k1, keys_tx k2, keys_nd k2 nd, fun H5 l tsl out e5 hl hts hlt h5 pr pm so => ?_⟩⟩
      refine ⟨l, tsl, out, rfl, SqL.of h5, Paired.mono pr fun t q h => SqT.of h, fun p' hp' => kt _ _ (((same_new hp).trans e5).trans (same_new hp')) ⟨qs' ++ [p'], by simp, ?_⟩⟩
      have e25 : Same H2' H5 := (same_new hp).trans e5
      rw [mergeK_nil (by rw [(pm.map (·.1)).nodup_iff]; exact keys_nd k2 nd)]
      rw [List.take_add_one, List.getElem?_eq_getElem hir, List.map_append]
      have e26 := e25.trans (same_new (o := .dK out) hp')
      refine paired_snoc (Paired.mono hq fun a b h => ⟨h.1.mono e26, h.2⟩) ⟨rw_iff.mpr ⟨out, upd_same, ?_⟩, e2.free (e25.free hp')⟩
      refine Paired.mono (ents_sort k2 nd pm so) fun x y g => ⟨g.1, g.2.imp fun p z => ⟨z.1, e26 _ _ z.2⟩⟩
    rintro H2 acc e2 hd ⟨qs', rfl, hq⟩
    rw [List.length_map, hql, List.take_length] at hq
    refine ⟨D, _, rfl, .inl ⟨SqL.of hd, fun pt hpt => ?_⟩⟩
    have e3 : Same H2 (upd H2 pt (.tup (qs'.map .ref))) := same_new hpt
    have hx3 := e3 _ _ (e2 _ _ hx1)
    have ht3 : (upd H2 pt (.tup (qs'.map .ref))) pt = some (.tup (qs'.map .ref)) := upd_same
    have hq3 : Paired (fun q row => RwAt (upd H2 pt (.tup (qs'.map .ref))) q row ∧ H1 q = none) qs' (rows.map sortR) := Paired.mono hq fun a b h => ⟨h.1.mono e3, h.2⟩
    have e13 := (e1.trans e2).trans e3
    generalize (upd H2 pt (.tup (qs'.map .ref))) = H3 at e3 hx3 ht3 hq3 e13
    refine ⟨_, rfl, x, C, dx, _, rfl, hx3, T.cl, T.nR, (by show 0 < 1000; decide), ?_⟩
    have b4 : SameB x H3 (upd H3 x (.ins C dx (putF "rows" (.ref pt) []))) := SameB.upd
    have hx4 : (upd H3 x (.ins C dx (putF "rows" (.ref pt) []))) x = some (.ins C dx (putF "rows" (.ref pt) [])) := upd_same
    generalize (upd H3 x (.ins C dx (putF "rows" (.ref pt) []))) = H4 at b4 hx4
    have hE4 : LoQ K H4 e (ends.map .int) := by
      rcases hE with (h | h) | h
      · exact .inl (.inl (b4 _ _ (ne_of h hx (by intro z; cases z)) (e13 _ _ h)))
      · exact .inl (.inr (b4 _ _ (ne_of h hx (by intro z; cases z)) (e13 _ _ h)))
      · exact .inr h
    -- the ends
    refine ⟨_, rfl, e, ends, rfl, hE4.seq, ?_, fun es p5 pm so hp5 => ⟨p5, _, rfl, .inl ⟨SqL.of upd_same, fun pt5 hpt5 => ?_⟩⟩⟩
    · have := nodup_len _ _ W.endN W.end0
      omega
    have ees := sortI_uniq pm so
    have e5 : Same H4 (upd (upd H4 p5 (.lst (es.map .int))) pt5 (.tup (es.map .int))) := (same_new hp5).trans (same_new hpt5)
    have hx5 := e5 _ _ hx4
    have ht5 : (upd (upd H4 p5 (.lst (es.map .int))) pt5 (.tup (es.map .int))) pt5 = some (.tup (es.map .int)) := upd_same
    generalize (upd (upd H4 p5 (.lst (es.map .int))) pt5 (.tup (es.map .int))) = H5 at e5 hx5 ht5
    refine ⟨_, rfl, x, C, dx, _, rfl, hx5, T.cl, T.nE, (by show 1 < 1000; decide), ?_⟩
    refine ⟨_, rfl, _, rfl, x, C, dx, _, rfl, upd_same, T.cl, T.nS, (by show 2 < 1000; decide), ?_⟩
    have b5 : SameB x H5 (upd (upd H5 x (.ins C dx (putF "end_list" (.ref pt5) (putF "rows" (.ref pt) [])))) x (.ins C dx (putF "own_start" (.int start) (putF "end_list" (.ref pt5) (putF "rows" (.ref pt) []))))) := SameB.upd.trans SameB.upd
    have hx6 : (upd (upd H5 x (.ins C dx (putF "end_list" (.ref pt5) (putF "rows" (.ref pt) [])))) x (.ins C dx (putF "own_start" (.int start) (putF "end_list" (.ref pt5) (putF "rows" (.ref pt) []))))) x = some (.ins C dx (putF "own_start" (.int start) (putF "end_list" (.ref pt5) (putF "rows" (.ref pt) [])))) := upd_same
    generalize (upd (upd H5 x (.ins C dx (putF "end_list" (.ref pt5) (putF "rows" (.ref pt) [])))) x (.ins C dx (putF "own_start" (.int start) (putF "end_list" (.ref pt5) (putF "rows" (.ref pt) []))))) = H6 at b5 hx6 ⊢
    have b36 : SameB x H3 H6 := (b4.trans (Same.b e5)).trans b5
    refine k H6 (fun H'' ext => ?_) ((Same.b e13).trans b36)
    have ntx : pt ≠ x := ne_of ht3 hx3 (by intro z; cases z)
    have nt5 : pt5 ≠ x := ne_of ht5 hx5 (by intro z; cases z)
    refine ⟨dx, pt, pt5, _, qs', ext _ _ (.inr (.inl rfl)) hx6, ?_, ?_, lk_eq, fun n n1 n2 n3 => by rw [lk_ne n3, lk_ne n2, lk_ne n1]; rfl, ext _ _ (.inr (.inr ⟨_, rfl⟩)) (b36 _ _ ntx ht3), Paired.mono hq3 fun q row h => ?_, ?_⟩
    · rw [lk_ne (by decide +kernel), lk_ne (by decide +kernel), lk_eq]
    · rw [lk_ne (by decide +kernel), lk_eq]
    · obtain ⟨ps, z1, z2⟩ := h.1.bx hx3 b36
      exact ⟨ps, ext _ _ (.inl (e1.free h.2)) z1, Paired.mono z2 fun a b g => ext _ _ (.inr (.inr ⟨_, rfl⟩)) g⟩
    · rw [← ees]
      exact ext _ _ (.inr (.inr ⟨_, rfl⟩)) (b5 _ _ nt5 ht5)
end
end SS

set_option maxRecDepth 100000
set_option maxHeartbeats 4000000
set_option pp.maxSteps 1500
namespace SS
open PySem L2 SR TL
theorem u0 {k : Nat} {A : Around} (r : Room k A) : A.units < cLine := by have := r.un; omega
/-- a def of the top that may raise -/
structure CalX (P : Program) (w : World) (K : PySem.W.Frag) (mg : Str → Option Value) (base : Heap) (x : Str) (k : Nat) (ps : List Str) (sp : Sp) : Prop where
  ex : ∃ f fd, FnOk P w K mg base (L2.CX P w) k f fd ps sp ∧ mg x = some (.ref f) ∧ PySem.W.keepIn K (.ref f) = true ∧ Binds K fd ps []
theorem pe_calX {X : Cx} {x : Str} {k : Nat} {ps : List Str} {sp : Sp} {E : XK} {e : Expr} {es : List Expr} {t : TA} {p pos : Pos} (C : CalX X.prog X.w X.K X.mg X.base x k ps sp) (hr : Room k X.A) (hx : Passes (L2.CX X.prog X.w) X E) (ha : PA X (e :: es) t) (hg : Gl X x := by rfl) (hdb : (x == ("__debug__" : Str)) = false := by decide)
    (he : starEach (e :: es) X.env = (false, eval e X.env) :: starEach es X.env := by rfl) (hpl : (backTo pos (starEach es X.env)).any (·.1) = false := by rfl) : PE X (.Call (.Name x p) (e :: es) [] pos) (tCall sp [] E t) := by
  obtain ⟨f, fd, F, m, kp, b⟩ := C.ex
  exact pe_call F hr hg m kp b .nil hx ha hdb he hpl
section
variable {P : Program} {w : World} {K : PySem.W.Frag} {mg : Str → Option Value} {base : Heap}
/-! ### InvalidWord -/
abbrev sIwi : Stmt := inClass (top 5) 0
abbrev nIw : List Str := ["self", "value"]
theorem scIwi : FnScope nIw nIw (defScope sIwi) := ⟨rfl, rfl, rfl, by decide +kernel, rfl, by decide +kernel, by decide +kernel⟩
/-- what the walk asks of the class -/
structure IwT (K : PySem.W.Frag) (mg : Str → Option Value) (D Z : Addr) : Prop where
  ox : OexB "ValueError.__new__" tlV K D
  nV : PySem.W.findIn K (.ref D) "value" = some none
  mgD : mg "InvalidWord" = some (.ref D)
  z : ZinV K mg "SlotsError" Z
def spIwi (D : Addr) (K : PySem.W.Frag) : Sp := fun vs H Q _ => ∃ (a : Addr) (v : V), vs = [.ref a, v] ∧ Odd K H v ∧ H a = some (exo a D none) ∧ ∀ d H', H d = none → H' a = some (exo a D (some d)) → H' d = some (exd d [("value", v)]) → SameB a H H' → Q .non H'
theorem ok_iwi {f D Z : Addr} {fd : FuncData} (F : Fun K "__init__" "InvalidWord.__init__" sIwi f fd) (T : IwT K mg D Z) : FnOk P w K mg base CX0 1 f fd nIw (spIwi D K) := by
  refine F.ok scIwi (fun vs H Q E h => ?_) (fun cdv A outer s H vs Q E hr h => ?_)
  · obtain ⟨a, v, rfl, _⟩ := h
    rfl
  · obtain ⟨a, v, rfl, ho, ha, k⟩ := h
    refine ⟨_, pss_cons (ps_expr (pe_reinitZ (by rfl) T.z (pa_cons (pv 0) (pa_cons (pe_joined (.cons pe_str (.cons (pe_fmtO (u0 hr) (pv 1)) .nil))) pa_nil))))
      (pss_one (ps_ostB baseV (pv 0) (pv 1))), ?_⟩
    have sz := sizeLine_eq
    have m1 : (Str.ofString "no word: ").length = 9 := rfl
    have m0 : Str.empty.length = 0 := rfl
    refine ⟨_, rfl, _, rfl, by rw [strLen_append]; omega, _, rfl, ho, fun y hy => ⟨_, rfl, by rw [strLen_append, strLen_append]; omega, ?_⟩⟩
    refine ⟨a, D, _, rfl, by show 1 ≤ 1000; decide, T.ox, ha, ?_⟩
    refine ⟨_, rfl, _, rfl, a, D, rfl, T.ox, T.nV, .inl ⟨ha, fun d hd hda => ?_⟩⟩
    refine k d _ hd upd_same ?_ fun b o hb hbo => ?_
    · rw [upd_ne hda, upd_same]
    · have nb : b ≠ d := ne_of_none hbo hd
      rw [upd_ne hb, upd_ne nb]
      exact hbo
/-! ### require_word -/
/-- the class InvalidWord as it stands -/
structure Iw (P : Program) (w : World) (K : PySem.W.Frag) (mg : Str → Option Value) (base : Heap) (D Z : Addr) : Prop where
  t : IwT K mg D Z
  ini : ∃ f fd, PySem.W.findIn K (.ref D) "__init__" = some (some (.ref f)) ∧ PySem.W.typeIn K (.ref f) = some (.type "function") ∧ FnOk P w K mg base CX0 1 f fd nIw (spIwi D K) ∧ Binds K fd nIw []
/-- no word -/
def NoWord (K : PySem.W.Frag) (H : Hp) (v : V) : Prop := (NonStr H v ∨ ∃ x, v = txtV x ∧ x.length ≤ 1000 ∧ ¬ Lets x) ∧ Odd K H v
/-- the way out: InvalidWord with the value -/
def outW (D : Addr) (v : V) (H : Hp) (E : XK) : Prop := ∀ d H', H d = none → Same H H' → H' d = some (.xd [("value", v)]) → E (.ref D) (some d) H'
theorem sqT_mono {H H' : Hp} {a : Addr} {xs : List V} (e : Same H H') (h : SqT K H a xs) : SqT K H' a xs := h.imp (Or.imp (e a _) fun z => ⟨z.choose, e a _ z.choose_spec⟩) id
theorem _root_.SR.Odd.mono {H H' : Hp} {v : V} (e : Same H H') (h : Odd K H v) : Odd K H' v := by
  cases h with
  | non => exact .non
  | bl b => exact .bl b
  | int i h1 h2 => exact .int i h1 h2
  | str x h => exact .str x h
  | lst h1 h2 => exact .lst (e.seq h1) h2
  | tup h1 h2 => exact .tup (sqT_mono e h1) h2
  | tup0 h1 => exact .tup0 (sqT_mono e h1)
  | dic h1 => exact .dic (e _ _ h1)
  | lstI h1 h2 h3 => exact .lstI (e.seq h1) h2 h3
  | tupI h1 h2 h3 => exact .tupI (sqT_mono e h1) h2 h3
theorem NoWord.mono {H H' : Hp} {v : V} (e : Same H H') (h : NoWord K H v) : NoWord K H' v := ⟨h.1.elim (fun z => .inl (z.mono e)) .inr, h.2.mono e⟩
abbrev sRqw : Stmt := top 25
abbrev psRqw : List Str := ["value"]
theorem scRqw : FnScope psRqw psRqw (defScope sRqw) := ⟨rfl, rfl, rfl, by decide +kernel, rfl, by decide +kernel, by decide +kernel⟩
def spRqX (K : PySem.W.Frag) (D : Addr) : Sp := fun vs H Q E => ∃ v, vs = [v] ∧ ((∃ x, v = txtV x ∧ Lets x ∧ x.length ≤ 1000 ∧ ∀ H', Same H H' → Q .non H') ∨ (NoWord K H v ∧ outW D v H E))
theorem ok_rqX {f D Z : Addr} {fd : FuncData} (F : Fun K "require_word" "require_word" sRqw f fd) (S : Iw P w K mg base D Z) (Wd : Cal P w K mg base "is_word" 1 ["value"] spWord) : FnOk P w K mg base (L2.CX P w) 3 f fd psRqw (spRqX K D) := by
  obtain ⟨fI, fdI, iC, tI, FI, bI⟩ := S.ini
  refine F.okX scRqw (fun vs H Q E h => ?_) (fun cdv A outer s H vs Q E hr h => ?_)
  · obtain ⟨v, rfl, _⟩ := h
    rfl
  · obtain ⟨v, rfl, h⟩ := h
    have hr1 := hr.mono (by decide : 1 ≤ 2)
    refine ⟨_, pss_one (ps_if (pt_not (pt_val (pe_cal Wd hr1 (pa_cons (pv 0) pa_nil))))
        (pss_one (ps_raise rfl (takes_of rfl rfl rfl rfl) (pmk_oexB baseV S.t.ox iC tI FI hr bI pass0 (by rfl) S.t.mgD (pa_cons (pv 0) pa_nil)))) pss_nil), ?_⟩
    have bad : ∀ H1, Same H H1 → NoWord K H v → outW D v H E → ∀ (σ : L2.St), σ = [some v] → (tMkO D (spIwi D K) [] (tCons (tVar 0) tNil)) σ H1 fun cls d H' => E cls d H' := fun H1 e1 nw out σ es => by
      subst es
      refine ⟨_, rfl, by show 1 ≤ 1000; decide, fun a ha => ⟨a, v, rfl, (nw.2.mono e1).mono (same_new ha), upd_same, fun d H2 hd h1 h2 sb => ⟨rfl, d, _, h1, h2, ?_, ?_⟩⟩⟩
      · have hda : d ≠ a := fun z => by rw [z, upd_same] at hd; cases hd
        rw [upd_ne hda] at hd
        exact hd
      · have hda : d ≠ a := fun z => by rw [z, upd_same] at hd; cases hd
        have hdH : H1 d = none := by rw [upd_ne hda] at hd; exact hd
        refine out d _ (e1.free hdH) (fun b o hb => ?_) upd_same
        have hb1 := e1 _ _ hb
        have nba : b ≠ a := ne_of_none hb1 ha
        rw [upd_ne (ne_of_none hb1 hdH), del_ne nba]
        exact sb b o nba (by rw [upd_ne nba]; exact hb1)
    rcases h with ⟨x, rfl, hx, hl, k⟩ | ⟨nw, out⟩
    · refine ⟨_, rfl, _, rfl, .inr ⟨x, rfl, hl, fun b H1 hb e => ?_⟩⟩
      obtain rfl : b = true := hb.mpr hx
      exact ⟨_, rfl, iteF (k _ e)⟩
    · rcases nw.1 with ns | ⟨x, rfl, hl, hx⟩
      · exact ⟨_, rfl, _, rfl, .inl ⟨ns, _, rfl, iteT (bad H (Same.refl _) nw out _ rfl)⟩⟩
      · refine ⟨_, rfl, _, rfl, .inr ⟨x, rfl, hl, fun b H1 hb e => ?_⟩⟩
        obtain rfl : b = false := Bool.eq_false_iff.mpr fun z => hx (hb.mp z)
        exact ⟨_, rfl, iteT (bad H1 e nw out _ rfl)⟩
end
end SS

set_option maxRecDepth 100000
set_option maxHeartbeats 4000000
set_option pp.maxSteps 1500
namespace SS
open PySem L2 SR TL
/-! ### walks over the moves of a state -/
/-- all stands, but at Z -/
def SN (Z : Addr → Prop) (H H' : Hp) : Prop := ∀ b o, ¬ Z b → H b = some o → H' b = some o
theorem SN.refl {Z : Addr → Prop} {H : Hp} : SN Z H H := fun _ _ _ h => h
theorem SN.trans {Z : Addr → Prop} {H1 H2 H3 : Hp} (a : SN Z H1 H2) (b : SN Z H2 H3) : SN Z H1 H3 := fun x o n h => b x o n (a x o n h)
theorem Same.sn {Z : Addr → Prop} {H H' : Hp} (e : Same H H') : SN Z H H' := fun b o _ h => e b o h
theorem SN.new {Z : Addr → Prop} {D : Addr} {H H' : Hp} {o : HO} (e : SN Z H H') (h : H' D = none) : SN Z H (upd H' D o) := fun b u n hb => by
  have := e b u n hb
  rw [upd_ne (ne_of_none this h)]
  exact this
theorem SN.upd {Z : Addr → Prop} {D : Addr} {H H' : Hp} {o : HO} (e : SN Z H H') (h : Z D) : SN Z H (upd H' D o) := fun b u n hb => by
  rw [upd_ne (show b ≠ D from fun z => n (by rw [z]; exact h))]
  exact e b u n hb
/-- back behind a walk: q is unlocked, l is new -/
theorem SN.back {H0 H1 HL : Hp} {q l : Addr} {u : HO} (e : SN (fun b => b = q ∨ b = l) H1 HL) (e1 : Same H0 H1) (hl : H0 l = none) (hq : H1 q = some u) : Same H0 (L2.upd HL q u) := fun b o hb => by
  have nl : b ≠ l := ne_of_none hb hl
  have hb1 := e1 b o hb
  by_cases h : b = q
  · subst h
    rw [upd_same, ← hb1, hq]
  · rw [upd_ne h]
    exact e b o (fun z => z.elim h nl) hb1
theorem SN.back0 {H1 HL : Hp} {q : Addr} {u : HO} (e : SN (fun b => b = q) H1 HL) (hq : H1 q = some u) : Same H1 (L2.upd HL q u) := fun b o hb => by
  by_cases h : b = q
  · subst h
    rw [upd_same, ← hb, hq]
  · rw [upd_ne h]
    exact e b o h hb
/-- for goal, told in d.values() -/
theorem vals_for {K : PySem.W.Frag} {te : TE} {i j : Nat} {tb : TS} {D : Ends} {σ : St} {H : Hp} {q : Addr} {kvs : List (Key × V)} {row : Rw} (hq : H q = some (.dK kvs)) (pr : Paired (EntAt H) kvs row)
    (ht : ∀ (od : Obj) (R : V → Hp → Prop), R (.ref q) (upd H q (.frz od (.dK kvs))) → te σ (upd H q (.frz od (.dK kvs))) R) (Z : Addr → Prop) (zq : Z q) (zt : ∀ p xs, H p = some (.tup xs) → ¬ Z p) (Pv : Nat → St → Hp → Prop) (h0 : ∀ od, Pv 0 σ (upd H q (.frz od (.dK kvs))))
    (hs : ∀ (od : Obj) (n : Nat) (e : Nat × Mv) (σ' : St) (HL : Hp), row[n]? = some e → SN Z H HL → HL q = some (.frz od (.dK kvs)) → Pv n σ' HL →
      tb { nx := fun σ2 H2 => SN Z H H2 ∧ H2 q = some (.frz od (.dK kvs)) ∧ Pv (n + 1) σ2 H2, rt := fun v H' => H' q = some (.frz od (.dK kvs)) ∧ D.rt v (upd H' q (.dK kvs)), bk := fun σ' H' => H' q = some (.frz od (.dK kvs)) ∧ D.nx σ' (upd H' q (.dK kvs)), ct := fun σ2 H2 => SN Z H H2 ∧ H2 q = some (.frz od (.dK kvs)) ∧ Pv (n + 1) σ2 H2 } ((σ'.set i (some (.int e.2.1))).set j (some (tellV e.2.2))) HL)
    (hd : ∀ (od : Obj) (σ' : St) (HL : Hp), SN Z H HL → HL q = some (.frz od (.dK kvs)) → Pv row.length σ' HL → D.nx σ' (upd HL q (.dK kvs))) :
    tLock (tFor (iVals te) (gTup K 2 (gCons (gName i) (gCons (gName j) gNil))) tb) D σ H := by
  have hkl : kvs.length = row.length := Paired.length pr
  refine ⟨q, _, hq, trivial, fun od => ht od _ ⟨q, od, kvs, rfl, upd_same, ?_⟩⟩
  refine for_it (walk_values (d := q) (o := od) (kvs := kvs)) (fun n σ' HL => SN Z H HL ∧ HL q = some (.frz od (.dK kvs)) ∧ Pv n σ' HL) ⟨SN.refl.upd zq, upd_same, h0 od⟩ (fun _ _ _ _ p => p.2.1) ?_ ?_
  · rintro n v σ' HL HL' hn ⟨e1, e2, p⟩ ⟨rfl, k, hk⟩
    obtain ⟨e, he⟩ : ∃ e, row[n]? = some e := ⟨_, List.getElem?_eq_getElem (by omega)⟩
    obtain ⟨p1, p2, p3, p4⟩ := paired_at pr hk he
    have p3' : v = .ref p2 := p3
    subst p3'
    have m2 : MvAt HL' p2 e.2 := e1 _ _ (zt _ _ p4) p4
    exact ⟨p2, _, rfl, SqT.of m2, rfl, _, _, rfl, _, _, rfl, rfl, hs od n e σ' _ he e1 e2 p⟩
  · rintro σ' HL ⟨e1, e2, p⟩
    rw [hkl] at p
    exact ⟨e2, hd od σ' HL e1 e2 p⟩
/-- [.. for goal, told in d.values() if ..]: a new list -/
theorem vals_lc {K : PySem.W.Frag} {te : TE} {i j : Nat} {tt : TT} {te2 : TE} {σ : St} {H : Hp} {Q : VK} {q : Addr} {kvs : List (Key × V)} {row : Rw} (hq : H q = some (.dK kvs)) (pr : Paired (EntAt H) kvs row) (hl : row.length ≤ 1000)
    (ht : ∀ (od : Obj) (R : V → Hp → Prop), R (.ref q) (upd H q (.frz od (.dK kvs))) → te σ (upd H q (.frz od (.dK kvs))) R) (f : Nat × Mv → Option V)
    (hw : ∀ a b : V, wipe (((wipe σ [i, j]).set i (some a)).set j (some b)) [i, j] = wipe σ [i, j])
    (hs : ∀ (od : Obj) (n : Nat) (e : Nat × Mv) (HL : Hp) (Qt : V → Hp → Prop) (Qf : Hp → Prop), row[n]? = some e → Same (upd H q (.frz od (.dK kvs))) HL → (∀ y H4, Same HL H4 → f e = some y → Qt y H4) → (∀ H3, Same HL H3 → f e = none → Qf H3) →
      tt (((wipe σ [i, j]).set i (some (.int e.2.1))).set j (some (tellV e.2.2))) HL fun b H3 => if b = true then te2 (((wipe σ [i, j]).set i (some (.int e.2.1))).set j (some (tellV e.2.2))) H3 Qt else Qf H3)
    (hd : ∀ (p : Addr) (H' : Hp), H p = none → Same H H' → H' p = some (.lst (row.filterMap f)) → Q (.ref p) H') :
    tLockE (tLc (iVals te) (gTup K 2 (gCons (gName i) (gCons (gName j) gNil))) tt te2 [i, j]) σ H Q := by
  have hkl : kvs.length = row.length := Paired.length pr
  refine ⟨q, _, hq, trivial, fun od => ht od _ ⟨q, od, kvs, rfl, upd_same, fun D hD => ?_⟩⟩
  have nDq : D ≠ q := fun z => by rw [z, upd_same] at hD; cases hD
  refine lc_S (walk_values (d := q) (o := od) (kvs := kvs)) hD (by omega) (fun n acc _ => acc = (row.take n).filterMap f) (fun _ _ _ _ _ _ _ h => h) rfl (fun H' e' => e' _ _ upd_same) ?_ ?_
  · rintro n v H3 H3' acc Qt Qf hn e3 hd' rfl ⟨rfl, k, hk⟩ kt kf
    obtain ⟨e, he⟩ : ∃ e, row[n]? = some e := ⟨_, List.getElem?_eq_getElem (by omega)⟩
    obtain ⟨p1, p2, p3, p4⟩ := paired_at pr hk he
    have p3' : v = .ref p2 := p3
    subst p3'
    have m2 : MvAt H3' p2 e.2 := e3 _ _ (by unfold MvAt at p4; exact lock_get hq p4 (by intro z; cases z))
    refine ⟨p2, _, rfl, SqT.of m2, rfl, _, _, rfl, _, _, rfl, rfl, hw _ _, ?_⟩
    have et : row.take (n + 1) = row.take n ++ [e] := by rw [List.take_add_one, he]; rfl
    refine hs od n e H3' Qt Qf he e3 (fun y H4 e4 fy => kt y H4 e4 ?_) fun H4 e4 fy => kf H4 e4 ?_
    · rw [et, List.filterMap_append]
      simp [fy]
    · rw [et, List.filterMap_append]
      simp [fy]
  · rintro H1 acc e1 hd' rfl
    rw [hkl, List.take_length] at hd'
    refine ⟨e1 _ _ upd_same, hd D _ ?_ (lock_same hq e1) (by rw [upd_ne nDq]; exact hd')⟩
    rw [upd_ne nDq] at hD
    exact hD
end SS

set_option maxRecDepth 100000
set_option maxHeartbeats 4000000
set_option pp.maxSteps 1500
namespace SR
open PySem PySem.Spec PyProof.Rows L2 GenW
section
variable {X : Cx} {st : Stmt}
/-- a generator's statement while a dict is locked -/
def tGLock (t : TGn) : TGn := fun D ys σ H => ∃ d u, H d = some u ∧ Mut (some u) ∧ ∀ od, t ⟨fun ys σ' H' => H' d = some (.frz od u) ∧ D.nx ys σ' (upd H' d u), fun ys v H' => H' d = some (.frz od u) ∧ D.rt ys v (upd H' d u), fun ys σ' H' => H' d = some (.frz od u) ∧ D.bk ys σ' (upd H' d u), fun ys σ' H' => H' d = some (.frz od u) ∧ D.ct ys σ' (upd H' d u)⟩ ys σ (upd H d (.frz od u))
theorem gs_lock {t : TGn} (h : GS X st t) : GS X st (tGLock t) := by
  refine ⟨fun A S ip R n ys s₀ c fs K J gd lv s σ H D g hn k hI ht => ?_⟩
  obtain ⟨d, u, hd, mu, ht⟩ := ht
  obtain ⟨acc, cc, r, I⟩ := hI
  obtain ⟨od, I1⟩ := I.lock hd mu
  have nf := I.nofrz hd mu
  refine h.run A S ip R n ys s₀ c fs K J gd lv s σ _ _ g hn ⟨fun n' ys' s₀' s' f hn' hs => k.ok n' ys' s₀' s' f hn' ?_, k.exc⟩ ⟨acc, cc, r, I1⟩ (ht od)
  cases f with
  | next => obtain ⟨σ', H', ⟨a', c', r', I'⟩, e, q⟩ := hs; exact ⟨σ', _, ⟨a', c', r', I'.unlock e nf⟩, q⟩
  | brk => obtain ⟨σ', H', ⟨a', c', r', I'⟩, e, q⟩ := hs; exact ⟨σ', _, ⟨a', c', r', I'.unlock e nf⟩, q⟩
  | cont => obtain ⟨σ', H', ⟨a', c', r', I'⟩, e, q⟩ := hs; exact ⟨σ', _, ⟨a', c', r', I'.unlock e nf⟩, q⟩
  | ret v => obtain ⟨x, σ', H', ⟨a', c', r', I'⟩, rv, e, q⟩ := hs; exact ⟨x, σ', _, ⟨a', c', r', I'.unlock e nf⟩, rv, q⟩
end
end SR
namespace SS
open PySem L2 SR TL
/-- all tuples stand -/
def Tups (H H' : Hp) : Prop := ∀ b xs, H b = some (.tup xs) → H' b = some (.tup xs)
theorem Same.tups {H H' : Hp} (e : Same H H') : Tups H H' := fun b xs h => e b _ h
theorem Tups.at {H H' : Hp} {b : Addr} {o : HO} (h : H b = some o) (n : ∀ xs, o ≠ .tup xs) (k : ∀ c u, c ≠ b → H c = some u → H' c = some u) : Tups H H' := fun c xs hc => k c _ (fun z => by
  rw [z, h] at hc
  exact n xs (Option.some.inj hc)) hc
theorem MvAt.tups {H H' : Hp} {p : Addr} {m : Mv} (e : Tups H H') (h : MvAt H p m) : MvAt H' p m := e _ _ h
/-- [.. for sign, (goal, told) in d.items() if ..]: a new list -/
theorem items_lc {K : PySem.W.Frag} {te : TE} {i j k : Nat} {tt : TT} {te2 : TE} {σ : L2.St} {H : Hp} {Q : VK} {q : Addr} {kvs : List (Key × V)} {row : Rw} (hq : H q = some (.dK kvs)) (pr : Paired (EntAt H) kvs row) (hl : row.length ≤ 1000)
    (ht : ∀ (od : Obj) (R : V → Hp → Prop), R (.ref q) (upd H q (.frz od (.dK kvs))) → te σ (upd H q (.frz od (.dK kvs))) R)
    (S : Nat → List V → Hp → Prop) (hS : ∀ n acc H H', Tups H H' → S n acc H → S n acc H') (h0 : ∀ H', S 0 [] H')
    (hw : ∀ a b c : V, wipe ((((wipe σ [i, j, k]).set i (some a)).set j (some b)).set k (some c)) [i, j, k] = wipe σ [i, j, k])
    (hs : ∀ (od : Obj) (n : Nat) (e : Nat × Mv) (HL : Hp) (acc : List V) (Qt : V → Hp → Prop) (Qf : Hp → Prop), row[n]? = some e → Same (upd H q (.frz od (.dK kvs))) HL → S n acc HL → (∀ y H4, Same HL H4 → S (n + 1) (acc ++ [y]) H4 → Qt y H4) → (∀ H3, Same HL H3 → S (n + 1) acc H3 → Qf H3) →
      tt ((((wipe σ [i, j, k]).set i (some (ltV e.1))).set j (some (.int e.2.1))).set k (some (tellV e.2.2))) HL fun b H3 => if b = true then te2 ((((wipe σ [i, j, k]).set i (some (ltV e.1))).set j (some (.int e.2.1))).set k (some (tellV e.2.2))) H3 Qt else Qf H3)
    (hd : ∀ (p : Addr) (H' : Hp) (acc : List V), H p = none → Same H H' → H' p = some (.lst acc) → S row.length acc H' → Q (.ref p) H') :
    tLockE (tLc (iItems te) (gTup K 2 (gCons (gName i) (gCons (gTup K 2 (gCons (gName j) (gCons (gName k) gNil))) gNil))) tt te2 [i, j, k]) σ H Q := by
  have hkl : kvs.length = row.length := Paired.length pr
  refine ⟨q, _, hq, trivial, fun od => ht od _ ⟨q, od, kvs, rfl, upd_same, fun D hD => ?_⟩⟩
  have nDq : D ≠ q := fun z => by rw [z, upd_same] at hD; cases hD
  refine lc_S (walk_items (d := q) (o := od) (kvs := kvs)) hD (by omega) S (fun n acc acc' H3 H4 hd' e s => hS _ _ _ _ (Tups.at hd' (fun _ z => by cases z) fun c u hc h => e c u hc h) s) (h0 _) (fun H' e' => e' _ _ upd_same) ?_ ?_
  · rintro n v H3 H3' acc Qt Qf hn e3 hd' s ⟨T, x, y, rfl, hT, rfl, ex, ey⟩ kt kf
    obtain ⟨e, he⟩ : ∃ e, row[n]? = some e := ⟨_, List.getElem?_eq_getElem (by omega)⟩
    have hkn : n < kvs.length := by omega
    have ekv : kvs[n]? = some kvs[n] := List.getElem?_eq_getElem hkn
    have hkk : kvs[n]? = some ((kvs[n]).1, (kvs[n]).2) := ekv
    obtain ⟨p1, p2, p3, p4⟩ := paired_at pr hkk he
    dsimp only at ex ey
    rw [ekv] at ex ey
    have ex' : x = kV (Sum.inr (lt e.1)) := by
      have := (Option.some.inj ex).symm
      rw [this]
      exact congrArg kV p1
    have ey' : y = .ref p2 := by
      have := (Option.some.inj ey).symm
      rw [this]
      exact p3
    subst ex' ey'
    have e4 : Same H3 (upd H3 T (.tup [kV (Sum.inr (lt e.1)), .ref p2])) := same_new hT
    have m2 : MvAt H3 p2 e.2 := e3 _ _ (by unfold MvAt at p4; exact lock_get hq p4 (by intro z; cases z))
    refine ⟨T, _, rfl, SqT.of upd_same, rfl, _, _, rfl, _, _, rfl, ⟨p2, _, rfl, SqT.of (e4 _ _ m2), rfl, _, _, rfl, _, _, rfl, rfl, rfl, hw _ _ _, ?_⟩⟩
    exact hs od n e _ acc Qt Qf he (e3.trans e4) (hS _ _ _ _ (Same.tups e4) s) (fun y H4 e5 z => kt y H4 (e4.trans e5) z) fun H4 e5 z => kf H4 (e4.trans e5) z
  · rintro H1 acc e1 hd' s
    rw [hkl] at s
    have hq1 : H1 q = some (.frz od (.dK kvs)) := e1 _ _ upd_same
    refine ⟨hq1, hd D _ acc ?_ (lock_same hq e1) (by rw [upd_ne nDq]; exact hd') (hS _ _ _ _ (Tups.at hq1 (fun _ z => by cases z) fun c u hc h => by rw [upd_ne hc]; exact h) s)⟩
    rw [upd_ne nDq] at hD
    exact hD
end SS

set_option maxRecDepth 100000
set_option maxHeartbeats 4000000
namespace SR
open PySem PySem.Spec PyProof.Rows L2
section
variable {X : Cx}
/-- somewhere below the running body -/
theorem own_runN {n : Nat} {f : Addr} {fd : FuncData} {ps : List Str} {sp : Sp} (F : FnOk X.prog X.w X.K X.mg X.base CX0 n f fd ps sp) {A : Around} (sb : Sub X n A) (hb : Binds X.K fd ps [])
    {pins : List (Addr × Obj)} {s : Shared} {σ : L2.St} {H : Hp} {vs : List V} {us : List Value} {q : V → Hp → Prop} (I : Inv X pins σ H s) (r : Vals vs us) (hq : sp vs H q E0) : wpAny (model X.prog X.w) A (call (.ref f) us) (EP X pins σ q) X.xe s := by
  have e := I.env0
  have e0 : Env0 X.prog X.w X.K X.mg X.base A X.stack s H := ⟨by rw [sb.fr]; exact e.frames, e.mod, e.bs, e.bsz, e.funs, e.frf, e.hok, e.bare⟩
  have b := hb s us I.kIn (by rw [List.append_nil, ← r.length]; exact F.len _ _ _ _ hq)
  rw [List.append_nil] at b
  refine wpAny_call (codeAny_mono (F.run A X.stack s H ⟨us, []⟩ us vs _ E0 sb.room e0 b r hq) fun res s2 hz => ?_)
  rcases res with e | fl
  · exact pass0 pins σ H s e s2 I hz
  · cases fl with
    | ret v => exact I.after hz
    | next => exact hz.elim
    | brk => exact hz.elim
    | cont => exact hz.elim
theorem call_ownLenN {n : Nat} {C f : Addr} {fd : FuncData} {ps : List Str} {sp : Sp} (F : FnOk X.prog X.w X.K X.mg X.base CX0 n f fd ps sp) (hr : Room (n + 1) X.A)
    (hs : PySem.W.findIn X.K (.ref C) "__len__" = some (some (.ref f))) (hf : PySem.W.isFn X.K (.ref f) = true) (hb : Binds X.K fd ps []) : CallR X (.builtin "len") (rOwnLen C sp) := by
  intro pins s σ H xs us Q I r ⟨a, dx, fs, ex, ha, hq⟩
  subst ex
  obtain ⟨u, eu, rx⟩ := vals1 r
  subst eu
  obtain rfl : u = Value.ref a := rx
  obtain ⟨_, J, _⟩ := ins_get I.hok ha
  obtain ⟨_, J, _⟩ := J.look
  obtain ⟨_, hF⟩ := I.fr
  refine PySem.W.len_K hF I.ok.mod.kin J hs hf (wpAny_mono (own_runN (vs := [.ref a]) F (Sub.in1 ⟨hr, rfl⟩) hb I (.cons rfl .nil) hq) (fun z s2 ⟨b2, H2, I2, rb, i, ei, h0, h1, hQ⟩ => ?_) fun _ _ e => e)
  subst ei
  obtain ⟨t, rfl⟩ := rb
  exact ⟨⟨h0, Int.lt_trans h1 (by decide)⟩, .int i, H2, I2.tok _, ⟨_, rfl⟩, hQ⟩
/-- a list or a tuple walked, while what is at its address stands -/
def iLoA (tl : TE) : TI := fun σ H R => tl σ H fun x H1 => ∃ a xs, x = .ref a ∧ LoT H1 a xs ∧ ∀ (J : It) (G : Hp → Prop), Walk J xs.length G (YAt xs) → (∀ H', H' a = H1 a → G H') → R J H1
theorem pi_loa {tg l : Expr} {tl : TE} (hl : PE X l tl) : PI X tg l (iLoA tl) := by
  refine ⟨fun pins s σ H R I h => thn (hl.run pins s σ H _ I h) fun v s1 ⟨x, H1, I1, r1, a, xs, e, hq, q⟩ => ?_⟩
  subst e
  cases r1
  rcases hq with hq | hq
  · have hq' : SqL X.K H1 a xs := SqL.of hq
    obtain ⟨its, rv, p, hz⟩ := I1.list hq'
    exact wpAny_pyIter_list p.isList (pi_one (tk := s1.toks) I1 _ (turn_list a _) ⟨_, Heap.get?_push_size _ rfl, rfl, rfl⟩ (q (Itl X.K a) _ walk_list fun H' e => SqL.of (e.trans hq)))
  · have hq' : SqT X.K H1 a xs := SqT.of hq
    obtain ⟨its, rv, p, hz⟩ := I1.tuple hq'
    exact wpAny_pyIter_tuple (show s1.heap.IsTuple a its.toArray from p) (pi_one (tk := s1.toks) I1 _ (turn_tuple a _) ⟨_, Heap.get?_push_size _ rfl, rfl, rfl⟩ (q (Itt X.K a) _ walk_tup fun H' e => SqT.of (e.trans hq)))
end
end SR

set_option maxRecDepth 100000
set_option maxHeartbeats 4000000
set_option pp.maxSteps 1500
namespace SS
open PySem L2 SR TL
def rowOf (rows : List Rw) (s : Int) : Rw := (rows[s.toNat]?).getD []
theorem rowOf_get {rows : List Rw} {s : Int} (s0 : 0 ≤ s) (s1 : s < (rows.length : Int)) : rows[s.toNat]? = some (rowOf rows s) := by
  unfold rowOf
  rw [List.getElem?_eq_getElem (by omega)]
  rfl
/-- (sign, goal, told) -/
def TriAt (H : Hp) (t : Addr) (e : Nat × Mv) : Prop := H t = some (.tup [ltV e.1, .int e.2.1, tellV e.2.2])
section
variable {P : Program} {w : World} {K : PySem.W.Frag} {mg : Str → Option Value} {base : Heap}
/-! ### Reader.start, ends -/
abbrev sSrt : Stmt := inClass (top 23) 3
abbrev psSelf : List Str := ["self"]
theorem scSrt : FnScope psSelf psSelf (defScope sSrt) := ⟨rfl, rfl, rfl, by decide +kernel, rfl, by decide +kernel, by decide +kernel⟩
def spStart (C : Addr) : Sp := fun vs H Q _ => ∃ (x : Addr) (rows : List Rw) (ends : List Int) (start : Int), vs = [.ref x] ∧ RdAt C H x rows ends start ∧ Q (.int start) H
theorem ok_start {f C : Addr} {fd : FuncData} (F : Fun K "start" "Reader.start" sSrt f fd) (T : RTx K mg C) : FnOk P w K mg base CX0 1 f fd psSelf (spStart C) := by
  refine F.ok scSrt (fun vs H Q E h => ?_) (fun cdv A outer s H vs Q E hr h => ?_)
  · obtain ⟨x, rows, ends, start, rfl, _⟩ := h
    rfl
  · obtain ⟨x, rows, ends, start, rfl, R, k⟩ := h
    refine ⟨_, pss_one (ps_ret (pe_fld (pv 0) rfl)), ?_⟩
    obtain ⟨dx, pr, pe, fs, qs, h1, h2, h3, h4, h5, h6, h7, h8⟩ := R.ex
    exact ⟨_, rfl, x, C, dx, _, _, rfl, h1, T.cl, T.nS, h4, k⟩
abbrev sEns : Stmt := inClass (top 23) 4
theorem scEns : FnScope psSelf psSelf (defScope sEns) := ⟨rfl, rfl, rfl, by decide +kernel, rfl, by decide +kernel, by decide +kernel⟩
def spEnds (C : Addr) : Sp := fun vs H Q _ => ∃ (x : Addr) (rows : List Rw) (ends : List Int) (start : Int), vs = [.ref x] ∧ RdAt C H x rows ends start ∧ ∀ pe, H pe = some (.tup (ends.map .int)) → Q (.ref pe) H
theorem ok_ends {f C : Addr} {fd : FuncData} (F : Fun K "ends" "Reader.ends" sEns f fd) (T : RTx K mg C) : FnOk P w K mg base CX0 1 f fd psSelf (spEnds C) := by
  refine F.ok scEns (fun vs H Q E h => ?_) (fun cdv A outer s H vs Q E hr h => ?_)
  · obtain ⟨x, rows, ends, start, rfl, _⟩ := h
    rfl
  · obtain ⟨x, rows, ends, start, rfl, R, k⟩ := h
    refine ⟨_, pss_one (ps_ret (pe_fld (pv 0) rfl)), ?_⟩
    obtain ⟨dx, pr, pe, fs, qs, h1, h2, h3, h4, h5, h6, h7, h8⟩ := R.ex
    exact ⟨_, rfl, x, C, dx, _, _, rfl, h1, T.cl, T.nE, h3, k pe h8⟩
/-! ### __len__, __contains__ (a state), require_state -/
abbrev sRLen : Stmt := inClass (top 23) 10
theorem scRLen : FnScope psSelf psSelf (defScope sRLen) := ⟨rfl, rfl, rfl, by decide +kernel, rfl, by decide +kernel, by decide +kernel⟩
def spRLen (C : Addr) : Sp := fun vs H Q _ => ∃ (x : Addr) (rows : List Rw) (ends : List Int) (start : Int), vs = [.ref x] ∧ RdAt C H x rows ends start ∧ Q (.int (rows.length : Nat)) H
theorem ok_rlen {f C : Addr} {fd : FuncData} (F : Fun K "__len__" "Reader.__len__" sRLen f fd) (B : Bl mg) (T : RTx K mg C) : FnOk P w K mg base CX0 1 f fd psSelf (spRLen C) := by
  refine F.ok scRLen (fun vs H Q E h => ?_) (fun cdv A outer s H vs Q E hr h => ?_)
  · obtain ⟨x, rows, ends, start, rfl, _⟩ := h
    rfl
  · obtain ⟨x, rows, ends, start, rfl, R, k⟩ := h
    refine ⟨_, pss_one (ps_ret (pe_callB call_len_seq (by rfl) B.len boot_len (pa_cons (pe_fld (pv 0) rfl) pa_nil))), ?_⟩
    obtain ⟨dx, pr, pe, fs, qs, h1, h2, h3, h4, h5, h6, h7, h8⟩ := R.ex
    refine ⟨_, rfl, x, C, dx, _, _, rfl, h1, T.cl, T.nR, h2, pr, _, rfl, .inr (SqT.of h6), ?_⟩
    rw [List.length_map, Paired.length h7]
    exact k
abbrev sRCon : Stmt := inClass (top 23) 11
abbrev psRCon : List Str := ["self", "value"]
theorem scRCon : FnScope psRCon psRCon (defScope sRCon) := ⟨rfl, rfl, rfl, by decide +kernel, rfl, by decide +kernel, by decide +kernel⟩
def spRCon (C : Addr) : Sp := fun vs H Q _ => ∃ (x : Addr) (q : Int) (rows : List Rw) (ends : List Int) (start : Int), vs = [.ref x, .int q] ∧ RdAt C H x rows ends start ∧ 0 ≤ q ∧ q < (rows.length : Int) ∧ Q (.bl true) H
theorem ok_rcon {f C : Addr} {fd : FuncData} (F : Fun K "__contains__" "Reader.__contains__" sRCon f fd) (B : Bl mg) (T : RTx K mg C) (N : Cal P w K mg base "is_below" 1 ["value", "limit"] spNum) : FnOk P w K mg base CX0 2 f fd psRCon (spRCon C) := by
  refine F.ok scRCon (fun vs H Q E h => ?_) (fun cdv A outer s H vs Q E hr h => ?_)
  · obtain ⟨x, q, rows, ends, start, rfl, _⟩ := h
    rfl
  · obtain ⟨x, q, rows, ends, start, rfl, R, q0, q1, k⟩ := h
    have hr1 := hr
    refine ⟨_, pss_one (ps_ret (pe_cal N hr1 (pa_cons (pv 1) (pa_cons (pe_callB call_len_seq (by rfl) B.len boot_len (pa_cons (pe_fld (pv 0) rfl) pa_nil)) pa_nil)))), ?_⟩
    obtain ⟨dx, pr, pe, fs, qs, h1, h2, h3, h4, h5, h6, h7, h8⟩ := R.ex
    refine ⟨_, rfl, _, rfl, x, C, dx, _, _, rfl, h1, T.cl, T.nR, h2, pr, _, rfl, .inr (SqT.of h6), _, _, rfl, q0, ?_, k⟩
    rw [List.length_map, Paired.length h7]
    exact q1
/-- the class's own len and in -/
structure RdO (P : Program) (w : World) (K : PySem.W.Frag) (mg : Str → Option Value) (base : Heap) (C : Addr) : Prop where
  tx : RTx K mg C
  len : ∃ f fd, FnOk P w K mg base CX0 1 f fd psSelf (spRLen C) ∧ PySem.W.findIn K (.ref C) "__len__" = some (some (.ref f)) ∧ PySem.W.isFn K (.ref f) = true ∧ Binds K fd psSelf []
  con : ∃ f fd, FnOk P w K mg base CX0 2 f fd psRCon (spRCon C) ∧ PySem.W.findIn K (.ref C) "__contains__" = some (some (.ref f)) ∧ PySem.W.isFn K (.ref f) = true ∧ Binds K fd psRCon []
abbrev sRqs : Stmt := top 24
abbrev psRqs : List Str := ["reader", "value"]
theorem scRqs : FnScope psRqs psRqs (defScope sRqs) := ⟨rfl, rfl, rfl, by decide +kernel, rfl, by decide +kernel, by decide +kernel⟩
def spRqs (C : Addr) : Sp := fun vs H Q _ => ∃ (x : Addr) (q : Int) (rows : List Rw) (ends : List Int) (start : Int), vs = [.ref x, .int q] ∧ RdAt C H x rows ends start ∧ 0 ≤ q ∧ q < (rows.length : Int) ∧ Q .non H
theorem ok_rqs {f C : Addr} {fd : FuncData} (F : Fun K "require_state" "require_state" sRqs f fd) (R : RdO P w K mg base C) : FnOk P w K mg base CX0 3 f fd psRqs (spRqs C) := by
  obtain ⟨fc, dc, cF, cA, cI, cB⟩ := R.con
  refine F.ok scRqs (fun vs H Q E h => ?_) (fun cdv A outer s H vs Q E hr h => ?_)
  · obtain ⟨x, q, rows, ends, start, rfl, _⟩ := h
    rfl
  · obtain ⟨x, q, rows, ends, start, rfl, D, q0, q1, k⟩ := h
    refine ⟨_, pss_one (ps_if (pt_cmpR (op_notInOwn cF hr cA cI cB pass0) (pv 1) (pv 0) (by rfl)) (pss_one ps_never) pss_nil), ?_⟩
    obtain ⟨dx, pr, pe, fs, qs, h1, _⟩ := D.ex
    exact ⟨_, rfl, _, rfl, x, dx, fs, rfl, h1, x, q, rows, ends, start, rfl, D, q0, q1, _, rfl, _, rfl, iteF k⟩
/-! ### move -/
abbrev sMov : Stmt := inClass (top 23) 5
abbrev psMov : List Str := ["self", "state", "sign"]
theorem scMov : FnScope psMov psMov (defScope sMov) := ⟨rfl, rfl, rfl, by decide +kernel, rfl, by decide +kernel, by decide +kernel⟩
def spMov (C : Addr) : Sp := fun vs H Q _ => ∃ (x : Addr) (q : Int) (c : Nat) (rows : List Rw) (ends : List Int) (start : Int), vs = [.ref x, .int q, ltV c] ∧ RdAt C H x rows ends start ∧ 0 ≤ q ∧ q < (rows.length : Int) ∧
  (mvOf (rowOf rows q) c = none → Q .non H) ∧ ∀ m p, mvOf (rowOf rows q) c = some m → MvAt H p m → Q (.ref p) H
theorem ok_mov {f C : Addr} {fd : FuncData} (F : Fun K "move" "Reader.move" sMov f fd) (T : RTx K mg C) (Rs : Cal P w K mg base "require_state" 3 psRqs (spRqs C)) : FnOk P w K mg base CX0 4 f fd psMov (spMov C) := by
  refine F.ok scMov (fun vs H Q E h => ?_) (fun cdv A outer s H vs Q E hr h => ?_)
  · obtain ⟨x, q, c, rows, ends, start, rfl, _⟩ := h
    rfl
  · obtain ⟨x, q, c, rows, ends, start, rfl, D, q0, q1, kn, ks⟩ := h
    have hu := hu_of hr
    refine ⟨_, pss_cons (ps_expr (pe_cal Rs hr (pa_cons (pv 0) (pa_cons (pv 1) pa_nil))))
      (pss_one (ps_ret (pe_dget1 hu (pe_ix ix_tup (pe_fld (pv 0) rfl) (pv 1) (fun _ _ => rfl)) (pv 2) ⟨rfl, rfl, rfl, rfl⟩))), ?_⟩
    obtain ⟨dx, pr, pe, fs, qs, d1, d2, d3, d4, d5, d6, d7, d8⟩ := id D.ex
    obtain ⟨d, hd, hrow⟩ := paired_get _ d7 (rowOf_get q0 q1)
    obtain ⟨kvs, z1, z2⟩ := rw_iff.mp hrow
    refine ⟨_, rfl, _, rfl, x, q, rows, ends, start, rfl, D, q0, q1, ?_⟩
    refine ⟨_, rfl, x, C, dx, _, _, rfl, d1, T.cl, T.nR, d2, _, rfl, pr, _, _, .ref d, rfl, rfl, SqT.of d6, atI_of q0 (by rw [List.getElem?_map, hd]; rfl), d, rfl, .inl ⟨_, .inl z1⟩, _, rfl, _, DGet.k (k := Sum.inr (lt c)) z1, ?_⟩
    rcases ents_val (c := c) z2 with ⟨pm, m, v1, v2, v3⟩ | ⟨v1, v2, _⟩
    · rw [show valV kvs (Sum.inr (lt c)) = some (.ref pm) from v1]
      exact ks m pm v2 v3
    · rw [show valV kvs (Sum.inr (lt c)) = none from v1]
      exact kn v2
/-! ### moves -/
abbrev sMvs : Stmt := inClass (top 23) 6
abbrev nMvs : List Str := ["self", "state", "sign", "goal", "told"]
abbrev psMvs : List Str := ["self", "state"]
theorem scMvs : GScope nMvs psMvs (defScope sMvs) := ⟨rfl, rfl, rfl, by decide +kernel, rfl, by decide +kernel, by decide +kernel⟩
def spMvs (C : Addr) : SpG := fun vs H Q _ => ∃ (x : Addr) (q : Int) (rows : List Rw) (ends : List Int) (start : Int), vs = [.ref x, .int q] ∧ RdAt C H x rows ends start ∧ 0 ≤ q ∧ q < (rows.length : Int) ∧ (rowOf rows q).length ≤ 6 ∧
  ∀ (ts : List Addr) (H' : Hp), Same H H' → Paired (TriAt H') ts (rowOf rows q) → Q (ts.map .ref) H'
theorem ok_mvs {f C : Addr} {fd : FuncData} (F : Fun K "moves" "Reader.moves" sMvs f fd) (T : RTx K mg C) (Rs : Cal P w K mg base "require_state" 3 psRqs (spRqs C)) : GFn P w K mg base 4 f fd psMvs (spMvs C) := by
  refine F.gen scMvs (fun vs H Q E h => ?_) (fun cdv A outer s H vs Q E pn hr h => ?_)
  · obtain ⟨x, q, rows, ends, start, rfl, _⟩ := h
    rfl
  · obtain ⟨x, q, rows, ends, start, rfl, D, q0, q1, h6, k⟩ := h
    refine ⟨_, gss_cons (gs_ps (ps_expr (pe_cal Rs hr (pa_cons (pv 0) (pa_cons (pv 1) pa_nil)))))
      (gss_one (gs_lock (gs_for owns_gcx rfl (pi_items (pe_ix ix_tup (pe_fld (pv 0) rfl) (pv 1) (fun _ _ => rfl))) (pg_tup rfl (pgs_cons (pg_name (i := 2) scMvs.nd rfl (.inl rfl)) (pgs_cons (pg_tup rfl (pgs_cons (pg_name (i := 3) scMvs.nd rfl (.inl rfl)) (pgs_cons (pg_name (i := 4) scMvs.nd rfl (.inl rfl)) pgs_nil))) pgs_nil)))
        (gss_one (gs_yield (pe_tup (pa_cons (pv 2) (pa_cons (pv 3) (pa_cons (pv 4) pa_nil))))))))), ?_⟩
    obtain ⟨dx, pr, pe, fs, qs, d1, d2, d3, d4, d5, d6, d7, d8⟩ := id D.ex
    obtain ⟨d, hd, hrow⟩ := paired_get _ d7 (rowOf_get q0 q1)
    obtain ⟨kvs, z1, z2⟩ := rw_iff.mp hrow
    have hkl : kvs.length = (rowOf rows q).length := Paired.length z2
    refine ⟨_, rfl, _, rfl, x, q, rows, ends, start, rfl, D, q0, q1, ?_⟩
    refine ⟨d, _, z1, trivial, fun od => ?_⟩
    refine ⟨_, rfl, x, C, dx, _, _, rfl, lock_get z1 d1 (by intro z; cases z), T.cl, T.nR, d2, _, rfl, pr, _, _, .ref d, rfl, rfl, SqT.of (lock_get z1 d6 (by intro z; cases z)), atI_of q0 (by rw [List.getElem?_map, hd]; rfl), d, od, kvs, rfl, upd_same, ?_⟩
    refine gfor_it (walk_items (d := d) (o := od) (kvs := kvs)) (fun n ys σ HL => Same (upd H d (.frz od (.dK kvs))) HL ∧ ∃ (ts : List Addr) (a2 a3 a4 : Option V), σ = [some (.ref x), some (.int q), a2, a3, a4] ∧ ys = ts.map .ref ∧ Paired (TriAt HL) ts ((rowOf rows q).take n)) ?_ (fun n ys σ HL _ p => p.1 _ _ upd_same) ?_ ?_
    · exact ⟨Same.refl _, [], none, none, none, rfl, rfl, .nil⟩
    · rintro n v ys σ H3 H3' hn ⟨e3, ts, a2, a3, a4, rfl, rfl, hts⟩ ⟨T2, u, y, rfl, hT, rfl, ex, ey⟩
      obtain ⟨e, he⟩ : ∃ e, (rowOf rows q)[n]? = some e := ⟨_, List.getElem?_eq_getElem (by omega)⟩
      have ekv : kvs[n]? = some kvs[n] := List.getElem?_eq_getElem hn
      have hkk : kvs[n]? = some ((kvs[n]).1, (kvs[n]).2) := ekv
      obtain ⟨p1, p2, p3, p4⟩ := paired_at z2 hkk he
      dsimp only at ex ey
      rw [ekv] at ex ey
      have ex' : u = kV (Sum.inr (lt e.1)) := by
        have := (Option.some.inj ex).symm
        rw [this]
        exact congrArg kV p1
      have ey' : y = .ref p2 := by
        have := (Option.some.inj ey).symm
        rw [this]
        exact p3
      subst ex' ey'
      have e4 : Same H3 (upd H3 T2 (.tup [kV (Sum.inr (lt e.1)), .ref p2])) := same_new hT
      have m2 : MvAt H3 p2 e.2 := e3 _ _ (by unfold MvAt at p4; exact lock_get z1 p4 (by intro z; cases z))
      refine ⟨T2, _, rfl, SqT.of upd_same, rfl, _, _, rfl, _, _, rfl, ⟨p2, _, rfl, SqT.of (e4 _ _ m2), rfl, _, _, rfl, _, _, rfl, rfl, rfl, ?_⟩⟩
      have htl := Paired.length hts
      rw [List.length_take] at htl
      refine ⟨by rw [List.length_map, sizeLine_eq]; omega, _, rfl, _, rfl, _, rfl, (by show 3 ≤ sizeLine; decide), fun t ht => ?_⟩
      have e5 := e4.trans (same_new (o := .tup [ltV e.1, .int e.2.1, tellV e.2.2]) ht)
      refine ⟨e3.trans e5, ts ++ [t], _, _, _, rfl, by simp, ?_⟩
      rw [List.take_add_one, he]
      exact paired_snoc (Paired.mono hts fun a b g => e5 _ _ g) upd_same
    · rintro ys σ H3 ⟨e3, ts, a2, a3, a4, rfl, rfl, hts⟩
      rw [hkl, List.take_length] at hts
      have hq1 : H3 d = some (.frz od (.dK kvs)) := e3 _ _ upd_same
      exact ⟨hq1, k ts _ (lock_same z1 e3) (Paired.mono hts fun a b g => by
        show (upd H3 d (.dK kvs)) a = _
        rw [upd_ne (fun z => by rw [TriAt, z, hq1] at g; cases g)]
        exact g)⟩
end
end SS

set_option maxRecDepth 100000
set_option maxHeartbeats 4000000
set_option pp.maxSteps 1500
namespace SS
open PySem L2 SR TL
/-- does a value stand for a number below m -/
def below (v : V) (m : Int) : Bool := match v with
  | .int i => decide (0 ≤ i) && decide (i < m)
  | _ => false
section
variable {P : Program} {w : World} {K : PySem.W.Frag} {mg : Str → Option Value} {base : Heap}
/-! ### is_below, in: any value -/
def Any (H : Hp) (v : V) : Prop := NonStr H v ∨ ∃ z, v = .str z
theorem Any.mono {H H' : Hp} {v : V} (e : Same H H') (h : Any H v) : Any H' v := h.elim (fun h => .inl (h.mono e)) .inr
theorem Any.case {H : Hp} {v : V} (h : Any H v) : (∃ i, v = .int i) ∨ (∃ b, v = .bl b) ∨ ((∀ m, below v m = false) ∧ ∃ t, TyX K H v t ∧ PySem.W.kitOne K t (.type "int") = some false) := by
  rcases h with h | ⟨z, rfl⟩
  · rcases h with rfl | ⟨i, rfl⟩ | ⟨b, rfl⟩ | ⟨a, rfl, ⟨xs, z⟩ | ⟨xs, z⟩ | ⟨xs, z⟩⟩
    · exact .inr (.inr ⟨fun _ => rfl, _, .base .non, kit_ty (by decide +kernel)⟩)
    · exact .inl ⟨i, rfl⟩
    · exact .inr (.inl ⟨b, rfl⟩)
    · exact .inr (.inr ⟨fun _ => rfl, _, .base (.lst z), kit_ty (by decide +kernel)⟩)
    · exact .inr (.inr ⟨fun _ => rfl, _, .base (.tup z), kit_ty (by decide +kernel)⟩)
    · exact .inr (.inr ⟨fun _ => rfl, _, .base (.dK z), kit_ty (by decide +kernel)⟩)
  · exact .inr (.inr ⟨fun _ => rfl, _, .base (.str z), kit_ty (by decide +kernel)⟩)
def spNumV : Sp := fun vs H Q _ => ∃ v m, vs = [v, .int m] ∧ Any H v ∧ Q (.bl (below v m)) H
theorem ok_numV {f : Addr} {fd : FuncData} (F : Fun K "is_below" "is_below" sNum f fd) (B : Bl mg) : FnOk P w K mg base CX0 1 f fd ["value", "limit"] spNumV := by
  refine F.ok scNum (fun vs H Q E h => ?_) (fun cdv A outer s H vs Q E hr h => ?_)
  · obtain ⟨v, m, rfl, _⟩ := h
    rfl
  · obtain ⟨v, m, rfl, hv, k⟩ := h
    refine ⟨_, pss_one (ps_ret (pe_and (pe_callB call_isi (by rfl) B.isinstance (by decide +kernel) (pa_cons (pv 0) (pa_cons (pe_bltn (v := .ty "int") (by rfl) B.int (by decide +kernel) rfl) pa_nil)))
      (pe_and (pe_not (pe_callB call_isi (by rfl) B.isinstance (by decide +kernel) (pa_cons (pv 0) (pa_cons (pe_bltn (v := .ty "bool") (by rfl) B.bool (by decide +kernel) rfl) pa_nil))))
        (pe_one (pe_chain op_le op_lt pe_int (pv 0) (pv 1)))))), ?_⟩
    rcases hv.case (K := K) with ⟨i, rfl⟩ | ⟨b, rfl⟩ | ⟨hb, t, h1, h2⟩
    · refine ⟨_, rfl, _, _, _, _, true, rfl, .ty "int", .base (.int i), kit_ty (by decide +kernel), true, rfl, ?_⟩
      refine ⟨_, rfl, _, _, _, _, false, rfl, .ty "bool", .base (.int i), kit_ty (by decide +kernel), false, rfl, true, rfl, ?_⟩
      refine ⟨_, rfl, _, _, rfl, rfl, _, rfl, ?_⟩
      by_cases i0 : 0 ≤ i
      · rw [decide_eq_true i0]
        refine ⟨_, rfl, _, _, rfl, rfl, ?_⟩
        have : below (.int i) m = decide (i < m) := by
          show (decide (0 ≤ i) && decide (i < m)) = _
          rw [decide_eq_true i0]
          rfl
        rw [this] at k
        exact k
      · rw [decide_eq_false i0]
        have : below (.int i) m = false := by
          show (decide (0 ≤ i) && decide (i < m)) = _
          rw [decide_eq_false i0]
          rfl
        rw [this] at k
        exact k
    · refine ⟨_, rfl, _, _, _, _, true, rfl, .ty "int", .base (.bl b), kit_ty (by decide +kernel), true, rfl, ?_⟩
      exact ⟨_, rfl, _, _, _, _, true, rfl, .ty "bool", .base (.bl b), kit_ty (by decide +kernel), true, rfl, false, rfl, k⟩
    · rw [hb] at k
      exact ⟨_, rfl, _, _, t, _, false, rfl, .ty "int", h1, h2, false, rfl, k⟩
def spRConV (C : Addr) : Sp := fun vs H Q _ => ∃ (x : Addr) (v : V) (rows : List Rw) (ends : List Int) (start : Int), vs = [.ref x, v] ∧ RdAt C H x rows ends start ∧ Any H v ∧ Q (.bl (below v (rows.length : Nat))) H
theorem ok_rconV {f C : Addr} {fd : FuncData} (F : Fun K "__contains__" "Reader.__contains__" sRCon f fd) (B : Bl mg) (T : RTx K mg C) (N : Cal P w K mg base "is_below" 1 ["value", "limit"] spNumV) : FnOk P w K mg base CX0 2 f fd psRCon (spRConV C) := by
  refine F.ok scRCon (fun vs H Q E h => ?_) (fun cdv A outer s H vs Q E hr h => ?_)
  · obtain ⟨x, q, rows, ends, start, rfl, _⟩ := h
    rfl
  · obtain ⟨x, q, rows, ends, start, rfl, R, hv, k⟩ := h
    have hr1 := hr
    refine ⟨_, pss_one (ps_ret (pe_cal N hr1 (pa_cons (pv 1) (pa_cons (pe_callB call_len_seq (by rfl) B.len boot_len (pa_cons (pe_fld (pv 0) rfl) pa_nil)) pa_nil)))), ?_⟩
    obtain ⟨dx, pr, pe, fs, qs, h1, h2, h3, h4, h5, h6, h7, h8⟩ := R.ex
    refine ⟨_, rfl, _, rfl, x, C, dx, _, _, rfl, h1, T.cl, T.nR, h2, pr, _, rfl, .inr (SqT.of h6), _, _, rfl, hv, ?_⟩
    rw [List.length_map, Paired.length h7]
    exact k
/-! ### InvalidState -/
abbrev sIsi : Stmt := inClass (top 4) 0
abbrev nIs : List Str := ["self", "value"]
theorem scIsi : FnScope nIs nIs (defScope sIsi) := ⟨rfl, rfl, rfl, by decide +kernel, rfl, by decide +kernel, by decide +kernel⟩
/-- what the walk asks of the class -/
structure IsT (K : PySem.W.Frag) (mg : Str → Option Value) (D Z : Addr) : Prop where
  ox : OexB "ValueError.__new__" tlV K D
  nV : PySem.W.findIn K (.ref D) "value" = some none
  mgD : mg "InvalidState" = some (.ref D)
  z : ZinV K mg "SlotsError" Z
def spIsi (D : Addr) (K : PySem.W.Frag) : Sp := fun vs H Q _ => ∃ (a : Addr) (v : V), vs = [.ref a, v] ∧ Odd K H v ∧ H a = some (exo a D none) ∧ ∀ d H', H d = none → H' a = some (exo a D (some d)) → H' d = some (exd d [("value", v)]) → SameB a H H' → Q .non H'
theorem ok_isi {f D Z : Addr} {fd : FuncData} (F : Fun K "__init__" "InvalidState.__init__" sIsi f fd) (T : IsT K mg D Z) : FnOk P w K mg base CX0 1 f fd nIs (spIsi D K) := by
  refine F.ok scIsi (fun vs H Q E h => ?_) (fun cdv A outer s H vs Q E hr h => ?_)
  · obtain ⟨a, v, rfl, _⟩ := h
    rfl
  · obtain ⟨a, v, rfl, ho, ha, k⟩ := h
    refine ⟨_, pss_cons (ps_expr (pe_reinitZ (by rfl) T.z (pa_cons (pv 0) (pa_cons (pe_joined (.cons pe_str (.cons (pe_fmtO (u0 hr) (pv 1)) .nil))) pa_nil))))
      (pss_one (ps_ostB baseV (pv 0) (pv 1))), ?_⟩
    have sz := sizeLine_eq
    have m1 : (Str.ofString "no state: ").length = 10 := rfl
    have m0 : Str.empty.length = 0 := rfl
    refine ⟨_, rfl, _, rfl, by rw [strLen_append]; omega, _, rfl, ho, fun y hy => ⟨_, rfl, by rw [strLen_append, strLen_append]; omega, ?_⟩⟩
    refine ⟨a, D, _, rfl, by show 1 ≤ 1000; decide, T.ox, ha, ?_⟩
    refine ⟨_, rfl, _, rfl, a, D, rfl, T.ox, T.nV, .inl ⟨ha, fun d hd hda => ?_⟩⟩
    refine k d _ hd upd_same ?_ fun b o hb hbo => ?_
    · rw [upd_ne hda, upd_same]
    · have nb : b ≠ d := ne_of_none hbo hd
      rw [upd_ne hb, upd_ne nb]
      exact hbo
/-- the class InvalidState as it stands -/
structure Is (P : Program) (w : World) (K : PySem.W.Frag) (mg : Str → Option Value) (base : Heap) (D Z : Addr) : Prop where
  t : IsT K mg D Z
  ini : ∃ f fd, PySem.W.findIn K (.ref D) "__init__" = some (some (.ref f)) ∧ PySem.W.typeIn K (.ref f) = some (.type "function") ∧ FnOk P w K mg base CX0 1 f fd nIs (spIsi D K) ∧ Binds K fd nIs []
/-! ### require_state, of any value -/
/-- the class's own in, of any value -/
structure ConV (P : Program) (w : World) (K : PySem.W.Frag) (mg : Str → Option Value) (base : Heap) (C : Addr) : Prop where
  ex : ∃ f fd, FnOk P w K mg base CX0 2 f fd psRCon (spRConV C) ∧ PySem.W.findIn K (.ref C) "__contains__" = some (some (.ref f)) ∧ PySem.W.isFn K (.ref f) = true ∧ Binds K fd psRCon []
def NoState (K : PySem.W.Frag) (H : Hp) (n : Nat) (v : V) : Prop := Any H v ∧ below v (n : Nat) = false ∧ Odd K H v
theorem NoState.mono {K : PySem.W.Frag} {H H' : Hp} {n : Nat} {v : V} (e : Same H H') (h : NoState K H n v) : NoState K H' n v := ⟨h.1.mono e, h.2.1, h.2.2.mono e⟩
/-- the way out: InvalidState with the value -/
def outS (D : Addr) (v : V) (H : Hp) (E : XK) : Prop := ∀ d H', H d = none → Same H H' → H' d = some (.xd [("value", v)]) → E (.ref D) (some d) H'
def spRqS (C D : Addr) (K : PySem.W.Frag) : Sp := fun vs H Q E => ∃ (x : Addr) (v : V) (rows : List Rw) (ends : List Int) (start : Int), vs = [.ref x, v] ∧ RdAt C H x rows ends start ∧ ((∃ q : Int, v = .int q ∧ 0 ≤ q ∧ q < (rows.length : Int) ∧ Q .non H) ∨ (NoState K H rows.length v ∧ outS D v H E))
theorem ok_rqS {f C D Z : Addr} {fd : FuncData} (F : Fun K "require_state" "require_state" sRqs f fd) (S : Is P w K mg base D Z) (R : ConV P w K mg base C) : FnOk P w K mg base (L2.CX P w) 3 f fd psRqs (spRqS C D K) := by
  obtain ⟨fI, fdI, iC, tI, FI, bI⟩ := S.ini
  obtain ⟨fc, dc, cF, cA, cI, cB⟩ := R.ex
  refine F.okX scRqs (fun vs H Q E h => ?_) (fun cdv A outer s H vs Q E hr h => ?_)
  · obtain ⟨x, v, rows, ends, start, rfl, _⟩ := h
    rfl
  · obtain ⟨x, v, rows, ends, start, rfl, D', h⟩ := h
    refine ⟨_, pss_one (ps_if (pt_cmpR (op_notInOwn cF hr cA cI cB pass0) (pv 1) (pv 0) (by rfl))
        (pss_one (ps_raise rfl (takes_of rfl rfl rfl rfl) (pmk_oexB baseV S.t.ox iC tI FI hr bI pass0 (by rfl) S.t.mgD (pa_cons (pv 1) pa_nil)))) pss_nil), ?_⟩
    obtain ⟨dx, pr, pe, fs, qs, h1, _⟩ := id D'.ex
    rcases h with ⟨q, rfl, q0, q1, k⟩ | ⟨nw, out⟩
    · refine ⟨_, rfl, _, rfl, x, dx, fs, rfl, h1, x, _, rows, ends, start, rfl, D', .inl (.inr (.inl ⟨q, rfl⟩)), _, rfl, _, rfl, ?_⟩
      rw [show below (.int q) ((rows.length : Nat) : Int) = true from by show (decide (0 ≤ q) && decide (q < ((rows.length : Nat) : Int))) = true; rw [decide_eq_true q0, decide_eq_true q1]; rfl]
      exact iteF k
    · refine ⟨_, rfl, _, rfl, x, dx, fs, rfl, h1, x, v, rows, ends, start, rfl, D', nw.1, _, rfl, _, rfl, ?_⟩
      rw [nw.2.1]
      refine iteT ?_
      refine ⟨_, rfl, by show 1 ≤ 1000; decide, fun a ha => ⟨a, v, rfl, nw.2.2.mono (same_new ha), upd_same, fun d H2 hd h1 h2 sb => ⟨rfl, d, _, h1, h2, ?_, ?_⟩⟩⟩
      · have hda : d ≠ a := fun z => by rw [z, upd_same] at hd; cases hd
        rw [upd_ne hda] at hd
        exact hd
      · have hda : d ≠ a := fun z => by rw [z, upd_same] at hd; cases hd
        have hdH : H d = none := by rw [upd_ne hda] at hd; exact hd
        refine out d _ hdH (fun b o hb => ?_) upd_same
        have nba : b ≠ a := ne_of_none hb ha
        rw [upd_ne (ne_of_none hb hdH), del_ne nba]
        exact sb b o nba (by rw [upd_ne nba]; exact hb)
end
end SS

set_option maxRecDepth 100000
set_option maxHeartbeats 4000000
set_option pp.maxSteps 1500
namespace SS
open PySem L2 SR TL
/-! ### what the moves tell -/
def behind (rows : List Rw) : Int → List Nat → List Mv
  | _, [] => []
  | s, c :: cs => match mvOf (rowOf rows s) c with
    | none => []
    | some m => m :: behind rows m.1 cs
def lastS (s : Int) (b : List Mv) : Int := (b.getLast?.map (·.1)).getD s
/-- the reading, or where it ends -/
def rdg (rows : List Rw) (ends : List Int) (start : Int) (page : List Nat) : List (List Nat) ⊕ Nat :=
  if (behind rows start page).length < page.length ∨ lastS start (behind rows start page) ∉ ends then .inr (behind rows start page).length else .inl ((behind rows start page).filterMap (·.2))
theorem behind_len (rows : List Rw) : ∀ (page : List Nat) (s : Int), (behind rows s page).length ≤ page.length
  | [], s => Nat.le_refl _
  | c :: cs, s => by
    unfold behind
    cases mvOf (rowOf rows s) c with
    | none => exact Nat.zero_le _
    | some m => exact Nat.succ_le_succ (behind_len rows cs m.1)
/-- the moves stay among the states -/
structure Rdy (rows : List Rw) (start : Int) : Prop where
  most : rows.length ≤ 12
  goal : ∀ row ∈ rows, ∀ e ∈ row, 0 ≤ e.2.1 ∧ e.2.1 < (rows.length : Int)
  told : ∀ row ∈ rows, ∀ e ∈ row, ∀ x, e.2.2 = some x → Lets x
  st0 : 0 ≤ start
  st1 : start < (rows.length : Int)
theorem mvOf_mem {row : Rw} {c : Nat} {m : Mv} (h : mvOf row c = some m) : (c, m) ∈ row := by
  unfold mvOf at h
  obtain ⟨e, he, rfl⟩ := Option.map_eq_some_iff.mp h
  have h1 := List.mem_of_find?_eq_some he
  have h2 : e.1 = c := by simpa using List.find?_some he
  rw [← h2]
  exact h1
/-- a move as data -/
def mvD (m : Mv) : PyData := .tuple [.int m.1, match m.2 with | none => .none | some x => .str (txt x)]
def TellOk (m : Mv) : Prop := ∀ x, m.2 = some x → Lets x
theorem mvD_lay : ∀ m : Mv, TellOk m → (mvD m).canLay0 = true ∧ (mvD m).depth = 1
  | (_, none), _ => by simp [mvD, PyData.canLay0, PyData.canLayAll0, PyData.depth, PyData.depthAll]
  | (_, some x), h => by
    have : PyData.strOk (txt x) = true := by
      unfold PyData.strOk
      rw [← Array.all_toList]
      exact List.all_eq_true.mpr fun c hc => decide_eq_true (by have := h x rfl c (by simpa [txt] using hc); omega)
    simp [mvD, PyData.canLay0, PyData.canLayAll0, PyData.depth, PyData.depthAll, this]
theorem mvD_all : ∀ l : List Mv, (∀ m ∈ l, TellOk m) → PyData.canLayAll0 (l.map mvD) = true ∧ PyData.depthAll (l.map mvD) ≤ 1
  | [], _ => ⟨rfl, by simp [PyData.depthAll]⟩
  | b :: l, h => by
    obtain ⟨h1, h2⟩ := mvD_all l fun m hm => h m (List.mem_cons_of_mem _ hm)
    obtain ⟨g1, g2⟩ := mvD_lay b (h b List.mem_cons_self)
    refine ⟨by rw [List.map_cons, PyData.canLayAll0, g1, h1]; rfl, ?_⟩
    rw [List.map_cons, PyData.depthAll, g2]
    omega
theorem mvD_shaped (l : List Mv) (h : ∀ m ∈ l, TellOk m) : SeqAt.shaped (.list (l.map mvD)) = true := by
  obtain ⟨h1, h2⟩ := mvD_all l h
  unfold SeqAt.shaped
  rw [PyData.canLay0, h1, PyData.depth, decide_eq_true (show PyData.depthAll (l.map mvD) + 1 ≤ 64 by omega)]
  rfl
theorem behind_told {rows : List Rw} (ht : ∀ row ∈ rows, ∀ e ∈ row, TellOk e.2) : ∀ (page : List Nat) (s : Int), ∀ m ∈ behind rows s page, TellOk m
  | [], s, m, hm => by cases hm
  | c :: cs, s, m, hm => by
    unfold behind at hm
    cases h : mvOf (rowOf rows s) c with
    | none => rw [h] at hm; cases hm
    | some m' =>
      rw [h] at hm
      rcases List.mem_cons.mp hm with rfl | hm
      · have h1 := mvOf_mem h
        unfold rowOf at h1
        cases h2 : rows[s.toNat]? with
        | none => rw [h2] at h1; cases h1
        | some row =>
          rw [h2] at h1
          exact ht row (List.mem_of_getElem? h2) _ h1
      · exact behind_told ht cs _ m hm
section
variable {P : Program} {w : World} {K : PySem.W.Frag} {mg : Str → Option Value} {base : Heap}
/-! ### steps -/
abbrev sStp : Stmt := top 29
abbrev nStp : List Str := ["reader", "page", "state", "sign", "told"]
abbrev psStp : List Str := ["reader", "page"]
theorem scStp : GScope nStp psStp (defScope sStp) := ⟨rfl, rfl, rfl, by decide +kernel, rfl, by decide +kernel, by decide +kernel⟩
def spStp (C D : Addr) (K : PySem.W.Frag) : SpG := fun vs H Q E => (∃ (x : Addr) (page : List Nat) (rows : List Rw) (ends : List Int) (start : Int), vs = [.ref x, txtV page] ∧ RdAt C H x rows ends start ∧ Rdy rows start ∧ Lets page ∧ page.length ≤ 60 ∧
    ∀ (ps : List Addr) (H' : Hp), Same H H' → Paired (MvAt H') ps (behind rows start page) → Q (ps.map .ref) H') ∨ (∃ (x : Addr) (v : V), vs = [.ref x, v] ∧ NoWord K H v ∧ outW D v H E)
theorem ok_stp {f C D : Addr} {fd : FuncData} (F : Fun K "steps" "steps" sStp f fd) (T : RTx K mg C) (Rq : CalX P w K mg base "require_word" 3 psRqw (spRqX K D)) : GFn P w K mg base 4 f fd psStp (spStp C D K) := by
  refine F.gen scStp (fun vs H Q E h => ?_) (fun cdv A outer s H vs Q E pn hr h => ?_)
  · rcases h with ⟨x, page, rows, ends, start, rfl, _⟩ | ⟨x, v, rfl, _⟩ <;> rfl
  · have hu := hu_of hr
    refine ⟨_, gss_cons (gs_ps (ps_expr (pe_calX (E := E) Rq hr (passes_call takes_gcx (fun _ _ _ _ h => h)) (pa_cons (pv 1) pa_nil))))
      (gss_cons (gs_ps (ps_set (i := 2) scStp.nd rfl (.inl rfl) (pe_fld (pv 0) rfl)))
      (gss_one (gs_for owns_gcx rfl (pi_str (pv 1)) (pg_name (i := 3) scStp.nd rfl (.inl rfl))
        (gss_cons (gs_if (pt_cmp (pc_dnotin hu (pv 3) (pe_ix ix_tup (pe_fld (pv 0) rfl) (pv 2) (fun _ _ => rfl)))) (gss_pss (pss_one ps_retN)) gss_nil)
        (gss_cons (gs_ps (ps_asg (pe_dget hu (pe_ix ix_tup (pe_fld (pv 0) rfl) (pv 2) (fun _ _ => rfl)) (pv 3) (fun _ _ => rfl)) (pg_tup rfl (pgs_cons (pg_name (i := 2) scStp.nd rfl (.inl rfl)) (pgs_cons (pg_name (i := 4) scStp.nd rfl (.inl rfl)) pgs_nil)))))
        (gss_one (gs_yield (pe_tup (pa_cons (pv 2) (pa_cons (pv 4) pa_nil)))))))))), ?_⟩
    rcases h with ⟨x, page, rows, ends, start, rfl, R, Y, hp, hl, k⟩ | ⟨x, v, rfl, nw, out⟩
    · refine ⟨_, rfl, _, rfl, .inl ⟨page, rfl, hp, by omega, fun H0 e0 => ?_⟩⟩
      have R0 := R.mono e0
      obtain ⟨dx, pr, pe, fs, qs, h1, h2, h3, h4, h5, h6, h7, h8⟩ := R0.ex
      refine ⟨_, rfl, x, C, dx, _, _, rfl, h1, T.cl, T.nS, h4, ?_⟩
      refine ⟨_, rfl, _, rfl, gfor_it walk_str (fun i ys σ H' => Same H0 H' ∧ ∃ (q : Int) (ps : List Addr) (pre : List Mv) (a3 a4 : Option V), σ = [some (.ref x), some (txtV page), some (.int q), a3, a4] ∧ ys = ps.map .ref ∧ Paired (MvAt H') ps pre ∧ pre.length = i ∧ behind rows start page = pre ++ behind rows q (page.drop i) ∧ 0 ≤ q ∧ q < (rows.length : Int)) ?_ (fun _ _ _ _ _ _ => trivial) ?_ ?_⟩
      · exact ⟨Same.refl _, start, [], [], none, none, rfl, rfl, .nil, rfl, rfl, Y.st0, Y.st1⟩
      · rintro i v ys σ H1' H1 hi ⟨e1, q, ps, pre, a3, a4, rfl, rfl, hps, hpre, hb, q0, q1⟩ ⟨rfl, c, hc, rfl⟩
        have hc' : page[i]? = some c := by simpa [txt] using hc
        have hil : i < page.length := (List.getElem?_eq_some_iff.mp hc').1
        have hd : page.drop i = c :: page.drop (i + 1) := by
          rw [List.drop_eq_getElem_cons hil, (List.getElem?_eq_some_iff.mp hc').2]
        obtain ⟨row, hrow⟩ : ∃ row, rows[q.toNat]? = some row := ⟨_, List.getElem?_eq_getElem (by omega)⟩
        obtain ⟨p, hp1, hp2⟩ := paired_get _ h7 hrow
        have hrm : row ∈ rows := List.mem_of_getElem? hrow
        have ero : rowOf rows q = row := by unfold rowOf; rw [hrow]; rfl
        obtain ⟨kvs, z1, z2⟩ := rw_iff.mp (hp2.mono e1)
        have hix : atI (qs.map V.ref) q = some (.ref p) := by
          exact atI_of q0 (by rw [List.getElem?_map, hp1]; rfl)
        have hv := ents_val (c := c) z2
        refine ⟨_, rfl, _, rfl, x, C, dx, _, _, rfl, e1 _ _ h1, T.cl, T.nR, h2, _, rfl, pr, _, _, _, rfl, rfl, SqT.of (e1 _ _ h6), hix, p, _, rfl, DGet.k (k := Sum.inr (lt c)) z1, ?_⟩
        rcases hv with ⟨pm, m, v1, v2, v3⟩ | ⟨v1, v2, _⟩
        · rw [show valV kvs (Sum.inr (lt c)) = some (.ref pm) from v1]
          refine ⟨_, rfl, iteF ?_⟩
          refine ⟨_, rfl, x, C, dx, _, _, rfl, e1 _ _ h1, T.cl, T.nR, h2, _, rfl, pr, _, _, _, rfl, rfl, SqT.of (e1 _ _ h6), hix, _, rfl, p, _, rfl, v1 ▸ DGet.k (k := Sum.inr (lt c)) z1, ?_⟩
          refine ⟨pm, _, rfl, SqT.of v3, rfl, _, _, rfl, _, _, rfl, rfl, ?_⟩
          have hpl : ps.length = pre.length := Paired.length hps
          refine ⟨by rw [List.length_map, hpl, sizeLine_eq]; omega, _, rfl, _, rfl, (by show 2 ≤ sizeLine; decide), fun t ht => ?_⟩
          have e2 : Same H1 (upd H1 t (.tup [.int m.1, tellV m.2])) := same_new ht
          obtain ⟨g0, g1⟩ := Y.goal row hrm _ (mvOf_mem v2)
          refine ⟨e1.trans e2, m.1, ps ++ [t], pre ++ [m], _, _, rfl, by simp, paired_snoc (Paired.mono hps fun a b g => e2 _ _ g) upd_same, by rw [List.length_append, hpre]; rfl, ?_, g0, g1⟩
          rw [hb, hd]
          show _ = pre ++ [m] ++ behind rows m.1 _
          rw [List.append_assoc]
          congr 1
          conv => lhs; unfold behind
          rw [ero, v2]
          rfl
        · rw [show valV kvs (Sum.inr (lt c)) = none from v1]
          refine ⟨_, rfl, iteT ⟨rfl, ?_⟩⟩
          refine k ps H1 (e0.trans e1) ?_
          have : behind rows start page = pre := by
            rw [hb, hd]
            conv => lhs; rhs; unfold behind
            rw [ero, v2]
            exact List.append_nil _
          rw [this]
          exact hps
      · rintro ys σ H1 ⟨e1, q, ps, pre, a3, a4, rfl, rfl, hps, hpre, hb, q0, q1⟩
        refine k ps H1 (e0.trans e1) ?_
        have : behind rows start page = pre := by
          rw [hb, List.drop_eq_nil_of_le (by simp [txt])]
          exact List.append_nil _
        rw [this]
        exact hps
    · exact ⟨_, rfl, _, rfl, .inr ⟨nw, out⟩⟩
/-- a generator def of the top -/
structure CalGn (P : Program) (w : World) (K : PySem.W.Frag) (mg : Str → Option Value) (base : Heap) (x : Str) (k : Nat) (ps : List Str) (sp : SpG) : Prop where
  ex : ∃ f fd, GFn P w K mg base k f fd ps sp ∧ mg x = some (.ref f) ∧ PySem.W.keepIn K (.ref f) = true ∧ Binds K fd ps []
end
end SS

set_option maxRecDepth 100000
set_option maxHeartbeats 4000000
set_option pp.maxSteps 1500
namespace SS
open PySem L2 SR TL
section
variable {P : Program} {w : World} {K : PySem.W.Frag} {mg : Str → Option Value} {base : Heap}
/-! ### move, moves, of no state -/
def spMovS (C D : Addr) (K : PySem.W.Frag) : Sp := fun vs H Q E => ∃ (x : Addr) (v : V) (c : Nat) (rows : List Rw) (ends : List Int) (start : Int), vs = [.ref x, v, ltV c] ∧ RdAt C H x rows ends start ∧ NoState K H rows.length v ∧ outS D v H E
theorem ok_movS {f C D : Addr} {fd : FuncData} (F : Fun K "move" "Reader.move" sMov f fd) (Rs : CalX P w K mg base "require_state" 3 psRqs (spRqS C D K)) : FnOk P w K mg base (L2.CX P w) 4 f fd psMov (spMovS C D K) := by
  refine F.okX scMov (fun vs H Q E h => ?_) (fun cdv A outer s H vs Q E hr h => ?_)
  · obtain ⟨x, v, c, rows, ends, start, rfl, _⟩ := h
    rfl
  · obtain ⟨x, v, c, rows, ends, start, rfl, D', nw, out⟩ := h
    have hu := hu_of hr
    refine ⟨_, pss_cons (ps_expr (pe_calX (E := E) Rs hr (passes_call (takes_of rfl rfl rfl rfl) (fun _ _ _ _ h => h)) (pa_cons (pv 0) (pa_cons (pv 1) pa_nil))))
      (pss_one (ps_ret (pe_dget1 hu (pe_ix ix_tup (pe_fld (pv 0) rfl) (pv 1) (fun _ _ => rfl)) (pv 2) ⟨rfl, rfl, rfl, rfl⟩))), ?_⟩
    exact ⟨_, rfl, _, rfl, x, v, rows, ends, start, rfl, D', .inr ⟨nw, out⟩⟩
def spMvsS (C D : Addr) (K : PySem.W.Frag) : SpG := fun vs H Q E => ∃ (x : Addr) (v : V) (rows : List Rw) (ends : List Int) (start : Int), vs = [.ref x, v] ∧ RdAt C H x rows ends start ∧ NoState K H rows.length v ∧ outS D v H E
theorem ok_mvsS {f C D : Addr} {fd : FuncData} (F : Fun K "moves" "Reader.moves" sMvs f fd) (Rs : CalX P w K mg base "require_state" 3 psRqs (spRqS C D K)) : GFn P w K mg base 4 f fd psMvs (spMvsS C D K) := by
  refine F.gen scMvs (fun vs H Q E h => ?_) (fun cdv A outer s H vs Q E pn hr h => ?_)
  · obtain ⟨x, v, rows, ends, start, rfl, _⟩ := h
    rfl
  · obtain ⟨x, v, rows, ends, start, rfl, D', nw, out⟩ := h
    refine ⟨_, gss_cons (gs_ps (ps_expr (pe_calX (E := E) Rs hr (passes_call takes_gcx (fun _ _ _ _ h => h)) (pa_cons (pv 0) (pa_cons (pv 1) pa_nil)))))
      (gss_one (gs_lock (gs_for owns_gcx rfl (pi_items (pe_ix ix_tup (pe_fld (pv 0) rfl) (pv 1) (fun _ _ => rfl))) (pg_tup rfl (pgs_cons (pg_name (i := 2) scMvs.nd rfl (.inl rfl)) (pgs_cons (pg_tup rfl (pgs_cons (pg_name (i := 3) scMvs.nd rfl (.inl rfl)) (pgs_cons (pg_name (i := 4) scMvs.nd rfl (.inl rfl)) pgs_nil))) pgs_nil)))
        (gss_one (gs_yield (pe_tup (pa_cons (pv 2) (pa_cons (pv 3) (pa_cons (pv 4) pa_nil))))))))), ?_⟩
    exact ⟨_, rfl, _, rfl, x, v, rows, ends, start, rfl, D', .inr ⟨nw, out⟩⟩
/-! ### walked -/
abbrev sWlk : Stmt := top 27
abbrev nWlk : List Str := ["reader", "state", "word", "row", "sign", "told"]
abbrev psWlk : List Str := ["reader", "state", "word"]
theorem scWlk : FnScope nWlk psWlk (defScope sWlk) := ⟨rfl, rfl, rfl, by decide +kernel, rfl, by decide +kernel, by decide +kernel⟩
theorem lastS_cons {s : Int} {m : Mv} {b : List Mv} : lastS s (m :: b) = lastS m.1 b := by
  unfold lastS
  cases b with
  | nil => rfl
  | cons a r =>
    rw [List.getLast?_cons_cons]
    cases h : (a :: r).getLast? with
    | none => simp at h
    | some z => rfl
theorem lastS_app {s : Int} {pre : List Mv} {m : Mv} : lastS s (pre ++ [m]) = m.1 := by
  unfold lastS
  simp
/-- what a walk gives -/
def PasAt (H : Hp) (v : V) : Option (List (List Nat) × Int) → Prop
  | none => v = .non
  | some (xs, q) => ∃ t p, v = .ref t ∧ H t = some (.tup [.ref p, .int q]) ∧ H p = some (.tup (xs.map txtV))
def pas (rows : List Rw) (q : Int) (page : List Nat) : Option (List (List Nat) × Int) :=
  if (behind rows q page).length < page.length then none else some ((behind rows q page).filterMap (·.2), lastS q (behind rows q page))
def spWlk (C : Addr) : Sp := fun vs H Q _ => ∃ (x : Addr) (q : Int) (page : List Nat) (rows : List Rw) (ends : List Int) (start : Int), vs = [.ref x, .int q, txtV page] ∧ RdAt C H x rows ends start ∧ Rdy rows q ∧ page.length ≤ 60 ∧ ∀ v H', Same H H' → PasAt H' v (pas rows q page) → Q v H'
theorem ok_wlk {f C : Addr} {fd : FuncData} (F : Fun K "walked" "walked" sWlk f fd) (B : Bl mg) (T : RTx K mg C) : FnOk P w K mg base CX0 1 f fd psWlk (spWlk C) := by
  refine F.ok scWlk (fun vs H Q E h => ?_) (fun cdv A outer s H vs Q E hr h => ?_)
  · obtain ⟨x, q, page, rows, ends, start, rfl, _⟩ := h
    rfl
  · obtain ⟨x, q, page, rows, ends, start, rfl, R, Y, hl, k⟩ := h
    have hu := hu_of hr
    refine ⟨_, pss_cons (ps_set (i := 3) scWlk.nd rfl (.inl rfl) (pe_lst pa_nil))
      (pss_cons (ps_for PassesOwn.never rfl (pi_str (pv 2)) (pg_name (i := 4) scWlk.nd rfl (.inl rfl))
        (pss_cons (ps_if (pt_cmp (pc_dnotin hu (pv 4) (pe_ix ix_tup (pe_fld (pv 0) rfl) (pv 1) (fun _ _ => rfl))))
        (pss_one (ps_ret pe_non)) pss_nil)
      (pss_cons (ps_asg (pe_dget hu (pe_ix ix_tup (pe_fld (pv 0) rfl) (pv 1) (fun _ _ => rfl)) (pv 4) (fun _ _ => rfl)) (pg_tup rfl (pgs_cons (pg_name (i := 1) scWlk.nd rfl (.inl rfl)) (pgs_cons (pg_name (i := 5) scWlk.nd rfl (.inl rfl)) pgs_nil))))
      (pss_one (ps_expr (pe_bm PySem.F.plainAttrs_list PySem.F.slot_list_extend PySem.F.type_list_extend mt_extend (pv 3) (pa_cons (pe_ifExp (pt_cmpR op_notN (pv 5) pe_non (nomark _)) (pe_lst (pa_cons (pv 5) pa_nil)) (pe_lst pa_nil)) pa_nil)))))))
      (pss_one (ps_ret (pe_tup (pa_cons (pe_callTy call_tuple_of (by rfl) B.tuple (by decide +kernel) (pa_cons (pv 3) pa_nil)) (pa_cons (pv 1) pa_nil)))))), ?_⟩
    refine ⟨by show 0 ≤ sizeLine; decide, fun pl hpl => ?_⟩
    have hplH : Same H (upd H pl (.lst [])) := same_new hpl
    obtain ⟨dx, pr, pe, fs, qs, h1, h2, h3, h4, h5, h6, h7, h8⟩ := id R.ex
    refine ⟨_, rfl, _, rfl, for_it walk_str (fun i σ H' => Same H H' ∧ ∃ (q' : Int) (pre : List Mv) (a4 a5 : Option V), σ = [some (.ref x), some (.int q'), some (txtV page), some (.ref pl), a4, a5] ∧ H' pl = some (.lst ((pre.filterMap (·.2)).map txtV)) ∧ pre.length = i ∧ behind rows q page = pre ++ behind rows q' (page.drop i) ∧ lastS q pre = q' ∧ 0 ≤ q' ∧ q' < (rows.length : Int)) ?_ (fun _ _ _ _ _ => trivial) ?_ ?_⟩
    · exact ⟨hplH, q, [], none, none, rfl, upd_same, rfl, rfl, rfl, Y.st0, Y.st1⟩
    · rintro i v σ H1' H1 hi ⟨e1, q', pre, a4, a5, rfl, hp1, hpre, hb, hls, q0, q1⟩ ⟨rfl, c, hc, rfl⟩
      have hc' : page[i]? = some c := by simpa [txt] using hc
      have hil : i < page.length := (List.getElem?_eq_some_iff.mp hc').1
      have hd : page.drop i = c :: page.drop (i + 1) := by
        rw [List.drop_eq_getElem_cons hil, (List.getElem?_eq_some_iff.mp hc').2]
      obtain ⟨row, hrow⟩ : ∃ row, rows[q'.toNat]? = some row := ⟨_, List.getElem?_eq_getElem (by omega)⟩
      obtain ⟨p, hp, hp2⟩ := paired_get _ h7 hrow
      have hrm : row ∈ rows := List.mem_of_getElem? hrow
      have ero : rowOf rows q' = row := by unfold rowOf; rw [hrow]; rfl
      obtain ⟨kvs, z1, z2⟩ := rw_iff.mp (hp2.mono e1)
      have hix : atI (qs.map V.ref) q' = some (.ref p) := atI_of q0 (by rw [List.getElem?_map, hp]; rfl)
      have hv := ents_val (c := c) z2
      refine ⟨_, rfl, _, rfl, x, C, dx, _, _, rfl, e1 _ _ h1, T.cl, T.nR, h2, _, rfl, pr, _, _, _, rfl, rfl, SqT.of (e1 _ _ h6), hix, p, _, rfl, DGet.k (k := Sum.inr (lt c)) z1, ?_⟩
      rcases hv with ⟨pm, m, v1, v2, v3⟩ | ⟨v1, v2, _⟩
      · rw [show valV kvs (Sum.inr (lt c)) = some (.ref pm) from v1]
        refine ⟨_, rfl, iteF ?_⟩
        refine ⟨_, rfl, x, C, dx, _, _, rfl, e1 _ _ h1, T.cl, T.nR, h2, _, rfl, pr, _, _, _, rfl, rfl, SqT.of (e1 _ _ h6), hix, _, rfl, p, _, rfl, v1 ▸ DGet.k (k := Sum.inr (lt c)) z1, ?_⟩
        refine ⟨pm, _, rfl, SqT.of v3, rfl, _, _, rfl, _, _, rfl, rfl, ?_⟩
        obtain ⟨g0, g1⟩ := Y.goal row hrm _ (mvOf_mem v2)
        have hpl' : (pre.filterMap (·.2)).length ≤ page.length := Nat.le_trans (List.length_filterMap_le _ _) (by omega)
        have nb : behind rows q page = (pre ++ [m]) ++ behind rows m.1 (page.drop (i + 1)) := by
          rw [hb, hd, List.append_assoc]
          congr 1
          conv => lhs; unfold behind
          rw [ero, v2]
          rfl
        have fin : ∀ (H2 : Hp) (zs : List (List Nat)), Same H1 H2 → H2 pl = some (.lst ((pre.filterMap (·.2)).map txtV)) → (pre ++ [m]).filterMap (·.2) = pre.filterMap (·.2) ++ zs → Same H (upd H2 pl (.lst ((pre.filterMap (·.2)).map txtV ++ zs.map txtV))) ∧ ∃ (q'' : Int) (pre' : List Mv) (a4 a5 : Option V), [some (.ref x), some (.int m.1), some (txtV page), some (.ref pl), some (ltV c), some (tellV m.2)] = [some (V.ref x), some (.int q''), some (txtV page), some (.ref pl), a4, a5] ∧ (upd H2 pl (.lst ((pre.filterMap (·.2)).map txtV ++ zs.map txtV))) pl = some (.lst ((pre'.filterMap (·.2)).map txtV)) ∧ pre'.length = i + 1 ∧ behind rows q page = pre' ++ behind rows q'' (page.drop (i + 1)) ∧ lastS q pre' = q'' ∧ 0 ≤ q'' ∧ q'' < (rows.length : Int) := fun H2 zs e2 hp2 ez =>
          ⟨same_upd (e1.trans e2) hpl, m.1, pre ++ [m], _, _, rfl, by rw [upd_same, ez, List.map_append], by rw [List.length_append, hpre]; rfl, nb, lastS_app, g0, g1⟩
        refine ⟨_, rfl, .inl ⟨rfl, _, SqL.of hp1⟩, _, rfl, rfl, _, rfl, ?_⟩
        cases hm : m.2 with
        | none =>
          refine iteF ⟨by show 0 ≤ sizeLine; decide, fun pz hpz => ?_⟩
          have hz := same_new (o := .lst []) hpz
          refine ⟨pl, pz, _, _, rfl, rfl, hz _ _ hp1, upd_same, by rw [List.length_map, sizeLine_eq]; show _ + 0 ≤ _; omega, ?_⟩
          have := fin _ [] hz (hz _ _ hp1) (by rw [List.filterMap_append]; simp [hm])
          rw [hm] at this
          exact this
        | some z =>
          refine iteT ⟨_, rfl, by show 1 ≤ sizeLine; decide, fun pz hpz => ?_⟩
          have hz := same_new (o := .lst [txtV z]) hpz
          refine ⟨pl, pz, _, _, rfl, rfl, hz _ _ hp1, upd_same, by rw [List.length_map, sizeLine_eq]; show _ + 1 ≤ _; omega, ?_⟩
          have := fin _ [z] hz (hz _ _ hp1) (by rw [List.filterMap_append]; simp [hm])
          rw [hm] at this
          exact this
      · rw [show valV kvs (Sum.inr (lt c)) = none from v1]
        refine ⟨_, rfl, iteT (k _ _ e1 ?_)⟩
        have hbb : behind rows q page = pre := by
          rw [hb, hd]
          conv => lhs; rhs; unfold behind
          rw [ero, v2]
          exact List.append_nil _
        unfold pas
        rw [hbb, if_pos (by omega)]
        rfl
    · rintro σ H1 ⟨e1, q', pre, a4, a5, rfl, hp1, hpre, hb, hls, q0, q1⟩
      have hz : (txt page).cps.size = page.length := by simp [txt]
      have hbb : behind rows q page = pre := by
        rw [hb, List.drop_eq_nil_of_le (by rw [hz]; exact Nat.le_refl _)]
        exact List.append_nil _
      refine ⟨_, rfl, pl, _, rfl, .inl ⟨SqL.of hp1, fun pt hpt => ⟨_, rfl, by show 2 ≤ sizeLine; decide, fun t ht => ?_⟩⟩⟩
      have e2 := same_new (o := .tup ((pre.filterMap (·.2)).map txtV)) hpt
      refine k _ _ ((e1.trans e2).trans (same_new ht)) ?_
      unfold pas
      rw [hbb, if_neg (by rw [hpre, hz]; omega), hls]
      exact ⟨t, pt, rfl, upd_same, same_new ht _ _ upd_same⟩
/-! ### passed -/
abbrev sPas : Stmt := top 28
abbrev psPas : List Str := ["reader", "state", "word"]
theorem scPas : FnScope psPas psPas (defScope sPas) := ⟨rfl, rfl, rfl, by decide +kernel, rfl, by decide +kernel, by decide +kernel⟩
def spPas (C D W : Addr) (K : PySem.W.Frag) : Sp := fun vs H Q E => ∃ (x : Addr) (v u : V) (rows : List Rw) (ends : List Int) (start : Int), vs = [.ref x, v, u] ∧ RdAt C H x rows ends start ∧
  ((∃ (q : Int) (page : List Nat), v = .int q ∧ u = txtV page ∧ Rdy rows q ∧ Lets page ∧ page.length ≤ 60 ∧ ∀ r H', Same H H' → PasAt H' r (pas rows q page) → Q r H') ∨ (NoState K H rows.length v ∧ outS D v H E) ∨ (∃ q : Int, v = .int q ∧ 0 ≤ q ∧ q < (rows.length : Int) ∧ NoWord K H u ∧ outW W u H E))
theorem ok_pas {f C D W : Addr} {fd : FuncData} (F : Fun K "passed" "passed" sPas f fd) (Rs : CalX P w K mg base "require_state" 3 psRqs (spRqS C D K)) (Rw : CalX P w K mg base "require_word" 3 psRqw (spRqX K W)) (Wl : Cal P w K mg base "walked" 1 psWlk (spWlk C)) : FnOk P w K mg base (L2.CX P w) 4 f fd psPas (spPas C D W K) := by
  refine F.okX scPas (fun vs H Q E h => ?_) (fun cdv A outer s H vs Q E hr h => ?_)
  · obtain ⟨x, v, u, rows, ends, start, rfl, _⟩ := h
    rfl
  · obtain ⟨x, v, u, rows, ends, start, rfl, R, h⟩ := h
    refine ⟨_, pss_cons (ps_expr (pe_calX (E := E) Rs hr (passes_call (takes_of rfl rfl rfl rfl) (fun _ _ _ _ h => h)) (pa_cons (pv 0) (pa_cons (pv 1) pa_nil))))
      (pss_cons (ps_expr (pe_calX (E := E) Rw hr (passes_call (takes_of rfl rfl rfl rfl) (fun _ _ _ _ h => h)) (pa_cons (pv 2) pa_nil)))
      (pss_one (ps_ret (pe_cal Wl (hr.mono (by decide)) (pa_cons (pv 0) (pa_cons (pv 1) (pa_cons (pv 2) pa_nil))))))), ?_⟩
    rcases h with ⟨q, page, rfl, rfl, Y, hp, hl, k⟩ | ⟨nw, out⟩ | ⟨q, rfl, q0, q1, nw, out⟩
    · refine ⟨_, rfl, _, rfl, x, _, rows, ends, start, rfl, R, .inl ⟨q, rfl, Y.st0, Y.st1, ?_⟩⟩
      refine ⟨_, rfl, _, rfl, .inl ⟨page, rfl, hp, by omega, fun H1 e1 => ?_⟩⟩
      exact ⟨_, rfl, _, rfl, _, rfl, x, q, page, rows, ends, start, rfl, R.mono e1, Y, hl, fun r H2 e2 h2 => k r H2 (e1.trans e2) h2⟩
    · exact ⟨_, rfl, _, rfl, x, v, rows, ends, start, rfl, R, .inr ⟨nw, out⟩⟩
    · exact ⟨_, rfl, _, rfl, x, _, rows, ends, start, rfl, R, .inl ⟨q, rfl, q0, q1, _, rfl, u, rfl, .inr ⟨nw, out⟩⟩⟩
end
end SS

set_option maxRecDepth 100000
set_option maxHeartbeats 4000000
/-! list(zip(range(0), g)): g does not begin -/
namespace SR
open PySem PySem.Spec PyProof.Rows L2
theorem zip_no_len : typeLookup (.type "zip") "__len__" = pure none := by rw [typeLookup_type, builtinLookup_eq_fast]; kernel_rfl
theorem zip_no_hint : typeLookup (.type "zip") "__length_hint__" = pure none := by rw [typeLookup_type, builtinLookup_eq_fast]; kernel_rfl
section
variable {prog : Program} {w : World} {A : Around} {E : Value → Shared → Prop} {s : Shared}
theorem nextOf_rg_end {it : Addr} {x left step : Int} {Q : Value → Shared → Prop} (hh : A.handled = none) (hit : IsRangeIter s.heap it x left step) (hleft : left ≤ 0)
    (hE : ∀ h' e, Heap.ExtBut it s.heap h' → (∃ o, h'.get? e = some o ∧ o.cls = .type "StopIteration") → E (.ref e) { s with heap := h' }) :
    wpAny (model prog w) A (Builtin.SmallTypes.nextOf (.ref it)) Q E s := by
  have hT : s.TypeIs (.ref it) "range_iterator" := ⟨_, hit, rfl⟩
  unfold Builtin.SmallTypes.nextOf
  refine wpAny_bind (wpAny_callSpecial?_slot (name := Str.ofString "__next__") hT F.slot_range_iterator_next
    (wpAny_call_entry F.slot_range_iterator_next hT F.entry_range_iterator_next ?_ (F.args_range_iterator_next_1 _)))
  show wpAny _ _ (field (.ref it) 0 >>= _) _ _ s
  refine wpAny_bind (wpAny_field hit rfl (x := rawInt x) rfl ?_)
  show wpAny _ _ (field (.ref it) 1 >>= _) _ _ s
  refine wpAny_bind (wpAny_field hit rfl (x := rawInt left) rfl ?_)
  show wpAny _ _ (field (.ref it) 2 >>= _) _ _ s
  refine wpAny_bind (wpAny_field hit rfl (x := rawInt step) rfl ?_)
  show wpAny _ _ (if left ≤ 0 then _ else _) _ _ s
  rw [if_pos hleft]
  refine wpAny_bind (wpAny_rule ?_)
  refine wpAny_bind ?_
  show wpAny _ _ (newExc (.type "StopIteration") [] >>= _) _ _ _
  refine wpAny_bind ?_
  simp only [newExc, newTuple]
  refine wpAny_bind (wpAny_newObj_type ?_ (by size_fits))
  refine wpAny_bind (m := firstArgMember _ _) (wpAny_of_eq (a := Value.none) (by first | rfl | (simp only [firstArgMember]; rfl)) ?_)
  refine wpAny_newObj_type ?_ (by size_fits)
  simp only [raiseNew]
  refine wpAny_bind (wpAny_handled ?_)
  first | rw [show A.in1.handled = none from hh] | rw [hh]
  refine wpAny_bind (wpAny_pure (wpAny_throw ?_))
  exact hE _ _ (((Heap.ExtBut.refl it s.heap).push _).push _) ⟨_, Heap.get?_push_size _ rfl, rfl⟩
theorem zip0_next_end {z TI TO i1 a : Addr} {a1 a2 : Value} {x left step : Int} {Q : Fin → Shared → Prop} (hh : A.handled = none) (hzi : z ≠ i1)
    (hz : IsZip s.heap z TI TO .none) (hTI : PySem.IsPair s.heap TI (.ref i1) (.ref a)) (hTO : PySem.IsPair s.heap TO a1 a2) (hit : IsRangeIter s.heap i1 x left step) (hleft : left ≤ 0)
    (hE : ∀ h' e, (∀ c o, c ≠ z → c ≠ i1 → s.heap.get? c = some o → h'.get? c = some o) → (∃ o, h'.get? e = some o ∧ o.cls = .type "StopIteration") → E (.ref e) { s with heap := h' }) :
    wpAny (model prog w) A (Builtin.«zip.__next__» ⟨[.ref z], []⟩) Q E s := by
  show wpAny _ _ (field (.ref z) 2 >>= _) _ _ _
  refine wpAny_bind (wpAny_field hz rfl (x := .bool false) rfl ?_)
  show wpAny _ _ (field (.ref z) 3 >>= _) _ _ _
  refine wpAny_bind (wpAny_field hz rfl (x := .ref TI) rfl ?_)
  refine wpAny_bind (wpAny_seqItems hTI rfl ?_)
  show wpAny _ _ (Builtin.SmallTypes.ownedTupleIsFree (.ref z) >>= _) _ _ _
  refine wpAny_bind ?_
  unfold Builtin.SmallTypes.ownedTupleIsFree
  refine wpAny_bind (wpAny_field hz rfl (x := .none) rfl (wpAny_pure ?_))
  simp only [if_true]
  refine wpAny_bind (wpAny_rule ?_)
  refine wpAny_bind (wpAny_field hz rfl (x := .ref TO) rfl ?_)
  refine wpAny_bind (wpAny_setField_rec hz (by simp) fun h₁ hz₁ hs₁ => ?_)
  replace hz₁ : IsZip h₁ z TI TO .ellipsis := hz₁
  refine wpAny_bind ?_
  simp only [List.zipIdx_cons, List.zipIdx_nil, List.forIn_cons, List.forIn_nil]
  refine wpAny_bind (wpAny_bind (wpAny_onRaise ?_))
  show wpAny _ _ (Builtin.SmallTypes.nextOf (.ref i1) >>= _) _ _ _
  refine wpAny_bind (nextOf_rg_end hh (hs₁.extBut _ _ (Ne.symm hzi) hit) hleft fun h₂ e hs₂ he => ?_)
  obtain ⟨oe, hoe, hce⟩ := he
  have hz₂ : IsZip h₂ z TI TO .ellipsis := hs₂ _ _ hzi hz₁
  have hez : e ≠ z := fun x => by subst x; rw [hz₂] at hoe; cases hoe; simp at hce
  refine wpAny_setField_rec hz₂ (by simp) fun h₃ _ hs₃ => hE h₃ e (fun c o c1 c3 x => hs₃.extBut _ _ c1 (hs₂ _ _ c3 (hs₁.extBut _ _ c1 x))) ⟨oe, hs₃.extBut _ _ hez hoe, hce⟩
theorem zip0_pyNext {z TI TO i1 a : Addr} {a1 a2 : Value} {x left step : Int} {Q : Option Value → Shared → Prop} (hh : A.handled = none) (hzi : z ≠ i1)
    (hz : IsZip s.heap z TI TO .none) (hTI : PySem.IsPair s.heap TI (.ref i1) (.ref a)) (hTO : PySem.IsPair s.heap TO a1 a2) (hit : IsRangeIter s.heap i1 x left step) (hleft : left ≤ 0)
    (hQ : ∀ h', (∀ c o, c ≠ z → c ≠ i1 → s.heap.get? c = some o → h'.get? c = some o) → Q none { s with heap := h' }) : wpAny (model prog w) A (pyNext (.ref z)) Q E s := by
  have hT : s.TypeIs (.ref z) "zip" := ⟨_, hz, rfl⟩
  unfold pyNext
  refine wpAny_bind (wpAny_attempt (wpAny_callSpecial?_slot (name := Str.ofString "__next__") hT F.slot_zip_next
    (wpAny_call_entry F.slot_zip_next hT F.entry_zip_next (zip0_next_end hh hzi hz hTI hTO hit hleft fun h' e hk he => ?_) (F.args_zip_next_1 _))))
  obtain ⟨o, ho, hc⟩ := he
  refine wpAny_bind (wpAny_isInstance (T := "StopIteration") (b := true) ⟨o, ho, hc⟩ isSubtype_stop ?_)
  exact wpAny_pure (hQ _ hk)
end
/-! ### zip(range(0), g) is made -/
abbrev zg1 (h : Heap) : Heap := h.push { cls := .type "range_iterator", data := .fields #[rawInt 0, rawInt (Builtin.Range.rangeSize 0 0 1), rawInt 1] }
abbrev zg2 (h : Heap) (a : Addr) : Heap := (zg1 h).push { cls := .type "tuple", data := .seq #[.ref h.objs.size, .ref a] }
abbrev zg3 (h : Heap) (a : Addr) : Heap := (zg2 h a).push { cls := .type "tuple", data := .seq #[.none, .none] }
abbrev zg4 (h : Heap) (a : Addr) : Heap := (zg3 h a).push { cls := .type "zip", data := .fields #[.none, .bool false, .bool false, .ref (zg1 h).objs.size, .ref (zg2 h a).objs.size] }
theorem meets_zip_g (r a : Addr) (t u v : Tok) (g : Nat) :
    Meets (Builtin.«zip.__new__» ⟨[.type "zip", .ref r, .ref a], []⟩) (fun _ R s => IsRange s.heap r 0 0 1 t u v ∧ s.heap.IsGen a g ∧
      R (.ok (.ret (.ref (zg3 s.heap a).objs.size))) { s with heap := zg4 s.heap a }) :=
  .of_wp fun prog w A R s h => by
    obtain ⟨hp, gs, d, tk, os⟩ := s; obtain ⟨hl1, hl2, h⟩ := h
    have hsub := sub_zip
    have hL1 : IsRange (Shared.heap ⟨hp, gs, d, tk, os⟩) r 0 0 1 t u v := hl1
    have hsm : Builtin.Range.small 0 0 1 = true := by decide +kernel
    have hL2 : Heap.IsGen (Shared.heap ⟨zg1 hp, gs, d, tk, os⟩) a g := Heap.IsGen.keeps hl2 fun b o e => Heap.get?_push_of_some _ e
    wp_walk using wpAny_pyIter_range hL1 hsm, wpAny_pyIter_gen hL2
    exact ⟨_, rfl, h⟩
section
variable {prog : Program} {w : World} {A : Around} {E : Value → Shared → Prop} {s : Shared}
theorem call_zip_g {r a : Addr} {t u v : Tok} {g : Nat} {Q : Value → Shared → Prop} (hr : IsRange s.heap r 0 0 1 t u v) (hg : s.heap.IsGen a g)
    (h : ∀ h', IsZip h' (s.heap.objs.size + 3) (s.heap.objs.size + 1) (s.heap.objs.size + 2) .none → PySem.IsPair h' (s.heap.objs.size + 1) (.ref s.heap.objs.size) (.ref a) →
      PySem.IsPair h' (s.heap.objs.size + 2) .none .none → IsRangeIter h' s.heap.objs.size 0 (Builtin.Range.rangeSize 0 0 1) 1 →
      (∀ c o, s.heap.get? c = some o → h'.get? c = some o) → Q (.ref (s.heap.objs.size + 3)) { s with heap := h' }) :
    wpAny (model prog w) A (call (.type "zip") [.ref r, .ref a]) Q E s := by
  refine callType_new F.called_zip (by decide) (F.typeCall_zip_2 _ _) (F.newCall_zip_2 _ _) (fun obj => F.args_object_init_3 obj _ _) F.entry_zip_new
    (meets_zip_g r a t u v g) ⟨hr, hg, ?_⟩
  have z1 : (zg1 s.heap).objs.size = s.heap.objs.size + 1 := Heap.size_push ..
  have z2 : (zg2 s.heap a).objs.size = s.heap.objs.size + 2 := by rw [Heap.size_push, z1]
  have z3 : (zg3 s.heap a).objs.size = s.heap.objs.size + 3 := by rw [Heap.size_push, z2]
  have g4 : (zg4 s.heap a).get? (zg3 s.heap a).objs.size = some _ := Heap.get?_push_size _ rfl
  have g3 : (zg4 s.heap a).get? (zg2 s.heap a).objs.size = some _ := Heap.get?_push_of_some _ (Heap.get?_push_size _ rfl)
  have g2 : (zg4 s.heap a).get? (zg1 s.heap).objs.size = some _ := Heap.get?_push_of_some _ (Heap.get?_push_of_some _ (Heap.get?_push_size _ rfl))
  have g1 : (zg4 s.heap a).get? s.heap.objs.size = some _ := Heap.get?_push_of_some _ (Heap.get?_push_of_some _ (Heap.get?_push_of_some _ (Heap.get?_push_size _ rfl)))
  show _ ∧ _
  rw [z1, z2, z3] at g4
  rw [z1] at g2
  rw [z2] at g3
  rw [z3]
  exact ⟨⟨_, g4, rfl⟩, h _ g4 g2 g3 g1 fun c o x => Heap.get?_push_of_some _ (Heap.get?_push_of_some _ (Heap.get?_push_of_some _ (Heap.get?_push_of_some _ x)))⟩
end
/-! ### list of such a zip -/
theorem call_list_z {P : Program} {w : World} {A : Around} {s : Shared} {z TI TO i1 a : Addr} {a1 a2 : Value} {x left step : Int} {Q : Value → Shared → Prop} {E : Value → Shared → Prop} (hh : A.handled = none) (hzi : z ≠ i1)
    (hz : IsZip s.heap z TI TO .none) (hTI : PySem.IsPair s.heap TI (.ref i1) (.ref a)) (hTO : PySem.IsPair s.heap TO a1 a2) (hit : IsRangeIter s.heap i1 x left step) (hleft : left ≤ 0)
    (hQ : ∀ h' c, h'.get? s.heap.objs.size = some (lstObj #[] c) → (∀ b o, b ≠ z → b ≠ i1 → s.heap.get? b = some o → h'.get? b = some o) → Q (.ref s.heap.objs.size) { s with heap := h' }) :
    wpAny (model P w) A (call (.type "list") [.ref z]) Q E s := by
  have hzl := Heap.lt_size hz
  have hil := Heap.lt_size hit
  have hSz : s.heap.objs.size ≠ z := Nat.ne_of_gt hzl
  have hSi : s.heap.objs.size ≠ i1 := Nat.ne_of_gt hil
  refine callType_codes (Q₁ := fun obj s₁ => obj = .ref s.heap.objs.size ∧ s₁ = { s with heap := s.heap.push { cls := .type "list", data := .seq #[] } }) F.called_list (F.typeCall_list_1 _) F.entry_list_init
    (code_list_new _ ⟨rfl, rfl⟩) fun obj s₁ h₁ => ?_
  obtain ⟨rfl, rfl⟩ := h₁
  have hS : (s.heap.push { cls := .type "list", data := .seq #[] }).get? s.heap.objs.size = some { cls := .type "list", data := .seq #[] } := Heap.get?_push_size _ rfl
  refine ⟨⟨_, hS, rfl⟩, F.args_list_init_2 _ _, ?_⟩
  show wpAny _ A.in1.in1 (do let old ← Builtin.List.listItems (.ref s.heap.objs.size); Builtin.List.listUpdate (.ref s.heap.objs.size) (fun _ => #[]); letGo old.toList.reverse; Builtin.List.listExtendWith (.ref s.heap.objs.size) (.ref z) .none) _ _ _
  refine wpAny_bind ?_
  unfold Builtin.List.listItems
  refine wpAny_bind (wpAny_seqItems hS rfl (wpAny_pure ?_))
  show wpAny _ A.in1.in1 (updateSeq s.heap.objs.size (fun _ => #[]) >>= fun _ => letGo (#[] : Array Value).toList.reverse >>= fun _ => Builtin.List.listExtendWith (.ref s.heap.objs.size) (.ref z) .none) _ _ _
  refine wpAny_bind (wpAny_updateSeq hS rfl ?_)
  have hS2 := Heap.get?_update_self (Obj.mapSeq (fun _ => (#[] : Array Value))) hS rfl
  refine wpAny_bind (wpAny_letGo ?_)
  unfold Builtin.List.listExtendWith
  have up : ∀ (h : Heap) (f : Obj → Obj), (∀ b o, s.heap.get? b = some o → h.get? b = some o) → ∀ b o, s.heap.get? b = some o → (h.update s.heap.objs.size f).get? b = some o := fun h f q b o e =>
    (Heap.get?_update_other _ _ (Ne.symm (Nat.ne_of_lt (Heap.lt_size e)))).trans (q b o e)
  have k1 : ∀ b o, s.heap.get? b = some o → (s.heap.push { cls := .type "list", data := .seq #[] }).get? b = some o := fun b o e => Heap.get?_push_of_some _ e
  have k2 := up _ (Obj.mapSeq (fun _ => (#[] : Array Value))) k1
  have zty : ∀ {h : Heap} {g d t o}, (∀ b o, s.heap.get? b = some o → h.get? b = some o) → Shared.TypeIs ⟨h, g, d, t, o⟩ (.ref z) "zip" := fun {h g d t o} q => ⟨_, q _ _ hz, rfl⟩
  refine wpAny_bind (wpAny_typeOf (zty k2) ?_)
  have h1 : Builtin.List.listSameRef (.ref s.heap.objs.size) (.ref z) = false := by simp [Builtin.List.listSameRef, hSz]
  have h2 : (Value.type "zip" == Value.type "list") = false := by decide
  have h3 : (Value.type "zip" == Value.type "tuple") = false := by decide
  simp only [h1, h2, h3, Bool.or_false, Bool.false_eq_true, if_false]
  refine wpAny_bind (wpAny_pyIter_zip (s := { s with heap := _ }) (k2 _ _ hz) ?_)
  refine wpAny_bind (wpAny_holding ?_)
  unfold Builtin.List.listLengthHint
  refine wpAny_bind (wpAny_specialOf (zty k2) zip_no_len ?_)
  show wpAny _ A.in1.in1 (specialOf (Value.ref z) (Str.ofString "__length_hint__") >>= _) _ _ _
  refine wpAny_bind (wpAny_specialOf (zty k2) zip_no_hint ?_)
  refine wpAny_pure ?_
  show wpAny _ A.in1.in1 (rule "list.extend.makes-room" >>= fun _ => Builtin.List.listTouch (.ref s.heap.objs.size) >>= fun _ =>
    again (.builtin "list.extend.loop" ⟨[.ref s.heap.objs.size, .ref z, .none], []⟩)) _ _ _
  refine wpAny_bind (wpAny_rule ?_)
  refine wpAny_bind ?_
  show wpAny _ A.in1.in1 (updateSeq s.heap.objs.size (·.push .none) >>= fun _ => updateSeq s.heap.objs.size (·.pop)) _ _ _
  refine wpAny_bind (wpAny_updateSeq hS2 rfl ?_)
  have hS3 := Heap.get?_update_self (Obj.mapSeq (·.push Value.none)) hS2 rfl
  refine wpAny_updateSeq (hz := by seq_fits) hS3 rfl ?_
  have hS4 := Heap.get?_update_self (Obj.mapSeq (·.pop)) hS3 rfl
  have k4 := up _ (Obj.mapSeq (·.pop)) (up _ (Obj.mapSeq (·.push Value.none)) k2)
  refine wpAny_pure ⟨plainId_quiet F.plain_extend_loop _, ?_⟩
  refine codeAny_builtin F.entry_extend_loop ?_
  rw [Around.under_plainId F.plain_extend_loop _]
  show wpAny _ A.in1.in1 (pyNext (.ref z) >>= _) _ _ _
  refine wpAny_bind (zip0_pyNext (A := A.in1.in1) hh hzi (k4 _ _ hz) (k4 _ _ hTI) (k4 _ _ hTO) (k4 _ _ hit) hleft fun h' hk => ?_)
  exact wpAny_pure ⟨rfl, hQ h' _ (hk _ _ hSz hSi hS4) fun b o hb1 hb2 e => hk b o hb1 hb2 (k4 b o e)⟩
/-! ### the expressions -/
/-- an expression that makes a generator that does not begin -/
structure PGm (X : Cx) (e : Expr) (t : L2.St → Hp → (Hp → Prop) → Prop) : Prop where
  run : ∀ (pins : List (Addr × Obj)) (s : Shared) (σ : L2.St) (H : Hp) (Q : Hp → Prop), Inv X pins σ H s → t σ H Q → wpAny (model X.prog X.w) X.A (eval e X.env) (fun u s' => ∃ a g H1, u = .ref a ∧ s'.heap.IsGen a g ∧ Inv X pins σ H1 s' ∧ Q H1) X.xe s
section
variable {X : Cx} {pins : List (Addr × Obj)} {σ : L2.St} {H : Hp} {s : Shared} {k : Nat} {f C : Addr} {fd : FuncData} {ps : List Str} {sp : SpG} {x m : Str} {p pos pos' apos : Pos} {o : Expr} {ta : TE}
theorem run_gm {us : List Value} {vs : List V} {Q : Hp → Prop} {E1 : Value → Shared → Prop} (F : GFn X.prog X.w X.K X.mg X.base k f fd ps sp) (hr : Room k X.A) (hb : Binds X.K fd ps [])
    (I : Inv X pins σ H s) (r : Vals vs us) (h : sp vs H (fun _ _ => True) fun _ _ _ => True) (q : Q H) :
    wpAny (model X.prog X.w) X.A (call (.ref f) us) (fun u s' => ∃ a g H1, u = .ref a ∧ s'.heap.IsGen a g ∧ Inv X pins σ H1 s' ∧ Q H1) E1 s := by
  have hl2 : (us ++ []).length = ps.length := by rw [List.append_nil, ← r.length]; exact F.len _ _ _ _ h
  have r2 : Vals vs (us ++ []) := by rw [List.append_nil]; exact r
  refine wpAny_call (codeAny_mono (F.run X.A X.stack s H ⟨us, []⟩ (us ++ []) vs _ _ hr I.env0 (hb s us I.kIn hl2) r2 h) fun r s' hq => ?_)
  cases r with
  | error e => exact False.elim hq
  | ok fl =>
    cases fl with
    | ret u =>
      obtain ⟨a, g, c, rfl, _, _, hg, _, ho, hb, _, hk, _⟩ := hq
      exact ⟨a, g, H, rfl, hg, I.call' (ch := []) ho (Un.kept hk) (I.hok.kept hk) hb (fun b hb => by simp at hb), q⟩
    | next => exact False.elim hq
    | brk => exact False.elim hq
    | cont => exact False.elim hq
/-- o.m(e, ..) of a generator method -/
theorem pgm_meth {pl : Sem Bool} {e : Expr} {es : List Expr} {t : TA} (he : PE X o ta) (c : Cls X.K C) (hm : Meth X.K C m f) (F : GFn X.prog X.w X.K X.mg X.base k f fd ps sp) (hr : Room k X.A) (hb : Binds X.K fd ps []) (ha : PA X (e :: es) t)
    (hst : starEach (e :: es) X.env = (false, eval e X.env) :: starEach es X.env := by rfl) (hpl : (backTo pos' (starEach es X.env)).any (·.1) = false := by rfl)
    (ht : eval (.Call (.Attribute o m apos) (e :: es) [] pos') X.env = (do
      let ov ← eval o X.env
      standAt apos.atName
      let (f, first) ← holding [ov] (getMethod ov m pl)
      callWith pos' f first (backTo pos' (starEach (e :: es) X.env)) (backToKw pos' (keywordEach [] X.env))) := by rfl) :
    PGm X (.Call (.Attribute o m apos) (e :: es) [] pos') (fun σ H Q => ta σ H fun x H1 => ∃ a dx fs, x = .ref a ∧ H1 a = some (.ins C dx fs) ∧ fs.lookup m = none ∧ t σ H1 fun vs H2 => sp (x :: vs) H2 (fun _ _ => True) (fun _ _ _ => True) ∧ Q H2) := by
  refine ⟨fun pins s σ H Q I h => ?_⟩
  refine PySem.W.methodCall_KW (pl := pl) (thn (he.run pins s σ H _ I h) fun u s1 ⟨x, H1, I1, rx, a, dx, fs, ex, ea, l, q⟩ => ?_) ht
  subst ex
  obtain rfl : u = Value.ref a := rx
  refine getmeth_ok I1 ea c hm l ?_
  refine PySem.W.callWith_K (first := [.ref a]) (h₀ := X.base) I1.ok.mod.kin hm.kp (thn (ha.run pos' pins s1 σ H1 _ I1 q) fun us s2 ⟨vs, H2, I2, r, q2, q3⟩ => ⟨I2.kIn, ?_⟩) hst hpl
  exact run_gm (us := .ref a :: us) (vs := .ref a :: vs) F hr hb I2 (.cons rfl r) q2 q3
/-- f(e, ..) of a generator def -/
theorem pgm_call {e : Expr} {es : List Expr} {t : TA} (F : GFn X.prog X.w X.K X.mg X.base k f fd ps sp) (hr : Room k X.A) (hg : Gl X x) (hm : X.mg x = some (.ref f)) (hk : PySem.W.keepIn X.K (.ref f) = true) (hb : Binds X.K fd ps [])
    (ha : PA X (e :: es) t) (hdb : (x == ("__debug__" : Str)) = false := by decide) (he : starEach (e :: es) X.env = (false, eval e X.env) :: starEach es X.env := by rfl) (hpl : (backTo pos' (starEach es X.env)).any (·.1) = false := by rfl) :
    PGm X (.Call (.Name x p) (e :: es) [] pos') (fun σ H Q => t σ H fun vs H1 => sp vs H1 (fun _ _ => True) (fun _ _ _ => True) ∧ Q H1) := by
  refine ⟨fun pins s σ H Q I h => ?_⟩
  refine wpAny_Call_Name_kw (ld_glob I hg hm ?_ hdb)
  refine PySem.W.callWith_K (h₀ := X.base) I.ok.mod.kin hk (thn (ha.run pos' pins s σ H _ I h) fun us s1 ⟨vs, H1, I1, r, q, q2⟩ => ⟨I1.kIn, ?_⟩) he hpl
  exact run_gm F hr hb I1 r q q2
/-- list(zip(range(0), g)) -/
theorem pe_listZ0 {e : Expr} {tg : L2.St → Hp → (Hp → Prop) → Prop} {p1 p2 p3 p4 pos1 pos2 pos3 : Pos} {kk : Nat} (hh : X.A.handled = none) (hl : Gl X "list") (hz : Gl X "zip") (hr : Gl X "range") (hml : X.mg "list" = none) (hmz : X.mg "zip" = none) (hmr : X.mg "range" = none) (hG : PGm X e tg)
    (h0 : starEach [.Constant (.int 0) kk p4] X.env = (false, eval (.Constant (.int 0) kk p4) X.env) :: starEach [] X.env := by rfl)
    (h1 : starEach [.Call (.Name "range" p3) [.Constant (.int 0) kk p4] [] pos3, e] X.env = (false, eval (.Call (.Name "range" p3) [.Constant (.int 0) kk p4] [] pos3) X.env) :: starEach [e] X.env := by rfl) (h2 : starEach [e] X.env = (false, eval e X.env) :: starEach [] X.env := by rfl) (hp2 : (backTo pos2 (starEach [e] X.env)).any (·.1) = false := by rfl)
    (h3 : starEach [.Call (.Name "zip" p2) [.Call (.Name "range" p3) [.Constant (.int 0) kk p4] [] pos3, e] [] pos2] X.env = (false, eval (.Call (.Name "zip" p2) [.Call (.Name "range" p3) [.Constant (.int 0) kk p4] [] pos3, e] [] pos2) X.env) :: starEach [] X.env := by rfl) :
    PE X (.Call (.Name "list" p1) [.Call (.Name "zip" p2) [.Call (.Name "range" p3) [.Constant (.int 0) kk p4] [] pos3, e] [] pos2] [] pos1) (fun σ H Q => tg σ H fun H2 => ∀ l, H2 l = none → Q (.ref l) (upd H2 l (.lst []))) := by
  refine ⟨fun pins s σ H Q I h => ?_⟩
  refine Call_ (ld_blt I hl hml boot_list (PyProof.Rows.callWith_type1 (args_cons ?_ h3) h3))
  refine Call_ (ld_blt I hz hmz PyProof.Rows.boot_zip (PyProof.Rows.callWith_type1 (args_cons ?_ h1) h1 hp2))
  refine Call_ (ld_blt I hr hmr boot_range (PyProof.Rows.callWith_type1 (one_arg (R := fun x H2 => x = .int 0 ∧ tg σ H2 fun H2 => ∀ l, H2 l = none → Q (.ref l) (upd H2 l (.lst []))) (pe_int (i := 0)) I ⟨rfl, h⟩ (fun v s2 x H2 I2 r q => ?_) h0) h0))
  obtain ⟨rfl, q⟩ := q
  obtain ⟨t, rfl⟩ := r
  refine call_range_1 ?_
  obtain ⟨ro, hro⟩ : ∃ ro : Obj, ro = { cls := .type "range", data := .fields #[.int 0 s2.toks, .int 0 t, .int 1 (s2.toks + 1)] } := ⟨_, rfl⟩
  rw [← hro]
  have IR : (s2.heap.push ro).get? s2.heap.objs.size = some ro := Heap.get?_push_size _ (by rw [hro]; rfl)
  have I3 : Inv X pins σ H2 { s2 with heap := s2.heap.push ro, toks := s2.toks + 1 + 1 } := I2.kept fun b u e => Heap.get?_push_of_some _ e
  have nr : H2 s2.heap.objs.size = none := I2.hok.fresh (Nat.le_refl _)
  have I3' := I3.pins_of (pins' := pins ++ [(s2.heap.objs.size, ro)]) fun p hp => (List.mem_append.mp hp).elim (fun z => I3.pin p (List.mem_append_right _ z)) fun z => by
    rw [List.mem_singleton.mp z]
    exact ⟨IR, nr, Nat.ne_of_gt I2.lt, I2.nofs (Nat.le_refl _), fun v q => by rw [hro] at q; cases q⟩
  refine args_cons (thn (hG.run _ _ σ H2 _ I3' q) fun u2 s3 ⟨a, g, H3, ea, hg, I4, q2⟩ => args_nil ?_) h2
  subst ea
  have R4 : IsRange s3.heap s2.heap.objs.size 0 0 1 s2.toks t (s2.toks + 1) := by
    have := (I4.pin (s2.heap.objs.size, ro) (List.mem_append_right _ (List.mem_append_right _ List.mem_cons_self))).1
    rw [hro] at this
    exact this
  have I5 : Inv X pins σ H3 s3 := I4.pins_of (pins' := pins) fun p hp => I4.pin p (List.mem_append_right _ (List.mem_append_left _ hp))
  refine call_zip_g R4 hg fun h' z1 z2 z3 z4 hk => args_nil ?_
  have hz1 : s3.heap.objs.size + 3 < h'.objs.size := Heap.lt_size z1
  have hsz : s3.heap.objs.size ≤ h'.objs.size := by omega
  have zi : s3.heap.objs.size + 3 ≠ s3.heap.objs.size := by omega
  refine call_list_z (s := { s3 with heap := h' }) hh zi z1 z2 z3 z4 (by decide +kernel) fun h'' c hS hk2 => ?_
  have kk3 : ∀ b o, s3.heap.get? b = some o → h''.get? b = some o := fun b o e => by
    have hb : b < s3.heap.objs.size := Heap.lt_size e
    have n1 : b ≠ s3.heap.objs.size + 3 := Nat.ne_of_lt (Nat.lt_of_lt_of_le hb (Nat.le_add_right _ _))
    have n2 : b ≠ s3.heap.objs.size := Nat.ne_of_lt hb
    exact hk2 b o n1 n2 (hk b o e)
  have n3 : H3 h'.objs.size = none := I5.hok.fresh hsz
  refine ⟨.ref h'.objs.size, _, I5.laid (o := .lst []) (t' := s3.toks) kk3 hsz ⟨Nat.zero_le _, [], c, .nil, by rw [hS]⟩, rfl, q2 _ n3⟩
end
end SR

set_option maxRecDepth 100000
set_option maxHeartbeats 4000000
/-! repr of a value by itself -/
namespace SR
open PySem PySem.Spec PyProof.Rows L2
section
variable {prog : Program} {w : World} {A : Around} {E : Value → Shared → Prop} {s : Shared} {a : Addr} {o : Obj}
theorem call_repr_d0 {n : Nat} {Q : Value → Shared → Prop} (hg : A.guards = some []) (hu : A.units + 1 < cLine) (ha : s.heap.get? a = some o) (hc : o.cls = .type "dict") (hd : o.data = .dict #[] n) (hsys : (a == sysModules) = false)
    (hQ : ∀ (u : Tok) (h' : Heap) (tk : Nat), (∀ b ob, s.heap.get? b = some ob → h'.get? b = some ob) → Q (.str "{}" u) { s with heap := h', toks := tk }) : wpAny (model prog w) A (call (.builtin "repr") [.ref a]) Q E s := by
  have ty : s.TypeIs (.ref a) "dict" := ⟨o, ha, hc⟩
  have sz := sizeLine_eq
  refine call_repr_slot hu ty F.slot_dict_repr ?_
  refine wpAny_call (codeAny_call_builtin_own (Code.quiet_builtin _ (by decide +kernel)) F.entry_dict_repr (F.slot_dict_repr.check _ _ _ _ _ _ _ _ ty (F.args_dict_repr_1 _) ?_))
  show wpOwn _ _ _ (Builtin.dictReprAt 0 ⟨[.ref a], []⟩) _ _ s
  unfold Builtin.dictReprAt
  refine wpOwn_bind (wpOwn_of_wpAny ?_)
  unfold Builtin.Dict.dictSlotNone
  refine wpAny_bind (wpAny_notOrdered_dict ty (wpAny_pure ?_))
  rw [dictReprRunning_eq]
  refine wpOwn_bind (wpOwn_stackTailAny (g := []) hg (dictGuardF_off _) (dictGuardF_pos _) ?_)
  refine wpOwn_of_wpAny ?_
  refine wpAny_bind (m := Builtin.Dict.addrOf (.ref a)) (wpAny_pure (wpAny_bind (m := Builtin.Dict.showsAll a) ?_))
  unfold Builtin.Dict.showsAll
  rw [if_neg (by rw [hsys]; exact Bool.false_ne_true)]
  refine wpAny_pure (wpAny_bind (wpAny_dictEpoch ha hd (wpAny_bind (wpAny_dictEntries ha hd ?_))))
  rw [Std.Legacy.Range.forIn_eq_forIn_range']
  refine wpAny_bind (wpAny_of_eq (a := ((#[] : Array Str), (0 : Nat))) (by first | rfl | simp) ?_)
  exact wpAny_bind (wpAny_mkStr (wpAny_pure ⟨_, _, rfl, hQ _ _ _ fun _ _ e => e⟩) (by decide))
end
/-- what is shown of a value -/
inductive ShV (K : PySem.W.Frag) (H : Hp) : V → Str → Prop
  | non : ShV K H .non "None"
  | bl (b : Bool) : ShV K H (.bl b) (if b then "True" else "False")
  | int (i : Int) : i.natAbs.log2 < 1920 → ShV K H (.int i) (toString i)
  | str (x : Str) : (reprText x).length ≤ sizeLine → ShV K H (.str x) (reprText x)
  | data {a : Addr} {d : PyData} : Dp K H (.ref a) d → d.showable = true → d.hasDict = false → d.depth ≤ 64 → d.shown.length ≤ sizeLine → ShV K H (.ref a) d.shown
  | dic {a : Addr} : H a = some (.dK []) → ShV K H (.ref a) "{}"
def rReprV (K : PySem.W.Frag) : List V → Hp → VK → Prop := fun xs H Q => ∃ v t, xs = [v] ∧ ShV K H v t ∧ Q (.str t) H
theorem call_reprV {X : Cx} (hgd : X.A.guards = some []) (hu : X.A.units + 65 < cLine) : CallR X (.builtin "repr") (rReprV X.K) := by
  intro pins s σ H xs us Q I r h
  obtain ⟨v, t, rfl, hv, q⟩ := h
  obtain ⟨u, rfl, rx⟩ := vals1 r
  cases hv with
  | non =>
    cases rx
    exact PySem.P.repr_of_none ⟨.str _, H, I.tok _, ⟨_, rfl⟩, q⟩
  | bl b =>
    cases rx
    exact PySem.P.repr_of_bool ⟨.str _, H, I.tok _, ⟨_, rfl⟩, q⟩
  | int i h1 =>
    obtain ⟨t, rfl⟩ := rx
    exact PySem.P.repr_of_int h1 ⟨.str _, H, I.tok _, ⟨_, rfl⟩, q⟩
  | str x h1 =>
    obtain ⟨t, rfl⟩ := rx
    exact PySem.P.repr_of_str ⟨.str _, H, I.tok _, ⟨_, rfl⟩, q⟩ h1
  | @data a d h1 h2 h3 h4 h5 => exact call_reprD hgd hu pins s σ H [.ref a] [u] Q I (.cons rx .nil) ⟨a, d, rfl, h1, h2, h3, h4, h5, q⟩
  | @dic a h1 =>
    obtain rfl : u = Value.ref a := rx
    obtain ⟨_, ns, vs, rel, o, es, ep, ho, hx, hdat, _, hp, _⟩ := dk_of I.hok h1
    cases rel
    have e0 : es = #[] := by
      obtain ⟨l⟩ := es
      have hp' : Pairs (mixKind X.prog X.w) l [] := hp
      cases hp'
      rfl
    subst e0
    exact call_repr_d0 hgd (by omega) ho hx.1 hdat ns fun u h' tk k => ⟨.str _, H, I.kept (t' := tk) k, ⟨_, rfl⟩, q⟩
theorem ShV.mono {K : PySem.W.Frag} {H H' : Hp} {v : V} {t : Str} (mon : ∀ (a : Addr) (d : PyData), Dp K H (.ref a) d → Dp K H' (.ref a) d) (e : Same H H') (h : ShV K H v t) : ShV K H' v t := by
  cases h with
  | non => exact .non
  | bl b => exact .bl b
  | int i h => exact .int i h
  | str x h => exact .str x h
  | data h1 h2 h3 h4 h5 => exact .data (mon _ _ h1) h2 h3 h4 h5
  | dic h => exact .dic (e _ _ h)
end SR

set_option maxRecDepth 100000
set_option maxHeartbeats 4000000
set_option pp.maxSteps 1500
namespace SS
open PySem L2 SR TL
section
variable {P : Program} {w : World} {K : PySem.W.Frag} {mg : Str → Option Value} {base : Heap}
def RwsL (H : Hp) (a : Addr) (rows : List Rw) : Prop := ∃ qs : List Addr, H a = some (.lst (qs.map .ref)) ∧ Paired (RwAt H) qs rows
theorem RwsL.mono {H H' : Hp} {a : Addr} {rows : List Rw} (e : Same H H') (h : RwsL H a rows) : RwsL H' a rows := by
  obtain ⟨qs, h1, h2⟩ := h
  exact ⟨qs, e _ _ h1, Paired.mono h2 fun a b g => g.mono e⟩
/-! ### _law_walked -/
abbrev sLWk : Stmt := top 40
abbrev nLWk : List Str := ["_law_rows", "_law_spot", "_law_letters_here", "_law_found", "_law_letter"]
abbrev psLWk : List Str := ["_law_rows", "_law_spot", "_law_letters_here"]
theorem scLWk : FnScope nLWk psLWk (defScope sLWk) := ⟨rfl, rfl, rfl, by decide +kernel, rfl, by decide +kernel, by decide +kernel⟩
def spLWk : Sp := fun vs H Q _ => ∃ (a : Addr) (q : Int) (page : List Nat) (rows : List Rw), vs = [.ref a, .int q, txtV page] ∧ RwsL H a rows ∧ Rdy rows q ∧ page.length ≤ 60 ∧
  ∀ (t pf : Addr) (ps : List Addr) (H' : Hp), Same H H' → H' t = some (.tup [.ref pf, .bl (decide (¬ (behind rows q page).length < page.length))]) → H' pf = some (.lst (ps.map .ref)) → Paired (MvAt H') ps (behind rows q page) → Q (.ref t) H'
theorem ok_lwk {f : Addr} {fd : FuncData} (F : Fun K "_law_walked" "_law_walked" sLWk f fd) (B : Bl mg) : FnOk P w K mg base CX0 1 f fd psLWk spLWk := by
  refine F.ok scLWk (fun vs H Q E h => ?_) (fun cdv A outer s H vs Q E hr h => ?_)
  · obtain ⟨a, q, page, rows, rfl, _⟩ := h
    rfl
  · obtain ⟨a, q, page, rows, rfl, R, Y, hl, k⟩ := h
    have hu := hu_of hr
    refine ⟨_, pss_cons (ps_set (i := 3) scLWk.nd rfl (.inl rfl) (pe_lst pa_nil))
      (pss_cons (ps_for PassesOwn.never rfl (pi_str (pv 2)) (pg_name (i := 4) scLWk.nd rfl (.inl rfl))
        (pss_cons (ps_if (pt_cmp (pc_dnotin hu (pv 4) (pe_ix ix_list (pv 0) (pv 1) (fun _ _ => rfl))))
        (pss_one (ps_ret (pe_tup (pa_cons (pv 3) (pa_cons pe_bl pa_nil))))) pss_nil)
      (pss_cons (ps_expr (pe_bm PySem.F.plainAttrs_list PySem.F.slot_list_append PySem.F.type_list_append mt_append (pv 3) (pa_cons (pe_dget hu (pe_ix ix_list (pv 0) (pv 1) (fun _ _ => rfl)) (pv 4) (fun _ _ => rfl)) pa_nil)))
      (pss_one (ps_set (i := 1) scLWk.nd rfl (.inl rfl) (pe_ix ix_tup (pe_dget hu (pe_ix ix_list (pv 0) (pv 1) (fun _ _ => rfl)) (pv 4) (fun _ _ => rfl)) pe_int (fun _ _ => rfl)))))))
      (pss_one (ps_ret (pe_tup (pa_cons (pv 3) (pa_cons pe_bl pa_nil)))))), ?_⟩
    refine ⟨by show 0 ≤ sizeLine; decide, fun pl hpl => ?_⟩
    have ePl : Same H (upd H pl (.lst [])) := same_new hpl
    obtain ⟨qs, r1, r2⟩ := id R
    refine ⟨_, rfl, _, rfl, for_it walk_str (fun i σ H' => Same H H' ∧ ∃ (q' : Int) (pre : List Mv) (ps : List Addr) (a4 : Option V), σ = [some (.ref a), some (.int q'), some (txtV page), some (.ref pl), a4] ∧ H' pl = some (.lst (ps.map .ref)) ∧ Paired (MvAt H') ps pre ∧ pre.length = i ∧ behind rows q page = pre ++ behind rows q' (page.drop i) ∧ 0 ≤ q' ∧ q' < (rows.length : Int)) ?_ (fun _ _ _ _ _ => trivial) ?_ ?_⟩
    · exact ⟨ePl, q, [], [], none, rfl, upd_same, .nil, rfl, rfl, Y.st0, Y.st1⟩
    · rintro i v σ H1' H1 hi ⟨e1, q', pre, ps, a4, rfl, hp1, hps, hpre, hb, q0, q1⟩ ⟨rfl, c, hc, rfl⟩
      have hc' : page[i]? = some c := by simpa [txt] using hc
      have hil : i < page.length := (List.getElem?_eq_some_iff.mp hc').1
      have hd : page.drop i = c :: page.drop (i + 1) := by
        rw [List.drop_eq_getElem_cons hil, (List.getElem?_eq_some_iff.mp hc').2]
      obtain ⟨row, hrow⟩ : ∃ row, rows[q'.toNat]? = some row := ⟨_, List.getElem?_eq_getElem (by omega)⟩
      obtain ⟨p, hp, hp2⟩ := paired_get _ r2 hrow
      have hrm : row ∈ rows := List.mem_of_getElem? hrow
      have ero : rowOf rows q' = row := by unfold rowOf; rw [hrow]; rfl
      obtain ⟨kvs, z1, z2⟩ := rw_iff.mp hp2
      have hix : atI (qs.map V.ref) q' = some (.ref p) := atI_of q0 (by rw [List.getElem?_map, hp]; rfl)
      have hpl' : ps.length = pre.length := Paired.length hps
      refine ⟨_, rfl, _, rfl, _, rfl, a, _, _, _, rfl, rfl, SqL.of (e1 _ _ r1), hix, p, _, rfl, DGet.k (k := Sum.inr (lt c)) (e1 _ _ z1), ?_⟩
      rcases ents_val (c := c) z2 with ⟨pm, m, v1, v2, v3⟩ | ⟨v1, v2, _⟩
      · rw [show valV kvs (Sum.inr (lt c)) = some (.ref pm) from v1]
        refine ⟨_, rfl, iteF ?_⟩
        refine ⟨_, rfl, .inl ⟨rfl, _, SqL.of hp1⟩, _, rfl, _, rfl, a, _, _, _, rfl, rfl, SqL.of (e1 _ _ r1), hix, _, rfl, p, _, rfl, v1 ▸ DGet.k (k := Sum.inr (lt c)) (e1 _ _ z1), pl, _, _, rfl, rfl, hp1, by rw [List.length_map, sizeLine_eq]; omega, ?_⟩
        have e2 : Same H (upd H1 pl (.lst (ps.map .ref ++ [.ref pm]))) := same_upd e1 hpl
        refine ⟨_, rfl, _, rfl, a, _, _, _, rfl, rfl, SqL.of (e2 _ _ r1), hix, _, rfl, p, _, rfl, v1 ▸ DGet.k (k := Sum.inr (lt c)) (e2 _ _ z1), pm, _, _, _, rfl, rfl, SqT.of (e2 _ _ v3), rfl, ?_⟩
        obtain ⟨g0, g1⟩ := Y.goal row hrm _ (mvOf_mem v2)
        refine ⟨e2, m.1, pre ++ [m], ps ++ [pm], _, rfl, by rw [upd_same, List.map_append]; rfl, paired_snoc (Paired.mono hps fun x y g => ?_) (e2 _ _ v3), by rw [List.length_append, hpre]; rfl, ?_, g0, g1⟩
        · show (upd H1 pl _) x = _
          rw [upd_ne (fun z => by rw [MvAt, z, hp1] at g; cases g)]
          exact g
        · rw [hb, hd, List.append_assoc]
          congr 1
          conv => lhs; unfold behind
          rw [ero, v2]
          rfl
      · rw [show valV kvs (Sum.inr (lt c)) = none from v1]
        have hbb : behind rows q page = pre := by
          rw [hb, hd]
          conv => lhs; rhs; unfold behind
          rw [ero, v2]
          exact List.append_nil _
        refine ⟨_, rfl, iteT ⟨_, rfl, by show 2 ≤ sizeLine; decide, fun t ht => ?_⟩⟩
        have e2 := same_new (o := .tup [.ref pl, .bl false]) ht
        refine k t pl ps _ (e1.trans e2) ?_ (e2 _ _ hp1) (by rw [hbb]; exact Paired.mono hps fun x y g => e2 _ _ g)
        rw [upd_same, hbb, decide_eq_false (fun z => z (by omega))]
    · rintro σ H1 ⟨e1, q', pre, ps, a4, rfl, hp1, hps, hpre, hb, q0, q1⟩
      have hz : (txt page).cps.size = page.length := by simp [txt]
      have hbb : behind rows q page = pre := by
        rw [hb, List.drop_eq_nil_of_le (by rw [hz]; exact Nat.le_refl _)]
        exact List.append_nil _
      refine ⟨_, rfl, by show 2 ≤ sizeLine; decide, fun t ht => ?_⟩
      have e2 := same_new (o := .tup [.ref pl, .bl true]) ht
      refine k t pl ps _ (e1.trans e2) ?_ (e2 _ _ hp1) (by rw [hbb]; exact Paired.mono hps fun x y g => e2 _ _ g)
      rw [upd_same, hbb, decide_eq_true (by omega)]
/-! ### _law_due -/
abbrev sLDu : Stmt := top 41
abbrev nLDu : List Str := ["_law_rows", "_law_spot", "_law_letters_here", "_law_found", "_law_has_passed", "_law_goal", "_law_told"]
abbrev psLDu : List Str := ["_law_rows", "_law_spot", "_law_letters_here"]
theorem scLDu : FnScope nLDu psLDu (defScope sLDu) := ⟨rfl, rfl, rfl, by decide +kernel, rfl, by decide +kernel, by decide +kernel⟩
def spLDu : Sp := fun vs H Q _ => ∃ (a : Addr) (q : Int) (page : List Nat) (rows : List Rw), vs = [.ref a, .int q, txtV page] ∧ RwsL H a rows ∧ Rdy rows q ∧ page.length ≤ 60 ∧ ∀ v H', Same H H' → PasAt H' v (pas rows q page) → Q v H'
theorem ok_ldu {f : Addr} {fd : FuncData} (F : Fun K "_law_due" "_law_due" sLDu f fd) (B : Bl mg) (Wk : Cal P w K mg base "_law_walked" 1 psLWk spLWk) : FnOk P w K mg base CX0 2 f fd psLDu spLDu := by
  refine F.ok scLDu (fun vs H Q E h => ?_) (fun cdv A outer s H vs Q E hr h => ?_)
  · obtain ⟨a, q, page, rows, rfl, _⟩ := h
    rfl
  · obtain ⟨a, q, page, rows, rfl, R, Y, hl, k⟩ := h
    refine ⟨_, pss_cons (ps_asg (pe_cal Wk hr (pa_cons (pv 0) (pa_cons (pv 1) (pa_cons (pv 2) pa_nil)))) (pg_tup rfl (pgs_cons (pg_name (i := 3) scLDu.nd rfl (.inl rfl)) (pgs_cons (pg_name (i := 4) scLDu.nd rfl (.inl rfl)) pgs_nil))))
      (pss_cons (ps_if (pt_not (pt_val (pv 4)))
        (pss_one (ps_ret pe_non)) pss_nil)
      (pss_one (ps_ret (pe_tup (pa_cons (pe_callTy call_tuple_of (by rfl) B.tuple (by decide +kernel) (pa_cons (pe_lc (own := [("_law_goal", 5), ("_law_told", 6)]) (g := gTup K 2 (gCons (gName 5) (gCons (gName 6) gNil))) (tt := tTest (tOp (rNotN) (tVar 6) (tC .non))) (te := tVar 6) rfl scLDu.nd (pi_list (pv 3)) (blkOk_by (by kernel_rfl)) (fun _ _ _ _ _ => pg_tup rfl (pgs_cons (pg_name (i := 5) scLDu.nd rfl (.inl rfl)) (pgs_cons (pg_name (i := 6) scLDu.nd rfl (.inl rfl)) pgs_nil))) (fun _ _ _ _ _ => pts_one (pt_cmpR op_notN (pv 6) pe_non (nomark _))) (fun _ _ _ _ _ => pv 6)) pa_nil)) (pa_cons (pe_ix ix_list (pe_op op_cat (pe_lst (pa_cons (pv 1) pa_nil)) (pe_lc (own := [("_law_goal", 5), ("_law_told", 6)]) (g := gTup K 2 (gCons (gName 5) (gCons (gName 6) gNil))) (tt := tYes) (te := tVar 5) rfl scLDu.nd (pi_list (pv 3)) (blkOk_by (by kernel_rfl)) (fun _ _ _ _ _ => pg_tup rfl (pgs_cons (pg_name (i := 5) scLDu.nd rfl (.inl rfl)) (pgs_cons (pg_name (i := 6) scLDu.nd rfl (.inl rfl)) pgs_nil))) (fun _ _ _ _ _ => pts_nil) (fun _ _ _ _ _ => pv 5))) (pe_un un_neg pe_int) (fun _ _ => rfl)) pa_nil)))))), ?_⟩
    refine ⟨_, rfl, _, rfl, _, rfl, a, q, page, rows, rfl, R, Y, hl, fun t pf ps H1 e1 ht hpf hps => ?_⟩
    refine ⟨t, _, rfl, SqT.of ht, rfl, _, _, rfl, _, _, rfl, rfl, ?_⟩
    have bl := behind_len rows page q
    have pl := Paired.length hps
    by_cases hc : (behind rows q page).length < page.length
    · rw [decide_eq_false (fun z => z hc)]
      exact ⟨_, rfl, _, rfl, iteT (k _ _ e1 (by unfold pas; rw [if_pos hc]; rfl))⟩
    · rw [decide_eq_true hc]
      refine ⟨_, rfl, _, rfl, iteF ?_⟩
      refine ⟨_, rfl, pf, rfl, ⟨_, SqL.of hpf⟩, fun D1 hD1 => lc_S (walk_list (K := K) (a := pf) (xs := ps.map V.ref)) hD1 (by rw [List.length_map]; omega) (fun i acc _ => acc = (((behind rows q page).take i).filterMap (·.2)).map txtV) (fun _ _ _ _ _ _ _ h => h) rfl (fun H' e' => e'.seq (SqL.of hpf)) ?_ ?_⟩
      · rintro i v H2 H2' acc Qt Qf hi e2 hd rfl ⟨rfl, hv⟩ kt kf
        rw [List.getElem?_map] at hv
        obtain ⟨p, hpi, rfl⟩ := Option.map_eq_some_iff.mp hv
        obtain ⟨m, hm, hmv⟩ := paired_getL i hps hpi
        refine ⟨p, _, rfl, SqT.of (e2 _ _ hmv), rfl, _, _, rfl, _, _, rfl, rfl, rfl, _, rfl, rfl, _, rfl, ?_⟩
        cases h2 : m.2 with
        | none =>
          refine iteF (kf _ (Same.refl _) ?_)
          rw [List.take_add_one, hm, List.filterMap_append]
          simp [h2]
        | some z =>
          refine iteT ⟨_, rfl, kt _ _ (Same.refl _) ?_⟩
          rw [List.take_add_one, hm, List.filterMap_append, List.map_append]
          simp [h2, tellV]
      rintro H2 acc e2 hd1 rfl
      rw [List.length_map, pl, List.take_length] at hd1
      refine ⟨D1, _, rfl, .inl ⟨SqL.of hd1, fun pt hpt => ?_⟩⟩
      have e3 := e2.trans (same_new (o := .tup (((behind rows q page).filterMap (·.2)).map txtV)) hpt)
      have h3 := upd_same (H := H2) (a := pt) (o := .tup (((behind rows q page).filterMap (·.2)).map txtV))
      generalize (upd H2 pt (.tup (((behind rows q page).filterMap (·.2)).map txtV))) = H3 at e3 h3 ⊢
      refine ⟨_, rfl, by show 1 ≤ sizeLine; decide, fun p2 hp2 => ?_⟩
      have e4 := e3.trans (same_new (o := .lst [.int q]) hp2)
      have h4 := same_new (o := .lst [.int q]) hp2 _ _ h3
      have h42 := upd_same (H := H3) (a := p2) (o := .lst [.int q])
      generalize (upd H3 p2 (.lst [.int q])) = H4 at e4 h4 h42 ⊢
      refine ⟨_, rfl, pf, rfl, ⟨_, SqL.of (e4 _ _ hpf)⟩, fun D2 hD2 => lc_S (walk_list (K := K) (a := pf) (xs := ps.map V.ref)) hD2 (by rw [List.length_map]; omega) (fun i acc _ => acc = ((behind rows q page).take i).map fun m => V.int m.1) (fun _ _ _ _ _ _ _ h => h) rfl (fun H' e' => e'.seq (SqL.of (e4 _ _ hpf))) ?_ ?_⟩
      · rintro i v H5 H5' acc Qt Qf hi e5 hd rfl ⟨rfl, hv⟩ kt kf
        rw [List.getElem?_map] at hv
        obtain ⟨p, hpi, rfl⟩ := Option.map_eq_some_iff.mp hv
        obtain ⟨m, hm, hmv⟩ := paired_getL i hps hpi
        refine ⟨p, _, rfl, SqT.of (e5 _ _ (e4 _ _ hmv)), rfl, _, _, rfl, _, _, rfl, rfl, rfl, iteT (B := Qf H5') ⟨_, rfl, kt _ _ (Same.refl _) ?_⟩⟩
        rw [List.take_add_one, hm, List.map_append]
        rfl
      rintro H5 acc e5 hd2 rfl
      rw [List.length_map, pl, List.take_length] at hd2
      refine ⟨p2, D2, _, _, rfl, rfl, e5 _ _ h42, hd2, by rw [List.length_map, sizeLine_eq]; show 1 + _ ≤ _; omega, fun p6 hp6 => ?_⟩
      have e6 := same_new (o := .lst ([V.int q] ++ (behind rows q page).map fun m => V.int m.1)) hp6
      refine ⟨_, rfl, p6, _, _, .int (lastS q (behind rows q page)), rfl, rfl, SqL.of upd_same, ?_, by show 2 ≤ sizeLine; decide, fun t2 ht2 => ?_⟩
      · rcases List.eq_nil_or_concat (behind rows q page) with h | ⟨b', m, h⟩
        · rw [h]
          exact atI_last [] _
        · rw [h, List.concat_eq_append, List.map_append, ← List.append_assoc, lastS_app]
          exact atI_last _ _
      · have e7 := same_new (o := .tup [.ref pt, .int (lastS q (behind rows q page))]) ht2
        refine k _ _ (e1.trans (e4.trans (e5.trans (e6.trans e7)))) ?_
        unfold pas
        rw [if_neg hc]
        exact ⟨t2, pt, rfl, upd_same, e7 _ _ (e6 _ _ (e5 _ _ h4))⟩
end
end SS

set_option maxRecDepth 100000
set_option maxHeartbeats 4000000
set_option pp.maxSteps 1500
namespace SS
open PySem L2 SR TL
/-! ### lists of texts as data -/
theorem strs_ok : ∀ xs : List Str, (∀ x ∈ xs, PyData.strOk x = true) → PyData.canLayAll0 (xs.map .str) = true ∧ PyData.depthAll (xs.map .str) = 0
  | [], _ => ⟨rfl, by simp [PyData.depthAll]⟩
  | x :: xs, h => by
    obtain ⟨h1, h2⟩ := strs_ok xs fun y hy => h y (List.mem_cons_of_mem _ hy)
    refine ⟨?_, ?_⟩
    · rw [List.map_cons, PyData.canLayAll0, h1, PyData.canLay0, h x List.mem_cons_self]
      rfl
    · rw [List.map_cons, PyData.depthAll, h2, PyData.depth]
      rfl
theorem strs_shp (xs : List Str) (h : ∀ x ∈ xs, PyData.strOk x = true) : SeqAt.shaped (.list (xs.map .str)) = true := by
  obtain ⟨h1, h2⟩ := strs_ok xs h
  unfold SeqAt.shaped
  rw [PyData.canLay0, h1, PyData.depth, h2]
  rfl
theorem strOk_small {x : Str} (h : ∀ c ∈ x.cps.toList, c < 1000) : PyData.strOk x = true := by
  unfold PyData.strOk
  rw [← Array.all_toList]
  exact List.all_eq_true.mpr fun c hc => decide_eq_true (by have := h c hc; omega)
theorem dp_strs {K : PySem.W.Frag} {H : Hp} {p : Addr} {xs : List Str} (h : H p = some (.lst (xs.map .str))) : Dp K H (.ref p) (.list (xs.map .str)) := .lst (SqL.of h) (dp_map (fun x => .str x) xs)
section
variable {P : Program} {w : World} {K : PySem.W.Frag} {mg : Str → Option Value} {base : Heap}
theorem if_put {nx rt bk ct} {σ : L2.St} {H : Hp} {r D : Addr} {o : Nat} {ls : List Nat} (h0 : σ[0]? = some (some (.ref r))) (h2 : σ[2]? = some (some (ltV o))) (h5 : σ[5]? = some (some (.ref D))) (hR : H r = some (rngO r)) (hD : H D = some (.lst (ls.map ltV))) (hls : Lets ls) (hl : ls.length ≤ 40)
    (k : ∀ (H' : Hp) (ls' : List Nat), (∀ b x, b ≠ D → H b = some x → H' b = some x) → H' D = some (.lst (ls'.map ltV)) → ls'.length = ls.length → (∀ c ∈ ls', c ∈ ls ∨ c = o) → nx σ H') :
    tIfS (tAnd (tTest (tOp rEq (tCall spDraw [] E0 (tCons (tVar 0) (tCons (tC (V.int 5)) tNil))) (tC (V.int 0)))) (tTest (tOp (rNeD K) (tVar 5) (tLst tNil))))
      (tAsg (tVar 2) (gSub (tVar 5) (tCall spDraw [] E0 (tCons (tVar 0) (tCons (tCB (fun xs H_1 Q => ∃ p ys, xs = [V.ref p] ∧ (SqL K H_1 p ys ∨ SqT K H_1 p ys) ∧ Q (V.int (ys.length : Nat)) H_1) (tCons (tVar 5) tNil)) tNil))) rSetL)) tNext { nx := nx, rt := rt, bk := bk, ct := ct } σ H := by
  have sh : SeqAt.shaped (.list ((ls.map lt).map .str)) = true := strs_shp _ fun x hx => by
    obtain ⟨c, hc, rfl⟩ := List.mem_map.mp hx
    exact strOk_small fun d hd => by
      have : d = c := by simpa [lt] using hd
      have := hls c hc
      omega
  refine ⟨_, h0, r, 5, rfl, by decide, by decide, hR, fun d H1 d0 d1 e1 => ⟨rfl, _, rfl, ite2 (fun hd => ?_) (fun hd => ?_)⟩⟩
  · refine ⟨_, h5, by show 0 ≤ sizeLine; decide, fun pz hpz => ?_⟩
    have e2 := e1.trans (same_new (o := .lst []) hpz)
    refine ⟨.list ((ls.map lt).map .str), .list [], dp_strs (by rw [List.map_map]; exact e2 _ _ hD), .lst (SqL.of upd_same) .nil, sh, by decide +kernel, _, rfl, ?_⟩
    cases ls with
    | nil => exact iteF (k _ [] (fun b x _ hb => e2 _ _ hb) (e2 _ _ hD) rfl fun c hc => .inl hc)
    | cons c0 cr =>
      refine iteT ?_
      refine ⟨_, h2, _, h5, _, h0, _, h5, D, _, rfl, .inl (SqL.of (e2 _ _ hD)), r, _, rfl, by rw [List.length_map, List.length_cons]; omega, by rw [List.length_map]; omega, e2 _ _ hR, fun d2 H3 d20 d2m e3 => ?_⟩
      have e23 := e2.trans e3
      rw [List.length_map] at d2m
      refine ⟨D, _, d2, d2.toNat, rfl, rfl, e23 _ _ hD, ?_, ?_⟩
      · unfold ixN
        rw [if_pos d20, List.length_map, if_pos (by omega)]
      · refine k _ ((c0 :: cr).set d2.toNat o) (fun b x hb hx => by rw [upd_ne hb]; exact e23 _ _ hx) (by rw [upd_same, ← List.map_set]) (by rw [List.length_set]) fun c hc => ?_
        rcases List.mem_or_eq_of_mem_set hc with h | h
        · exact .inl h
        · exact .inr h
  · exact k _ ls (fun b x _ hb => e1 _ _ hb) (e1 _ _ hD) rfl fun c hc => .inl hc
end
section
variable {P : Program} {w : World} {K : PySem.W.Frag} {mg : Str → Option Value} {base : Heap}
/-! ### _law_words -/
abbrev sLWd : Stmt := top 43
abbrev nLWd : List Str := ["_law_rng_here", "_law_abc", "_law_other", "_law_found", "_law_turn", "_law_letters_here", "_law_k"]
abbrev psLWd : List Str := ["_law_rng_here", "_law_abc", "_law_other"]
theorem scLWd : FnScope nLWd psLWd (defScope sLWd) := ⟨rfl, rfl, rfl, by decide +kernel, rfl, by decide +kernel, by decide +kernel⟩
def spLWd : Sp := fun vs H Q _ => ∃ (r pa : Addr) (cs : List Nat) (o : Nat), vs = [.ref r, .ref pa, ltV o] ∧ H r = some (rngO r) ∧ H pa = some (.lst (cs.map ltV)) ∧ 1 ≤ cs.length ∧ cs.length ≤ 6 ∧ Lets cs ∧ (97 ≤ o ∧ o < 123) ∧
  ∀ (p : Addr) (ws : List (List Nat)) (H' : Hp), Same H H' → H' p = some (.lst (ws.map txtV)) → ws.length ≤ 12 → (∀ x ∈ ws, Lets x ∧ x.length ≤ 40) → Q (.ref p) H'
theorem ok_lwd {f : Addr} {fd : FuncData} (F : Fun K "_law_words" "_law_words" sLWd f fd) (B : Bl mg) (D : Cal P w K mg base "_law_draw" 1 ["_law_rng_here", "_law_many"] spDraw) (C : Cal P w K mg base "_law_choice" 2 ["_law_rng_here", "_law_some"] (spChoice K)) : FnOk P w K mg base CX0 3 f fd psLWd spLWd := by
  refine F.ok scLWd (fun vs H Q E h => ?_) (fun cdv A outer s H vs Q E hr h => ?_)
  · obtain ⟨r, pa, cs, o, rfl, _⟩ := h
    rfl
  · obtain ⟨r, pa, cs, o, rfl, hR, hpa, c1, c6, hcs, ho, k⟩ := h
    have hr1 := hr.mono (by decide : 1 ≤ 2)
    refine ⟨_, pss_cons (ps_set (i := 3) scLWd.nd rfl (.inl rfl) (pe_lst (pa_cons pe_str (pa_cons (pe_ix ix_list (pv 1) pe_int (fun _ _ => rfl)) (pa_cons (pv 2) pa_nil)))))
      (pss_cons (ps_for PassesOwn.never rfl (pi_range1 (by rfl) B.range (pa_cons pe_int pa_nil)) (pg_name (i := 4) scLWd.nd rfl (.inl rfl))
        (pss_cons (ps_setLc (i := 5) (own := [("_law_k", 6)]) (g := gName 6) (tt := tYes) (te := tCall (spChoice K) [] E0 (tCons (tVar 0) (tCons (tVar 1) tNil))) rfl scLWd.nd rfl rfl (sw_true rfl rfl rfl (by decide +kernel)) (pi_range1 (by rfl) B.range (pa_cons (pe_cal D hr1 (pa_cons (pv 0) (pa_cons (pe_ix ix_list (pe_lst (pa_cons pe_int (pa_cons pe_int (pa_cons pe_int pa_nil)))) (pe_cal D hr1 (pa_cons (pv 0) (pa_cons pe_int pa_nil))) (fun _ _ => rfl)) pa_nil))) pa_nil)) (blkOk_by (by kernel_rfl)) (fun _ _ _ _ _ => pg_name (i := 6) scLWd.nd rfl (.inl rfl)) (fun _ _ _ _ _ => pts_nil) (fun _ _ _ _ _ => pe_cal C hr (pa_cons (pv 0) (pa_cons (pv 1) pa_nil))))
      (pss_cons (ps_if (PW.pt (pw_and (pt_cmpR op_eq (pe_cal D hr1 (pa_cons (pv 0) (pa_cons pe_int pa_nil))) pe_int (nomark _)) (pw_and1 (pt_cmpR (op_neD hr.units) (pv 5) (pe_lst pa_nil) (nomark _)))))
        (pss_one (ps_asg (pv 2) (pg_sub (pv 5) (pe_cal D hr1 (pa_cons (pv 0) (pa_cons (pe_callB call_len_seq (by rfl) B.len boot_len (pa_cons (pv 5) pa_nil)) pa_nil))) set_list))) pss_nil)
      (pss_one (ps_expr (pe_bm PySem.F.plainAttrs_list PySem.F.slot_list_append PySem.F.type_list_append mt_append (pv 3) (pa_cons (pe_join pe_str (pv 5)) pa_nil)))))))
      (pss_one (ps_ret (pv 3)))), ?_⟩
    have hat0 : ∃ c0, atI (cs.map ltV) 0 = some (ltV c0) ∧ c0 ∈ cs := by
      cases cs with
      | nil => simp at c1
      | cons a l => exact ⟨a, atI_of (Int.le_refl 0) rfl, List.mem_cons_self⟩
    obtain ⟨c0, hat, hc0⟩ := hat0
    refine ⟨_, rfl, pa, _, _, _, rfl, rfl, SqL.of hpa, hat, _, rfl, by show 3 ≤ sizeLine; decide, fun pf hpf => ?_⟩
    refine ⟨_, rfl, by omega, by omega, ?_⟩
    refine for_it (walk_range (lo := 0) (n := (9 : Int).toNat)) (fun i σ H' => Same H H' ∧ ∃ (ws : List (List Nat)) (a4 a5 a6 : Option V), σ = [some (.ref r), some (.ref pa), some (ltV o), some (.ref pf), a4, a5, a6] ∧ H' pf = some (.lst (ws.map txtV)) ∧ ws.length = 3 + i ∧ ∀ x ∈ ws, Lets x ∧ x.length ≤ 40) ⟨same_new hpf, [[], [c0], [o]], none, none, none, rfl, upd_same, rfl, ?_⟩ (fun _ _ _ _ _ => trivial) ?_ ?_
    · intro x hx
      simp only [List.mem_cons, List.not_mem_nil, or_false] at hx
      rcases hx with rfl | rfl | rfl
      · exact ⟨fun c hc => (by cases hc), by decide⟩
      · exact ⟨fun c hc => by rw [List.mem_singleton.mp hc]; exact hcs c0 hc0, by show 1 ≤ 40; decide⟩
      · exact ⟨fun c hc => by rw [List.mem_singleton.mp hc]; exact ho, by show 1 ≤ 40; decide⟩
    · rintro i v σ H1 H1' hi ⟨e1, ws, a4, a5, a6, rfl, hf, hwl, hws⟩ ⟨rfl, rfl⟩
      refine ⟨_, rfl, by show 3 ≤ sizeLine; decide, fun p1 hp1 => ?_⟩
      have e1' := same_new (o := .lst [.int 4, .int 9, .int 41]) hp1
      refine ⟨_, rfl, r, 3, rfl, by decide, by decide, (e1.trans e1') _ _ hR, fun d H2 d0 d3 e2 => ?_⟩
      obtain ⟨m, hm, hm'⟩ : ∃ m : Int, atI [V.int 4, V.int 9, V.int 41] d = some (.int m) ∧ (m = 4 ∨ m = 9 ∨ m = 41) := by
        have hd : d = 0 ∨ d = 1 ∨ d = 2 := by omega
        rcases hd with rfl | rfl | rfl
        · exact ⟨4, rfl, by omega⟩
        · exact ⟨9, rfl, by omega⟩
        · exact ⟨41, rfl, by omega⟩
      have e12 := e1'.trans e2
      refine ⟨p1, _, _, .int m, rfl, rfl, SqL.of (e2 _ _ upd_same), hm, r, m, rfl, by omega, by omega, (e1.trans e12) _ _ hR, fun d2 H3 d20 d2m e3 => ?_⟩
      have e13 := e12.trans e3
      refine ⟨_, rfl, by omega, by omega, fun D hD => ?_⟩
      refine lc_S (walk_range (lo := 0) (n := d2.toNat)) hD (by omega) (fun j acc _ => ∃ ls : List Nat, acc = ls.map ltV ∧ ls.length = j ∧ ∀ c ∈ ls, c ∈ cs) (fun _ _ _ _ _ _ _ h => h) ⟨[], rfl, rfl, fun c hc => (by cases hc)⟩ (fun _ _ => trivial) ?_ ?_
      · rintro j v H4 H4' acc Qt Qf hj e4 hd ⟨ls, rfl, hll, hlc⟩ ⟨rfl, rfl⟩ kt kf
        have e04 := e1.trans (e13.trans e4)
        refine ⟨rfl, _, rfl, _, rfl, .inl ⟨r, pa, _, rfl, e04 _ _ hR, SqL.of (e04 _ _ hpa), by rw [List.length_map]; omega, by rw [List.length_map]; omega, fun x H5 hx e5 => ?_⟩⟩
        obtain ⟨c, hc, rfl⟩ := List.mem_map.mp hx
        exact kt _ _ e5 ⟨ls ++ [c], by rw [List.map_append]; rfl, by rw [List.length_append, hll]; rfl, fun b hb => (List.mem_append.mp hb).elim (hlc b) fun h => by rw [List.mem_singleton.mp h]; exact hc⟩
      rintro H4 acc e4 hd4 ⟨ls, rfl, hll, hlc⟩
      have e14 := e13.trans e4
      refine if_put rfl rfl rfl ((e1.trans e14) _ _ hR) hd4 (fun c hc => hcs c (hlc c hc)) (by omega) fun H5 ls' k5 hD5 hl5 hc5 => ?_
      have e15 : Same H1' H5 := fun b x hb => k5 b x (fun z => by
        have := e13.free hD
        rw [← z, hb] at this
        cases this) (e14 _ _ hb)
      have hls' : Lets ls' := fun c hc => (hc5 c hc).elim (fun h => hcs c (hlc c h)) fun h => by rw [h]; exact ho
      have hf5 := e15 _ _ hf
      refine ⟨_, rfl, .inl ⟨rfl, _, SqL.of hf5⟩, ⟨_, rfl⟩, _, rfl, _, D, ls'.map lt, rfl, rfl, .inl (SqL.of (by rw [List.map_map]; exact hD5)), ?_, ?_⟩
      · rw [sum_lt, List.length_map]
        show ls'.length + ls'.length * 0 ≤ 16777216
        omega
      rw [join_lt]
      refine ⟨pf, _, _, rfl, rfl, hf5, by rw [List.length_map, sizeLine_eq]; have : i < 9 := hi; omega, ?_⟩
      refine ⟨same_upd (e1.trans e15) hpf, ws ++ [ls'], _, _, _, rfl, by rw [upd_same, List.map_append]; rfl, by rw [List.length_append, hwl]; rfl, fun x hx => ?_⟩
      rcases List.mem_append.mp hx with h | h
      · exact hws x h
      · rw [List.mem_singleton.mp h]
        exact ⟨hls', by omega⟩
    · rintro σ H1 ⟨e1, ws, a4, a5, a6, rfl, hf, hwl, hws⟩
      have : ws.length = 12 := hwl
      exact ⟨_, rfl, k pf ws _ e1 hf (by omega) hws⟩
end
end SS

set_option maxRecDepth 100000
set_option maxHeartbeats 4000000
/-! a lambda handed to a def that catches what it raises by name: what flies is read at the slots of the call -/
namespace SR
open PySem PySem.Spec PyProof.Rows L2 LamX
section
variable {X : Cx} {pins : List (Addr × Obj)} {σ : L2.St} {H : Hp} {s : Shared}
theorem pe_actS {CXg : CXT} {Eg : XK} {Ng : List Str} {qg : Str} {sg : Scope} {g f c' : Addr} {cdg pm ctv : Value} {params : Arguments} {body : Expr} {scope : Scope} {k i : Nat} {a : Str} {pn : List (Addr × Obj)} {xe : Value → Shared → Prop} {W : WX} {t : XK → TE} {p1 p2 : Pos}
    (I : Inv X pins σ H s) (L : LamS X.env.scope scope) (hf : s.heap.get? f = some (PySem.W.kla_obj "<lambda>" (X.env.qual ++ "<lambda>") params body scope (cloFrom X.env.cells scope.names []) pm c' ctv)) (hfn : H f = none) (hfr : f ∉ frs X.stack)
    (hbind : bindArgs (PySem.W.kla_fn "<lambda>" (X.env.qual ++ "<lambda>") params body scope (cloFrom X.env.cells scope.names []) pm (.ref c') ctv) ⟨[], []⟩ = pure [])
    (tk : Takes ((cxOf CXg X.prog X.w X.K X.mg X.base Ng qg sg g cdg X.A X.stack s H Eg).tr pn xe) W) (hr : Room (k + 1) (X.A.deeper (envOfC qg sg s.heap.objs.size g cdg)))
    (hbody : ∀ (A : Around) (outer : List Env) (s : Shared) (H : Hp) (E : XK), A.guards = X.A.guards → Room k (A.deeper (lamEnv X scope s.heap.objs.size f c')) → PE (lamCx X A outer s H E scope f c') body (t E))
    (hN : Ng[i]? = some a) (hv : Vis sg a) (hd : (a == ("__debug__" : Str)) = false := by decide) (hcd : (a == ("__classdict__" : Str)) = false := by decide) :
    PE ((cxOf CXg X.prog X.w X.K X.mg X.base Ng qg sg g cdg X.A X.stack s H Eg).tr pn xe) (.Call (.Name a p1) [] [] p2)
      (fun σZ HZ Q => σZ[i]? = some (some (.ref f)) ∧ HZ c' = some (CodeO c' (X.env.qual ++ "<lambda>")) ∧ t (WE W σZ) σ HZ Q) := by
  refine ⟨fun pinsZ sZ σZ HZ Q IZ h => ?_⟩
  obtain ⟨hs, hc, ht⟩ := h
  refine wpAny_Call_Name_kw (thn ((pe_var (pos := p1) (i := i) hN hv hd hcd).run pinsZ sZ σZ HZ (fun v H1 => v = .ref f ∧ H1 = HZ) IZ ⟨.ref f, hs, rfl, rfl⟩) fun u s1 ⟨v, H1, I1, r1, q1⟩ => ?_)
  obtain ⟨ev, eH⟩ := q1
  subst ev
  rw [eH] at I1
  obtain rfl : u = Value.ref f := r1
  have of1 : s1.heap.get? f = some (PySem.W.kla_obj "<lambda>" (X.env.qual ++ "<lambda>") params body scope (cloFrom X.env.cells scope.names []) pm c' ctv) := I1.base.keep f _ hf hfn hfr (fun z => nomatch (show f ∈ ([] : List Addr) from z))
  refine PySem.W.callWith_F0 ⟨_, _, _, _, of1⟩ ?_
  have un : Un (frs X.stack) [] H HZ s.heap s1.heap := I1.base
  obtain ⟨⟨oc, vs, tt, hoc, hdc, hvc⟩, _, _⟩ := I1.hok c' _ hc
  have rc : codeAny (model X.prog X.w) (X.A.deeper (envOfC qg sg s.heap.objs.size g cdg)) (.call (.ref f) ⟨[], []⟩) (CR (L2.CX X.prog X.w) (envOfC qg sg s.heap.objs.size g cdg :: X.stack) X.prog X.w HZ s1 Q (WE W σZ)) s1 := by
    refine PySem.W.kla_callFunE hr.depth of1 rfl L.co L.gen rfl ⟨c', oc, vs, tt, rfl, hoc, hdc, hvc⟩ ?_
    rw [hbind]
    refine wpAny_pure (wpAny_newFunctionEnv (fun y hy => (L.own y hy).2) (fun y hy => absurd hy (by simp)) (fun h₁ hns hsb => ⟨I1.nolimit.fresh _ hsb, ?_⟩) L.kind)
    show codeAny _ _ (.expr body (lamEnv X scope s1.heap.objs.size f c')) _ _
    have kp : ∀ b o, s1.heap.get? b = some o → h₁.get? b = some o := fun b o e => hsb.extBut b o (Nat.ne_of_lt (Heap.lt_size e)) (Heap.get?_push_of_some _ e)
    have J : Inv (lamCx X (X.A.deeper (envOfC qg sg s.heap.objs.size g cdg)) (envOfC qg sg s.heap.objs.size g cdg :: X.stack) s1 HZ (WE W σZ) scope f c') [] σ HZ { s1 with heap := h₁, toks := s1.toks + ([] : List (Str × Value)).length } :=
      lam_start2 I L I1.env0 hr.hd un hns kp
    refine PySem.W.kla_codeExpr (wpAny_mono ((hbody (X.A.deeper (envOfC qg sg s.heap.objs.size g cdg)) _ s1 HZ (WE W σZ) rfl (hr.deeper _)).run [] _ _ HZ Q J ht) (fun v s' hq => ?_) fun e s' hq => hq)
    obtain ⟨w', H', J', rv, q⟩ := hq
    exact ⟨w', H', J'.os, J'.bare, J'.base, J'.hok, rv, q⟩
  have hx := passAt tk σZ
  refine wpAny_call (codeAny_mono rc fun r s' hq => ?_)
  cases r with
  | error e => exact hx pinsZ HZ s1 e s' I1 hq
  | ok fl =>
    cases fl with
    | ret u => exact I1.after hq
    | next => exact False.elim hq
    | brk => exact False.elim hq
    | cont => exact False.elim hq
end
/-- the def that calls what it got: a calls it; TT: what it makes of the lambda's reading -/
def GivesS (k : Nat) (X : Cx) (Ng : List Str) (x : Str) (sg : Scope) (g : Addr) (cdg : Value) (bg : List Stmt) (a : Str) (q : Str) (TT : (XK → Hp → VK → Prop) → Hp → VK → Prop) : Prop :=
  ∀ (f c' : Addr) (s : Shared) (H : Hp) (Q : VK) (tl : XK → Hp → VK → Prop), Room (k + 1) (X.A.deeper (envOfC x sg s.heap.objs.size g cdg)) →
    (∀ (W : WX) (pn : List (Addr × Obj)) (xe : Value → Shared → Prop) (p1 p2 : Pos), Takes ((cxOf C8.CX0 X.prog X.w X.K X.mg X.base Ng x sg g cdg X.A X.stack s H C8.E0).tr pn xe) W →
      PE ((cxOf C8.CX0 X.prog X.w X.K X.mg X.base Ng x sg g cdg X.A X.stack s H C8.E0).tr pn xe) (.Call (.Name a p1) [] [] p2) (fun σZ HZ Q => σZ[0]? = some (some (.ref f)) ∧ HZ c' = some (CodeO c' q) ∧ tl (WE W σZ) HZ Q)) →
    H c' = some (CodeO c' q) → TT tl H Q →
    ∃ t, PSs (cxOf C8.CX0 X.prog X.w X.K X.mg X.base Ng x sg g cdg X.A X.stack s H C8.E0).nox bg t ∧ t { nx := fun _ H' => Q .non H', rt := Q } (L2.start Ng [.ref f]) H
section
variable {X : Cx}
/-- x(lambda: body) -/
theorem pe_lamcallS {T : List (Addr × Str)} {TT : (XK → Hp → VK → Prop) → Hp → VK → Prop} {x a : Str} {g c P : Addr} {k : Nat} {pg : Arguments} {bg : List Stmt} {sg : Scope} {dV kV doc pm cdv ct oc : Value} {an od : Option Addr} {osl : Array (Option Value)} {Ng : List Str}
    {params : Arguments} {body : Expr} {scope : Scope} {t : XK → TE} {p lpos pos : Pos} (hg : Gl X x) (hm : X.mg x = some (.ref g)) (hk : PySem.W.keepIn X.K (.ref g) = true)
    (lk : X.K.lookup g = some ⟨oc, od, .func (PySem.W.fnOf x x pg bg sg dV kV doc pm an cdv ct), osl⟩) (hcg : PySem.W.codeIn X.K cdv x = true) (hb : L2.Binds X.K (PySem.W.fnOf x x pg bg sg dV kV doc pm an cdv ct) [a] []) (Sg : FnScope Ng [a] sg) (hNg : Ng[0]? = some a) (hva : Vis sg a)
    (hG : GivesS k X Ng x sg g cdv bg a (X.env.qual ++ "<lambda>") TT)
    (TB : TabB X.base X.mg c P) (hcode : X.env.code = .ref c) (hmT : (P, X.env.qual ++ "<lambda>") ∈ T) (hu : ∀ p ∈ T, p.1 = P → p.2 = X.env.qual ++ "<lambda>") (hr : Room (k + 2) X.A) (L : LamS X.env.scope scope) (hdef : defaultsOf params X.env = ([], []))
    (hbind : ∀ (q : Str) (cl : List (Str × Addr)) (pm cv ctv : Value), bindArgs (PySem.W.kla_fn "<lambda>" q params body scope cl pm cv ctv) ⟨[], []⟩ = pure [])
    (hbody : ∀ (A : Around) (outer : List Env) (s : Shared) (H : Hp) (E : XK) (f c' : Addr), A.guards = X.A.guards → Room k (A.deeper (lamEnv X scope s.heap.objs.size f c')) → PE (lamCx X A outer s H E scope f c') body (t E))
    (hdb : (x == ("__debug__" : Str)) = false := by decide) (hd : (a == ("__debug__" : Str)) = false := by decide) (hcd : (a == ("__classdict__" : Str)) = false := by decide) :
    PE X (.Call (.Name x p) [.Lambda params body scope lpos] [] pos) (tLam T TT t) := by
  refine ⟨fun pins s σ H Q I h => ?_⟩
  obtain ⟨hT, h⟩ := h
  refine wpAny_Call_Name_kw (ld_glob I hg hm ?_ hdb)
  refine PySem.W.callWith_K (h₀ := X.base) I.ok.mod.kin hk ?_ (by rfl) (by rfl)
  show wpAny _ _ (spliced ((false, eval (.Lambda params body scope lpos) X.env) :: backTo pos (starEach [] X.env))) _ _ s
  refine Calls.spliced_cons (lam_make2 I TB hcode hmT hu hT hdef (L.has I.ok) fun f c' pm' ctv H1 s' I1 eN T1 hf hfn hfr hco => ?_)
  refine Calls.spliced_nil ⟨I1.kIn, ?_⟩
  have rc : codeAny (model X.prog X.w) X.A (.call (.ref g) ⟨[.ref f], []⟩) (CR C8.CX0 X.stack X.prog X.w H1 s' Q C8.E0) s' := by
    refine run_ofS (N := Ng) (ps := [a]) (us := [.ref f]) (vs := [.ref f]) lk hcg Sg hr I1.env0 (hb s' [.ref f] I1.kIn rfl) (.cons rfl .nil) rfl fun hr' => ?_
    obtain ⟨t', ht', hq'⟩ := hG f c' s' H1 Q (fun E H' Q' => t E σ H' Q') hr' (fun W pn xe p1 p2 tk => pe_actS (i := 0) I1 L hf hfn hfr (hbind _ _ _ _ _) tk hr' (fun A outer s H E hgd hr2 => hbody A outer s H E f c' hgd hr2) hNg hva hd hcd) hco (h H1 eN T1)
    exact ⟨t', ht'.nox, hq'⟩
  refine wpAny_call (codeAny_mono rc fun r s2 hq => ?_)
  cases r with
  | error e => exact (show False from hq).elim
  | ok fl =>
    cases fl with
    | ret u => exact I1.after hq
    | next => exact False.elim hq
    | brk => exact False.elim hq
    | cont => exact False.elim hq
end
end SR

set_option maxRecDepth 100000
set_option maxHeartbeats 4000000
/-! try .. except C1 as n .. except C2 as n -/
namespace SR
open PySem PySem.Spec PyProof.Rows L2
abbrev Suits := List (Value × (Addr → Value → Option Addr → TS))
def wEach (K : PySem.W.Frag) (i : Nat) (W0 : WX) (D : Ends) : Suits → WX
  | [] => W0
  | (c, ts) :: r => wAs K c i ts (wEach K i W0 D r) D
inductive HdsA (X : Cx) (n : Str) : List ExceptHandler → Suits → Prop
  | nil : HdsA X n [] []
  | cons {x : Str} {c : Value} {ts : Addr → Value → Option Addr → TS} {b0 : Stmt} {su : List Stmt} {p1 p2 : Pos} {hs : List ExceptHandler} {l : Suits} (names : Names X x c)
      (suit : ∀ (a : Addr) (ox : Obj) (cls : Value) (d : Option Addr) (pn : List (Addr × Obj)), Zc cls d ox → (∃ vs, ox.data = .fields vs) → PSs (X.suite a ((a, ox) :: pn)) (b0 :: su) (ts a cls d)) (rest : HdsA X n hs l) :
      HdsA X n (.ExceptHandler (some (.Name x p1)) (some n) (b0 :: su) p2 :: hs) ((c, ts) :: l)
section
variable {X : Cx} {n : Str} {i : Nat} {body : List Stmt} {h0 : ExceptHandler} {hs : List ExceptHandler} {l : Suits} {pos : Pos} {tb : WX → TS} {W0 : WX}
theorem ps_try_each (hst : X.stack = X.env :: X.outer) (hfl : X.env.frame = some X.env.locals) (nd : X.N.Nodup) (hni : X.N[i]? = some n) (hlo : X.env.kindOf n = some .local) (tk : Takes X W0)
    (hbody : ∀ (W : WX) (pn : List (Addr × Obj)) (xe : Value → Shared → Prop), Takes (X.tr pn xe) W → PassesOwn (model X.prog X.w) X.A X.env xe → PSs (X.tr pn xe) body (tb W)) (hh : HdsA X n (h0 :: hs) l) :
    PS X (.Try body (h0 :: hs) [] [] pos) (fun D σ H => tb (wEach X.K i W0 D l) D σ H) := by
  refine ⟨fun pins s σ H D I want => ?_⟩
  have okX := I.ok
  have frX : X.A.frames = some (X.env :: X.outer) := okX.frames.trans (congrArg some hst)
  refine wpAny_Try_except ?_
  refine wpAny_mono ((hbody (wEach X.K i W0 D l) (X.pn ++ pins) (fun ev t1 => wpAny (model X.prog X.w) X.A (noteFrame ev X.env) (fun _ t2 => wpAny (model X.prog X.w) X.A (setFlight ev none) (fun _ t3 =>
    wpAny (model X.prog X.w) X.A (handleBy ev X.env (h0 :: hs)) (SP X pins D) X.xe t3) X.xe t2) X.xe t1) (fun ev t0 caught => ?_) PassesOwn.looking).run [] s σ H D (I.toTry _) want) (fun fl t1 ended => ?_) (fun _ _ z => z)
  · obtain ⟨a, B, sB, pinsB, σB, HB, cls, d, rfl, JB, nb, up0, skyB, free, osB, agB, wish⟩ := caught
    have JX : Inv X pins σB HB sB := JB.ofTry okX
    have skyX : Sky B (X.env :: X.outer) a (Zc cls d) X.env.locals t0.heap := hst ▸ skyB
    show wpAny (model X.prog X.w) X.A (noteFrame (.ref a) X.env) _ _ _
    refine Sky.land Zc.steady frX hfl skyX fun hp1 fly1 up1 => ?_
    have J1 : Inv X pins σB HB { t0 with heap := hp1 } := JX.landed nb fly1.1 (up0.trans up1) osB agB
    obtain ⟨ox1, vs1, at1, zc1, dat1⟩ := fly1.there
    have offStack : a ∉ frs (X.env :: X.outer) := fun hm => by
      obtain ⟨_, o', at', hnf⟩ := fly1.2.2.1.mem hm
      rw [at1] at at'
      cases at'
      exact hnf _ dat1
    have offLocals : a ≠ X.env.locals := fun z => offStack (List.mem_filterMap.mpr ⟨X.env, List.mem_cons_self, z ▸ hfl⟩)
    have offOuter : a ∉ X.fs := fun hm => by
      obtain ⟨en, hen, q⟩ := List.mem_filterMap.mp hm
      exact offStack (List.mem_filterMap.mpr ⟨en, List.mem_cons_of_mem _ hen, q⟩)
    have SU1 := J1.suite at1 dat1 free offLocals offOuter
    have each : ∀ {hs' : List ExceptHandler} {l' : Suits}, HdsA X n hs' l' → wEach X.K i W0 D l' cls d σB HB → wpAny (model X.prog X.w) X.A (handleBy (.ref a) X.env hs') (SP X pins D) X.xe { t0 with heap := hp1 } := by
      intro hs' l' hk
      induction hk with
      | nil =>
        intro out
        refine wpAny_handleBy_nil ?_
        obtain ⟨_, _, _, ox, vs, Tb, oTb, tsb, atx, _, datx, fx, _⟩ := id fly1
        unfold PySem.passOn
        refine wpAny_bind (wpAny_field atx datx fx ?_)
        rw [if_neg (show ¬ (Value.ref Tb == Value.none) = true from Bool.false_ne_true)]
        have leave : wpAny (model X.prog X.w) X.A (setFlight (.ref a) X.env.frame) (fun _ t4 => wpAny (model X.prog X.w) X.A (throw (.ref a) : Sem Flow) (SP X pins D) X.xe t4) X.xe { t0 with heap := hp1 } := by
          rw [hfl]
          refine HandSPX.setFlight_upZ fly1 fun hp4 held4 up4 => wpAny_throw (tk _ _ ?_)
          exact ⟨a, B, sB, pins, σB, HB, cls, d, rfl, JX, nb, (up0.trans up1).trans up4, .inr (.inr (hst ▸ held4)), free, osB, agB, out⟩
        first
          | exact wpAny_bind (wpAny_pure (wpAny_bind leave))
          | exact wpAny_bind leave
      | @cons x c ts b0 su p1 p2 hs2 l2 names suit rest ih =>
        rintro ⟨b, hb1, yes, no⟩
        refine wpAny_handleBy_cons (codeAny_handlers_test ?_) (fun q => nomatch q)
        have tyA : PySem.W.Looks (model X.prog X.w) hp1 (typeOf (.ref a)) cls := fun A2 Q2 E2 s2 kk q => wpAny_typeOf_ref (kk _ _ at1) (by rw [zc1.1]; exact q)
        have isA := PySem.W.exm_one (M := model X.prog X.w) J1.kIn tyA hb1
        have named : ∀ {Q2 : Value → Shared → Prop} {E2 : Value → Shared → Prop}, Q2 c { t0 with heap := hp1 } → wpAny (model X.prog X.w) (X.A.mark (some (.ref a))) (eval (.Name x p1) X.env) Q2 E2 { t0 with heap := hp1 } := fun {Q2 E2} q => by
          obtain ⟨gl, dbg, mm | ⟨mm, boot, nnm⟩⟩ := names
          · exact ld_glob (X := X.suite a ((a, ox1) :: (X.pn ++ pins))) SU1 gl mm q dbg
          · exact ld_blt (X := X.suite a ((a, ox1) :: (X.pn ++ pins))) SU1 gl mm boot q nnm dbg
        refine named (isA.here ?_)
        cases b with
        | true =>
          refine codeAny_handlers_suite_as ?_
          refine HandSPX.lands_againZ fly1 fun hp4 fly4 up4 => ?_
          have J4 : Inv X pins σB HB { t0 with heap := hp4 } := JX.landed nb fly4.1 ((up0.trans up1).trans up4) osB agB
          obtain ⟨ox4, vs4, at4, zc4, dat4⟩ := fly4.there
          have SU4 := J4.suite at4 dat4 free offLocals offOuter
          refine store_ok (X := X.suite a ((a, ox4) :: (X.pn ++ pins))) (v := .ref a) SU4 nd hni (.inl hlo) rfl (fun t5 SU5 => ?_) (.inr hlo)
          refine wpAny_mono ((suit a ox4 cls d (X.pn ++ pins) zc4 ⟨_, dat4⟩).run [] t5 _ HB _ SU5 (yes rfl a free)) (fun fl t6 ended => ?_) (fun _ _ z => z.elim)
          have unnamed : ∀ {σ6 : L2.St} {H6 : Hp} {Q : Shared → Prop}, Inv (X.suite a ((a, ox4) :: (X.pn ++ pins))) [] σ6 H6 t6 → (∀ t7, Inv X pins (σ6.set i none) H6 t7 → Q t7) →
              wpAny (model X.prog X.w) X.A (do bindName X.env n .none; unbindBehindTheSuite X.env n p2) (fun _ t7 => Q t7) X.xe t6 := fun {σ6 H6 Q} SU6 hq => gone_ok (SU6.unsuite okX) nd hni hlo hq
          cases fl with
          | next =>
            obtain ⟨σ6, H6, SU6, q6⟩ := ended
            exact unnamed SU6 fun t7 J7 => ⟨_, _, J7, q6⟩
          | brk =>
            obtain ⟨σ6, H6, SU6, q6⟩ := ended
            exact unnamed SU6 fun t7 J7 => ⟨_, _, J7, q6⟩
          | cont =>
            obtain ⟨σ6, H6, SU6, q6⟩ := ended
            exact unnamed SU6 fun t7 J7 => ⟨_, _, J7, q6⟩
          | ret u =>
            obtain ⟨v6, σ6, H6, SU6, r6, q6⟩ := ended
            exact unnamed SU6 fun t7 J7 => ⟨_, _, _, J7, r6, q6⟩
        | false =>
          show wpAny _ X.A (handleBy (.ref a) X.env hs2) _ _ _
          exact ih (no rfl)
    exact each hh wish
  · cases fl with
    | next =>
      obtain ⟨σ', H', JT, q⟩ := ended
      exact wpAny_execs_nil ⟨σ', H', JT.ofTry okX, q⟩
    | brk =>
      obtain ⟨σ', H', JT, q⟩ := ended
      exact ⟨σ', H', JT.ofTry okX, q⟩
    | cont =>
      obtain ⟨σ', H', JT, q⟩ := ended
      exact ⟨σ', H', JT.ofTry okX, q⟩
    | ret u =>
      obtain ⟨v, σ', H', JT, r, q⟩ := ended
      exact ⟨v, σ', H', JT.ofTry okX, r, q⟩
end
/-! ### isinstance(e, (C, D)) of a caught exception that has its dict -/
end SR

set_option maxRecDepth 100000
set_option maxHeartbeats 4000000
set_option pp.maxSteps 1500
namespace SR
open PySem PySem.Spec PyProof.Rows L2
/-! f(k=v, ..) within try; isinstance(e, (C, D)); repr of both kinds -/
def tCallWS (sp : Sp) (m : Nat) (gV : List V → List V → List V) (E : L2.St → XK) (tk : TA) : TE := fun σ H Q => tk σ H fun zs H1 => zs.length = m ∧ sp (gV [] zs) H1 Q (E σ)
theorem pe_callWS {X : Cx} {CX : CXT} {k : Nat} {f : Addr} {fd : FuncData} {ps ks : List Str} {sp : Sp} {E : L2.St → XK} {x : Str} {p pos : Pos} {kws : List Keyword} {tk : TA} {g : List Value → List Value → List Value} {gV : List V → List V → List V}
    (F : FnOk X.prog X.w X.K X.mg X.base CX k f fd ps sp) (hr : Room k X.A) (hg : Gl X x) (hm : X.mg x = some (.ref f)) (kp : PySem.W.keepIn X.K (.ref f) = true) (hb : KBn X.K fd ps 0 ks g gV) (hx : ∀ σ, PassesAt CX X σ (E σ)) (hkw : PK X kws tk) (hdb : (x == ("__debug__" : Str)) = false := by decide)
    (hall : (backToKw pos (keywordEach kws X.env)).all (·.1.isSome) = true := by rfl) (hks : (backToKw pos (keywordEach kws X.env)).filterMap (·.1) = ks := by rfl)
    (hpl : ((backTo pos (starEach [] X.env)).any (·.1) || (backToKw pos (keywordEach kws X.env)).any (·.1.isNone)) = false := by rfl) : PE X (.Call (.Name x p) [] kws pos) (tCallWS sp ks.length gV E tk) := by
  refine ⟨fun pins s σ H Q I h => wpAny_Call_Name_kw (ld_glob I hg hm ?_ hdb)⟩
  refine PySem.W.callWith_KW0 (h₀ := X.base) I.ok.mod.kin kp hall (thn (hkw.run pos pins s σ H _ I h) fun ws s2 ⟨zs, H2, I2, rz, l2, q2⟩ => ⟨I2.kIn, ?_⟩) hpl
  rw [hks]
  refine wpAny_call (codeAny_mono (F.run X.A X.stack s2 H2 ⟨[] ++ [], ks.zip ws⟩ (g [] ws) (gV [] zs) Q (E σ) hr I2.env0 (hb.to _ [] ws I2.kIn rfl (rz.length.symm.trans l2)) (hb.rel .nil rz) q2) fun r s' hq => ?_)
  rcases r with e | fl
  · exact hx σ pins _ _ e s' I2 hq
  · cases fl with
    | ret u => exact I2.after hq
    | next => exact hq.elim
    | brk => exact hq.elim
    | cont => exact hq.elim
def rIsET (K : PySem.W.Frag) (D a : Addr) (cls : Value) (d : Option Addr) : List V → Hp → VK → Prop := fun xs H Q => cls = .ref D ∧ ∃ (tp : Addr) (cs : List V) (its : List Value) (b : Bool) (dd : Addr) (fs : List (Str × V)), xs = [.ref a, .ref tp] ∧ SqT K H tp cs ∧ (∀ us, Vals cs us → us = its) ∧ PySem.W.kitAny K (.ref D) its = some b ∧ d = some dd ∧ H dd = some (.xd fs) ∧ Q (.bl b) H
theorem call_isET {X : Cx} {a D : Addr} {oe : Obj} {d : Option Addr} {cls : Value} {pn : List (Addr × Obj)} (C : ExcC X.K D) (hz : Zc cls d oe) (hf : ∃ vs, oe.data = .fields vs) : CallR (X.suite a ((a, oe) :: pn)) (.builtin "isinstance") (rIsET X.K D a cls d) := by
  intro pins s σ H xs us Q I r h
  obtain ⟨hc, tp, cs, its, b, dd, fs, rfl, hT, hi, e, ed, ex, q⟩ := h
  subst hc
  subst ed
  obtain ⟨u1, u2, rfl, r1, r2⟩ := vals2 r
  obtain rfl : u1 = Value.ref a := r1
  obtain rfl : u2 = Value.ref tp := r2
  obtain ⟨its2, rv, ⟨oT, hoT, hcT, n, hdT⟩, _⟩ := I.tuple hT
  have e2 := hi _ rv
  subst e2
  obtain ⟨hget, _⟩ := I.pin (a, oe) (List.mem_append.mpr (.inl List.mem_cons_self))
  obtain ⟨vs, hv⟩ := hf
  have hx : ObjOk X.prog X.w H s.heap dd (.xd fs) := I.hok dd _ ex
  obtain ⟨mA, hns, hr⟩ := hx
  obtain ⟨od, ho, hl⟩ := lookIn_ns hns
  have J : PySem.W.InstAt s.heap a oe D (some od) := ⟨hget, hz.1, by unfold PySem.W.notCls; rw [hv] <;> rfl, by rw [hz.2]; exact ho⟩
  obtain ⟨oc, odc, odt, osl⟩ := oT
  dsimp only at hcT hdT
  subst hcT
  subst hdT
  exact PySem.W.kia_tup (kitx_excD C) I.kIn J hoT e (fun z => nomatch z) fun tk => ⟨.bl b, H, I.kept (t' := tk) fun _ _ z => z, rfl, q⟩
def rReprO (K : PySem.W.Frag) : List V → Hp → VK → Prop := fun xs H Q => rReprD K xs H Q ∨ rReprQ K xs H Q
theorem call_reprO {X : Cx} (hgd : X.A.guards = some []) (hu : X.A.units + 66 < cLine) : CallR X (.builtin "repr") (rReprO X.K) := by
  intro pins s σ H xs us Q I r h
  rcases h with h | h
  · exact call_reprD hgd (by omega) pins s σ H xs us Q I r h
  · exact call_reprQ hgd hu pins s σ H xs us Q I r h
end SR
namespace SS
open PySem L2 SR TL
/-! ### what is told, as text -/
def rdgD : List (List Nat) ⊕ Nat → PyData
  | .inl xs => .list [.str "told", .tuple (xs.map fun x => .str (txt x))]
  | .inr n => .list [.str "unreadable", .int (n : Nat)]
/-- an odd value and its data -/
inductive OddD (K : PySem.W.Frag) (H : Hp) : V → PyData → Prop
  | non : OddD K H .non .none
  | bl (b : Bool) : OddD K H (.bl b) (.bool b)
  | int : OddD K H (.int 5) (.int 5)
  | str (x : List Nat) : x.length ≤ 4 → (∀ c ∈ x, c < 128) → ¬ Lets x → OddD K H (txtV x) (.str (txt x))
  | lst {a : Addr} : H a = some (.lst [.str "a"]) → OddD K H (.ref a) (.list [.str "a"])
  | tup {a : Addr} : H a = some (.tup [.str "a"]) → OddD K H (.ref a) (.tuple [.str "a"])
  | tup0 {a : Addr} : H a = some (.tup []) → OddD K H (.ref a) (.tuple [])
  | dic {a : Addr} : H a = some (.dK []) → OddD K H (.ref a) (.dict [])
theorem OddD.mono {K : PySem.W.Frag} {H H' : Hp} {v : V} {d : PyData} (e : Same H H') (h : OddD K H v d) : OddD K H' v d := by
  cases h with
  | non => exact .non
  | bl b => exact .bl b
  | int => exact .int
  | str x h1 h2 h3 => exact .str x h1 h2 h3
  | lst h => exact .lst (e _ _ h)
  | tup h => exact .tup (e _ _ h)
  | tup0 h => exact .tup0 (e _ _ h)
  | dic h => exact .dic (e _ _ h)
theorem repr_short {x : List Nat} (h : x.length ≤ 4) (h2 : ∀ c ∈ x, c < 128) : (reprText (txt x)).length ≤ 64 := by
  have S : Shw 4 0 (.str (txt x)) := Shw.str (fun c hc => by have := h2 c (by simpa [txt] using hc); omega) (by simpa [txt] using h)
  have := S.len
  simp only [PyData.shown] at this
  omega
theorem OddD.no {K : PySem.W.Frag} {H : Hp} {v : V} {d : PyData} (h : OddD K H v d) : NoWord K H v := by
  cases h with
  | non => exact ⟨.inl (.inl rfl), .non⟩
  | bl b => exact ⟨.inl (.inr (.inr (.inl ⟨b, rfl⟩))), .bl b⟩
  | int => exact ⟨.inl (.inr (.inl ⟨5, rfl⟩)), .int 5 (by decide) (by decide +kernel)⟩
  | str x h1 h2 h3 => exact ⟨.inr ⟨x, rfl, by omega, h3⟩, .str _ (repr_short h1 h2)⟩
  | lst h => exact ⟨.inl (.inr (.inr (.inr ⟨_, rfl, .inl ⟨_, h⟩⟩))), .lst (SqL.of h) (repr_short (x := [97]) (by decide) (by decide))⟩
  | tup h => exact ⟨.inl (.inr (.inr (.inr ⟨_, rfl, .inr (.inl ⟨_, h⟩)⟩))), .tup (SqT.of h) (repr_short (x := [97]) (by decide) (by decide))⟩
  | tup0 h => exact ⟨.inl (.inr (.inr (.inr ⟨_, rfl, .inr (.inl ⟨_, h⟩)⟩))), .tup0 (SqT.of h)⟩
  | dic h => exact ⟨.inl (.inr (.inr (.inr ⟨_, rfl, .inr (.inr ⟨_, h⟩)⟩))), .dic h⟩
/-- repr(['word', v]) -/
theorem OddD.rep {K : PySem.W.Frag} {H : Hp} {v : V} {d : PyData} {p : Addr} {Q : VK} (h : OddD K H v d) (hp : H p = some (.lst [.str "word", v])) (q : Q (.str (PyData.shown (.list [.str "word", d]))) H) : rReprO K [.ref p] H Q := by
  have sz := sizeLine_eq
  have sw : ∀ {n k : Nat} {d : PyData}, Shw n k d → n ≤ 40 → k ≤ 4 → Shw (2 * 41) 5 (.list [.str "word", d]) := fun {n k d} S hn hk => Shw.list (n := 40) (k := 4) (m := 2) (fun e he => by
    rcases List.mem_cons.mp he with rfl | he
    · exact (Shw.str (n := 4) (by decide +kernel) (by decide +kernel)).up (by decide) (by decide)
    · rw [List.mem_singleton.mp he]; exact S.up hn hk) (Nat.le_refl 2)
  have viaQ : ∀ {n k : Nat}, Shw n k d → n ≤ 40 → k ≤ 4 → Dq K H v d → rReprO K [.ref p] H Q := fun {n k} S hn hk D => by
    have S2 := sw S hn hk
    have := S2.len
    have s2 := S2.sh
    have d2 := S2.dp
    simp only [PyData.showable, PyData.depth] at s2 d2
    exact .inr ⟨p, _, _, rfl, SqL.of hp, .cons (.str _) (.cons D .nil), s2, by omega, by omega, q⟩
  cases h with
  | non => exact viaQ .non (by decide) (by decide) .non
  | bl b => exact viaQ (.bl b) (by decide) (by decide) (.bl b)
  | int => exact viaQ (.int (by decide) (by decide)) (by decide) (by decide) (.int 5)
  | str x h1 h2 h3 => exact viaQ (Shw.str (n := 4) (fun c hc => by have := h2 c (by simpa [txt] using hc); omega) (by simpa [txt] using h1)) (by decide) (by decide) (.str _)
  | lst h =>
    have S2 := sw (Shw.list (n := 1) (k := 0) (m := 1) (ds := [.str "a"]) (fun e he => by rw [List.mem_singleton.mp he]; exact Shw.str (by decide +kernel) (by decide +kernel)) (by decide)) (by decide) (by decide)
    have := S2.len
    exact .inl ⟨p, _, rfl, .lst (SqL.of hp) (.cons (.str _) (.cons (.lst (SqL.of h) (.cons (.str _) .nil)) .nil)), S2.sh, by simp [PyData.hasDict, PyData.hasDictAll], by have := S2.dp; omega, by omega, q⟩
  | tup h => exact viaQ (Shw.tup (n := 1) (k := 0) (m := 1) (ds := [.str "a"]) (fun e he => by rw [List.mem_singleton.mp he]; exact Shw.str (by decide +kernel) (by decide +kernel)) (by decide)) (by decide) (by decide) (.tup (SqT.of h) (.cons (.str _) .nil))
  | tup0 h => exact viaQ (Shw.tup (n := 1) (k := 0) (m := 1) (ds := []) (fun e he => by cases he) (by decide)) (by decide) (by decide) (.tup (SqT.of h) .nil)
  | dic h => exact viaQ (Shw.dict (n := 1) (k := 0) (m := 1) (kvs := []) (fun e he => by cases he) (by decide)) (by decide) (by decide) (.dic h .nil)
/-- repr of what is told -/
theorem rdg_rep {K : PySem.W.Frag} {H : Hp} {p : Addr} {Q : VK} : ∀ {r : List (List Nat) ⊕ Nat}, (match r with | .inl xs => xs.length ≤ 60 ∧ ∀ x ∈ xs, Lets x ∧ x.length ≤ 8 | .inr n => n < 40) →
    (match r with | .inl xs => ∃ q, H p = some (.lst [.str "told", .ref q]) ∧ H q = some (.tup (xs.map txtV)) | .inr n => H p = some (.lst [.str "unreadable", .int (n : Nat)])) → Q (.str (PyData.shown (rdgD r))) H → rReprO K [.ref p] H Q
  | .inl xs, hx, ⟨q, hp, hq⟩, z => by
    have sz := sizeLine_eq
    have St : Shw (60 * 9) 1 (.tuple (xs.map fun x => .str (txt x))) := Shw.tup (n := 8) (k := 0) (fun d hd => by
      obtain ⟨x, hx', rfl⟩ := List.mem_map.mp hd
      obtain ⟨h1, h2⟩ := hx.2 x hx'
      exact Shw.str (fun c hc => by have := h1 c (by simpa [txt] using hc); omega) (by simpa [txt] using h2)) (by rw [List.length_map]; exact hx.1)
    have S := Shw.list (n := 540) (k := 1) (m := 2) (ds := [.str "told", .tuple (xs.map fun x => .str (txt x))]) (fun e he => by
      rcases List.mem_cons.mp he with rfl | he
      · exact (Shw.str (n := 4) (by decide +kernel) (by decide +kernel)).up (by decide) (by decide)
      · rw [List.mem_singleton.mp he]; exact St) (Nat.le_refl 2)
    have := S.len
    have s2 := S.sh
    have d2 := S.dp
    simp only [PyData.showable, PyData.depth] at s2 d2
    have all : ∀ xs : List (List Nat), DqAll K H (xs.map txtV) (xs.map fun x => .str (txt x)) := fun xs => by
      induction xs with
      | nil => exact .nil
      | cons x xs ih => exact .cons (.str _) ih
    exact .inr ⟨p, _, _, rfl, SqL.of hp, .cons (.str _) (.cons (.tup (SqT.of hq) (all xs)) .nil), s2, by omega, by omega, z⟩
  | .inr n, hn, hp, z => by
    have sz := sizeLine_eq
    have S := Shw.list (n := 10) (k := 0) (m := 2) (ds := [.str "unreadable", .int (n : Nat)]) (fun e he => by
      rcases List.mem_cons.mp he with rfl | he
      · exact Shw.str (by decide +kernel) (by decide +kernel)
      · rw [List.mem_singleton.mp he]; exact (Shw.int (by omega) (by dsimp only at hn; omega)).up (by decide) (by decide)) (Nat.le_refl 2)
    have := S.len
    have s2 := S.sh
    have d2 := S.dp
    simp only [PyData.showable, PyData.depth] at s2 d2
    exact .inr ⟨p, _, _, rfl, SqL.of hp, .cons (.str _) (.cons (.int _) .nil), s2, by omega, by omega, z⟩
end SS

set_option maxRecDepth 100000
set_option maxHeartbeats 4000000
set_option pp.maxSteps 1500
namespace SR
open PySem PySem.Spec PyProof.Rows L2
def rIsEC (K : PySem.W.Frag) (D a : Addr) (cls : Value) (d : Option Addr) : List V → Hp → VK → Prop := fun xs H Q => cls = .ref D ∧ rIsED K D a d xs H Q
theorem call_isEC {X : Cx} {a D : Addr} {oe : Obj} {d : Option Addr} {cls : Value} {pn : List (Addr × Obj)} (C : ExcC X.K D) (hz : Zc cls d oe) (hf : ∃ vs, oe.data = .fields vs) : CallR (X.suite a ((a, oe) :: pn)) (.builtin "isinstance") (rIsEC X.K D a cls d) :=
  fun pins s σ H xs us Q I r h => call_isED C hz h.1 hf pins s σ H xs us Q I r h.2
end SR
namespace SS
open PySem L2 SR TL LamX
section
variable {K : PySem.W.Frag} {mg : Str → Option Value}
/-! ### _law_error -/
structure ErrS (K : PySem.W.Frag) (mg : Str → Option Value) (D W Z : Addr) : Prop where
  xW : XfC K W
  cW : ExcC K W
  xD : XfC K D
  cD : ExcC K D
  nD : PySem.W.findIn K (.ref D) "value" = some none
  nW : PySem.W.findIn K (.ref W) "value" = some none
  mD : mg "InvalidState" = some (.ref D)
  mW : mg "InvalidWord" = some (.ref W)
  mZ : mg "SlotsError" = some (.ref Z)
  kD : PySem.W.kitOne K (.ref D) (.ref Z) = some true
  kW : PySem.W.kitOne K (.ref W) (.ref Z) = some true
  eDD : PySem.W.exmOne K (.ref D) (.ref D) = some true
  eWD : PySem.W.exmOne K (.ref W) (.ref D) = some false
  eWW : PySem.W.exmOne K (.ref W) (.ref W) = some true
abbrev sErr : Stmt := top 42
abbrev nErr : List Str := ["_law_call", "_law_told", "e"]
abbrev psErr : List Str := ["_law_call"]
theorem scErr : FnScope nErr psErr (defScope sErr) := ⟨rfl, rfl, rfl, by decide +kernel, rfl, by decide +kernel, by decide +kernel⟩
/-- what is told of a call: what it raised, or nothing -/
def TErr (K : PySem.W.Frag) (D W : Addr) : (XK → Hp → VK → Prop) → Hp → VK → Prop := fun tl H Q =>
  ∀ (E : XK) (R : VK), (∀ v H', Q (.str "none") H' → R v H') → (∀ (d : Addr) (v : V) (t : Str) H', H' d = some (.xd [("value", v)]) → ShV K H' v t → t.length ≤ 1000 → Q (.str ("state " ++ t)) H' → E (.ref D) (some d) H') → (∀ (d : Addr) (v : V) (t : Str) H', H' d = some (.xd [("value", v)]) → ShV K H' v t → t.length ≤ 1000 → Q (.str ("word " ++ t)) H' → E (.ref W) (some d) H') → tl E H R
def bErr : List Stmt := defBody sErr
theorem err_gives {X : Cx} {g D W Z : Addr} {cdg : Value} {q : Str} {k : Nat} (hk : X.A.guards = some []) (S : ErrS X.K X.mg D W Z) (B : Bl X.mg) : GivesS k X nErr "_law_error" (defScope sErr) g cdg (defBody sErr) "_law_call" q (TErr X.K D W) := by
  intro f c' s H Q tl hr act hc h
  let Y : Cx := (cxOf C8.CX0 X.prog X.w X.K X.mg X.base nErr "_law_error" (defScope sErr) g cdg X.A X.stack s H C8.E0).nox
  have hgd : Y.A.guards = some [] := hk
  have hu := u66 hr
  have hu2 : (X.A.deeper (PyProof.Rows.envOfC (Str.ofString "_law_error") (defScope sErr) s.heap.objs.size g cdg)).units + 65 < cLine := by omega
  refine ⟨_, pss_cons (ps_set (X := Y) (i := 1) scErr.nd rfl (.inl rfl) pe_str)
      (C8.pss_cut (ps_try_each (n := "e") (i := 2) (W0 := fun _ _ _ _ => False)
          (tb := fun W => tDrop (fun σZ HZ Q => σZ[0]? = some (some (.ref f)) ∧ HZ c' = some (CodeO c' q) ∧ tl (WE W σZ) HZ Q))
          (l := [(.ref D, fun a cls d => tAsg (tIf (tB (tCB (rIsEC X.K D a cls d) (tCons (tVar 2) (tCons (tC (.ref Z)) tNil)))) (tOp rAddT (tC (.str (Str.ofString "state "))) (tCB (rReprV X.K) (tCons (tXf a cls d D "value" (tVar 2)) tNil))) (tC (.str (Str.ofString "other")))) (gName 1)),
            (.ref W, fun a cls d => tAsg (tIf (tB (tCB (rIsEC X.K W a cls d) (tCons (tVar 2) (tCons (tC (.ref Z)) tNil)))) (tOp rAddT (tC (.str (Str.ofString "word "))) (tCB (rReprV X.K) (tCons (tXf a cls d W "value" (tVar 2)) tNil))) (tC (.str (Str.ofString "other")))) (gName 1))])
          rfl rfl scErr.nd rfl rfl LamX.takes0
          (fun W pn xe tk _ => pss_one (ps_expr (act W pn xe _ _ tk)))
          (.cons ⟨rfl, by decide, .inl S.mD⟩ (fun a oe cls d pn hz hf => pss_one (ps_set (i := 1) scErr.nd rfl (.inl rfl) (by exact (pe_ifExp (pt_val (pe_callB (call_isEC S.cD hz hf) (by rfl) B.isinstance (by decide +kernel) (pa_cons (pv 2) (pa_cons (pe_glob rfl S.mZ rfl) pa_nil))))
              (pe_op op_add_str pe_str (pe_callB (call_reprV hk (hu2)) (by rfl) B.repr (by decide +kernel) (pa_cons (pe_xf S.xD S.nD hz hf (pv 2)) pa_nil))) pe_str))))
          (.cons ⟨rfl, by decide, .inl S.mW⟩ (fun a oe cls d pn hz hf => pss_one (ps_set (i := 1) scErr.nd rfl (.inl rfl) (by exact (pe_ifExp (pt_val (pe_callB (call_isEC S.cW hz hf) (by rfl) B.isinstance (by decide +kernel) (pa_cons (pv 2) (pa_cons (pe_glob rfl S.mZ rfl) pa_nil))))
              (pe_op op_add_str pe_str (pe_callB (call_reprV hk (hu2)) (by rfl) B.repr (by decide +kernel) (pa_cons (pe_xf S.xW S.nW hz hf (pv 2)) pa_nil))) pe_str))))
            .nil)))
      (pss_one (ps_ret (pv 1)))), ?_⟩
  have sz := sizeLine_eq
  have ls : (Str.ofString "state ").length = 6 := rfl
  have lw : (Str.ofString "word ").length = 5 := rfl
  refine ⟨fun σ H' => ∃ (t : Str) (a2 : Option V), σ = [some (.ref f), some (.str t), a2] ∧ Q (.str t) H', ?_, ?_⟩
  · refine ⟨rfl, hc, ?_⟩
    refine h _ _ (fun v H' hq => ?_) ?_ ?_
    · exact ⟨_, none, rfl, hq⟩
    · intro d v t H' hd hs hl hq
      refine ⟨true, S.eDD, fun _ a ha => ?_, fun q => nomatch q⟩
      refine ⟨_, rfl, rfl, _, _, _, d, _, rfl, (fun _ r => r), S.kD, rfl, hd, _, rfl, iteT ?_⟩
      refine ⟨_, rfl, rfl, rfl, d, _, _, rfl, hd, rfl, v, t, rfl, hs, _, _, rfl, rfl, by omega, ?_⟩
      exact ⟨_, none, rfl, hq⟩
    · intro d v t H' hd hs hl hq
      refine ⟨false, S.eWD, (fun q => nomatch q), fun _ => ⟨true, S.eWW, fun _ a ha => ?_, fun q => nomatch q⟩⟩
      refine ⟨_, rfl, rfl, _, _, _, d, _, rfl, (fun _ r => r), S.kW, rfl, hd, _, rfl, iteT ?_⟩
      refine ⟨_, rfl, rfl, rfl, d, _, _, rfl, hd, rfl, v, t, rfl, hs, _, _, rfl, rfl, by omega, ?_⟩
      exact ⟨_, none, rfl, hq⟩
  · rintro σ H1 ⟨t, a2, rfl, hq⟩
    exact ⟨_, rfl, hq⟩
end
end SS

set_option maxRecDepth 100000
set_option maxHeartbeats 4000000
set_option pp.maxSteps 1500
namespace SR
open PySem PySem.Spec PyProof.Rows L2 LamX
/-- a def by its body; hgd: no repr is under way -/
theorem okGL {P : Program} {w : World} {K : PySem.W.Frag} {mg : Str → Option Value} {base : Heap} {x qual : Str} {st : Stmt} {f c : Addr} {fd : FuncData} {N ps : List Str} {k : Nat} {sp : Sp} (F : Fun K x qual st f fd) (hc : fd.code = .ref c) (S : FnScope N ps (defScope st)) (len : ∀ vs H Q E, sp vs H Q E → vs.length = ps.length)
    (hbody : ∀ (A : Around) (outer : List Env) (s : Shared) (H : Hp) (vs : List V) (Q : VK) (E : XK), Room k (A.deeper (envOfC qual (defScope st) s.heap.objs.size f (.ref c))) → (A.deeper (envOfC qual (defScope st) s.heap.objs.size f (.ref c))).guards = some [] → sp vs H Q E →
      ∃ t, PSs (cxOf CX0 P w K mg base N qual (defScope st) f (.ref c) A outer s H E).nox (defBody st) t ∧ t { nx := fun _ H' => Q .non H', rt := Q } (L2.start N vs) H) : FnG P w K mg base (k + 1) f fd ps sp := by
  obtain ⟨oc, od, kV, doc, pm, an, cdv, ct, osl, rfl, lk, hcd⟩ := F.ex
  have ec : cdv = .ref c := hc
  subst ec
  refine ⟨len, fun A outer s H args us vs Q E hr hg e0 hb r hsp => ?_⟩
  have inK : K.In s.heap := e0.mod.kin.keeps fun b o e => (e0.bs b o e).1
  have noL : s.heap.NoLimit := e0.mod.nolimit.keeps fun b o e => (e0.bs b o e).1
  refine codeAny_call_function hr.depth (inK _ _ lk) rfl S.co S.gen rfl (PySem.W.codeRec_of inK hcd) (hb _ _ _ _ (wpAny_newFunctionEnv_cells S.kind ?_ ?_))
  · rintro ⟨n, v⟩ hy
    exact (S.par n (List.of_mem_zip hy).1).elim .inl fun q => .inr ⟨q, PySem.W.cellsFrom_some _ _ _ (.inl q)⟩
  · intro env he s1 new
    subst he
    obtain ⟨t, ht, hq⟩ := hbody A outer s H vs Q E (hr.deeper _) hg hsp
    have I : Inv (cxOf CX0 P w K mg base N qual (defScope st) f (.ref c) A outer s H E) [] (L2.start N vs) H s1 := inv_start S hr.hd e0 (len _ _ _ _ hsp) r new
    refine ⟨noL.keeps new.toInCall.keep, codeAny_func (wpAny_mono (ht.nox.run [] s1 (L2.start N vs) H _ I hq) (fun fl s' hs => ?_) fun e s' hs => hs)⟩
    cases fl with
    | ret u =>
      obtain ⟨v, σ', H', J, rv, q⟩ := hs
      exact ⟨v, H', J.os, J.bare, J.base, J.hok, rv, q⟩
    | next =>
      obtain ⟨σ', H', J, q⟩ := hs
      exact ⟨V.non, H', J.os, J.bare, J.base, J.hok, rfl, q⟩
    | brk => exact hs.elim fun _ z => z.elim fun _ z => z.2.elim
    | cont => exact hs.elim fun _ z => z.elim fun _ z => z.2.elim
end SR
namespace SS
open PySem L2 SR TL LamX
/-! ### a lambda handed to _law_error -/
structure LamE (X : Cx) (T : List (Addr × Str)) (D W Z : Addr) : Prop where
  er : ∃ g fdg, Fun X.K "_law_error" "_law_error" sErr g fdg ∧ X.mg "_law_error" = some (.ref g) ∧ PySem.W.keepIn X.K (.ref g) = true ∧ Binds X.K fdg ["_law_call"] []
  S : ErrS X.K X.mg D W Z
  B : Bl X.mg
  hgd : X.A.guards = some []
  hr : Room 9 X.A
  tab : ∃ c P, TabB X.base X.mg c P ∧ X.env.code = .ref c ∧ (P, X.env.qual ++ "<lambda>") ∈ T ∧ ∀ p ∈ T, p.1 = P → p.2 = X.env.qual ++ "<lambda>"
theorem LamE.pe {X : Cx} {T : List (Addr × Str)} {D W Z : Addr} {params : Arguments} {body : Expr} {scope : Scope} {t : XK → TE} {p lpos pos : Pos} (L : LamE X T D W Z)
    (hbody : ∀ (A : Around) (outer : List Env) (s : Shared) (H : Hp) (E : XK) (f c' : Addr), A.guards = X.A.guards → Room 7 (A.deeper (lamEnv X scope s.heap.objs.size f c')) → PE (lamCx X A outer s H E scope f c') body (t E))
    (hg : Gl X "_law_error" := by rfl) (hl : lamSB X.env.scope scope = true := by first | rfl | kernel_rfl) (hdef : defaultsOf params X.env = ([], []) := by rfl)
    (hbind : ∀ (q : Str) (cl : List (Str × Addr)) (pm cv ctv : Value), bindArgs (PySem.W.kla_fn "<lambda>" q params body scope cl pm cv ctv) ⟨[], []⟩ = pure [] := by intros; rfl) :
    PE X (.Call (.Name "_law_error" p) [.Lambda params body scope lpos] [] pos) (tLam T (TErr X.K D W) t) := by
  obtain ⟨g, fdg, F, m, kp, b⟩ := L.er
  obtain ⟨oc, od, kV, doc, pm, an, cdv, ct, osl, rfl, lk, hcd⟩ := F.ex
  obtain ⟨c, P, TB, hcode, hm, hu⟩ := L.tab
  exact pe_lamcallS (k := 7) hg m kp lk hcd b scErr rfl (by first | exact .inl rfl | decide) (err_gives L.hgd L.S L.B) TB hcode hm hu L.hr (lamS_by hl) hdef hbind hbody
end SS

set_option maxRecDepth 100000
set_option maxHeartbeats 4000000
set_option pp.maxSteps 1500
namespace SS
open PySem L2 SR TL LamX
theorem RwAt.extN {H H' : Hp} {q : Addr} {row : Rw} (e : ExtN H H') (h : RwAt H q row) : RwAt H' q row := by
  obtain ⟨ps, h1, h2⟩ := h
  exact ⟨ps, e _ _ h1 fun _ => nofun, Paired.mono h2 fun a b g => e _ _ g fun _ => nofun⟩
theorem RdAt.extN {C : Addr} {H H' : Hp} {x : Addr} {rows : List Rw} {ends : List Int} {start : Int} (e : ExtN H H') (h : RdAt C H x rows ends start) : RdAt C H' x rows ends start := by
  obtain ⟨dx, pr, pe, fs, qs, h1, h2, h3, h4, h5, h6, h7, h8⟩ := h.ex
  exact ⟨dx, pr, pe, fs, qs, e _ _ h1 fun _ => nofun, h2, h3, h4, h5, e _ _ h6 fun _ => nofun, Paired.mono h7 fun a b g => g.extN e, e _ _ h8 fun _ => nofun⟩
theorem same_extN {H H' : Hp} (e : Same H H') : ExtN H H' := ExtN.of e
/-! ### no states -/
inductive OdS (H : Hp) (n : Nat) : V → Str → Prop
  | neg : OdS H n (.int (-1)) (toString (-1 : Int))
  | len : OdS H n (.int (n : Int)) (toString (n : Int))
  | bl (b : Bool) : OdS H n (.bl b) (if b then "True" else "False")
  | non : OdS H n .non "None"
  | s0 : OdS H n (.str "0") (reprText "0")
  | tup {a : Addr} : H a = some (.tup [.int 0]) → OdS H n (.ref a) (PyData.shown (.tuple [.int 0]))
  | lst {a : Addr} : H a = some (.lst [.int 0]) → OdS H n (.ref a) (PyData.shown (.list [.int 0]))
  | big : OdS H n (.int 100000000000000000000) (toString (100000000000000000000 : Int))
theorem OdS.extN {H H' : Hp} {n : Nat} {v : V} {t : Str} (e : ExtN H H') (h : OdS H n v t) : OdS H' n v t := by
  cases h with
  | neg => exact .neg
  | len => exact .len
  | bl b => exact .bl b
  | non => exact .non
  | s0 => exact .s0
  | tup h => exact .tup (e _ _ h fun _ => nofun)
  | lst h => exact .lst (e _ _ h fun _ => nofun)
  | big => exact .big
theorem OdS.mono {H H' : Hp} {n : Nat} {v : V} {t : Str} (e : Same H H') (h : OdS H n v t) : OdS H' n v t := h.extN (same_extN e)
theorem len_ok : ∀ n : Nat, n ≤ 12 → ((n : Int).natAbs.log2 < 100 ∧ (Str.ofString (toString (n : Int))).length ≤ 64) ∧ PyData.strOk (Str.ofString "state " ++ Str.ofString (toString (n : Int))) = true := by decide +kernel
theorem OdS.no {K : PySem.W.Frag} {H : Hp} {n : Nat} {v : V} {t : Str} (hn : n ≤ 12) (h : OdS H n v t) : NoState K H n v := by
  cases h with
  | neg => exact ⟨.inl (.inr (.inl ⟨_, rfl⟩)), by unfold below; simp, .int (-1) (by decide) (by decide +kernel)⟩
  | len => exact ⟨.inl (.inr (.inl ⟨_, rfl⟩)), by unfold below; simp, .int _ (len_ok n hn).1.1 (len_ok n hn).1.2⟩
  | bl b => exact ⟨.inl (.inr (.inr (.inl ⟨b, rfl⟩))), rfl, .bl b⟩
  | non => exact ⟨.inl (.inl rfl), rfl, .non⟩
  | s0 => exact ⟨.inr ⟨_, rfl⟩, rfl, .str _ (by decide +kernel)⟩
  | tup h => exact ⟨.inl (.inr (.inr (.inr ⟨_, rfl, .inr (.inl ⟨_, h⟩)⟩))), rfl, .tupI (SqT.of h) (by decide) (by decide +kernel)⟩
  | lst h => exact ⟨.inl (.inr (.inr (.inr ⟨_, rfl, .inl ⟨_, h⟩⟩))), rfl, .lstI (SqL.of h) (by decide) (by decide +kernel)⟩
  | big => exact ⟨.inl (.inr (.inl ⟨_, rfl⟩)), by unfold below; rw [Bool.and_eq_false_iff]; right; exact decide_eq_false (by omega), .int _ (by decide +kernel) (by decide +kernel)⟩
theorem OdS.show {K : PySem.W.Frag} {H : Hp} {n : Nat} {v : V} {t : Str} (hn : n ≤ 12) (h : OdS H n v t) : ShV K H v t ∧ t.length ≤ 1000 ∧ PyData.strOk (Str.ofString "state " ++ t) = true := by
  have sz := sizeLine_eq
  cases h with
  | neg => exact ⟨.int _ (by decide), by decide +kernel, by decide +kernel⟩
  | len =>
    obtain ⟨⟨h1, h2⟩, h3⟩ := len_ok n hn
    exact ⟨.int _ (by omega), Nat.le_trans h2 (by decide), h3⟩
  | bl b => exact ⟨.bl b, by cases b <;> decide +kernel, by cases b <;> decide +kernel⟩
  | non => exact ⟨.non, by decide +kernel, by decide +kernel⟩
  | s0 => exact ⟨.str _ (by rw [sizeLine_eq]; decide +kernel), by decide +kernel, by decide +kernel⟩
  | tup h => exact ⟨.data (.tup (SqT.of h) (.cons (.int _) .nil)) (by decide +kernel) (by simp [PyData.hasDict, PyData.hasDictAll]) (by decide +kernel) (by rw [sizeLine_eq]; decide +kernel), by decide +kernel, by decide +kernel⟩
  | lst h => exact ⟨.data (.lst (SqL.of h) (.cons (.int _) .nil)) (by decide +kernel) (by simp [PyData.hasDict, PyData.hasDictAll]) (by decide +kernel) (by rw [sizeLine_eq]; decide +kernel), by decide +kernel, by decide +kernel⟩
  | big => exact ⟨.int _ (by decide +kernel), by decide +kernel, by decide +kernel⟩
/-! ### no words -/
inductive OdP (H : Hp) : V → Str → Prop
  | non : OdP H .non "None"
  | int : OdP H (.int 5) (toString (5 : Int))
  | bl : OdP H (.bl true) "True"
  | str (x : List Nat) : x ∈ [[65], [97, 32], [10], [49]] → OdP H (txtV x) (reprText (txt x))
  | lst {a : Addr} : H a = some (.lst [.str "a"]) → OdP H (.ref a) (PyData.shown (.list [.str "a"]))
  | tup {a : Addr} : H a = some (.tup [.str "a"]) → OdP H (.ref a) (PyData.shown (.tuple [.str "a"]))
  | dic {a : Addr} : H a = some (.dK []) → OdP H (.ref a) "{}"
theorem OdP.extN {H H' : Hp} {v : V} {t : Str} (e : ExtN H H') (h : OdP H v t) : OdP H' v t := by
  cases h with
  | non => exact .non
  | int => exact .int
  | bl => exact .bl
  | str x h => exact .str x h
  | lst h => exact .lst (e _ _ h fun _ => nofun)
  | tup h => exact .tup (e _ _ h fun _ => nofun)
  | dic h => exact .dic (e _ _ h fun _ => nofun)
theorem OdP.mono {H H' : Hp} {v : V} {t : Str} (e : Same H H') (h : OdP H v t) : OdP H' v t := h.extN (same_extN e)
theorem paps_ok : ∀ x ∈ [[65], [97, 32], [10], [49]], x.length ≤ 4 ∧ (∀ c ∈ x, c < 128) ∧ ¬ Lets x := by
  intro x hx
  simp only [List.mem_cons, List.not_mem_nil, or_false] at hx
  rcases hx with rfl | rfl | rfl | rfl
  · exact ⟨by decide, by decide, fun z => absurd (z 65 (by simp)).1 (by decide)⟩
  · exact ⟨by decide, by decide, fun z => absurd (z 32 (by simp)).1 (by decide)⟩
  · exact ⟨by decide, by decide, fun z => absurd (z 10 (by simp)).1 (by decide)⟩
  · exact ⟨by decide, by decide, fun z => absurd (z 49 (by simp)).1 (by decide)⟩
theorem paps_show : ∀ x ∈ [[65], [97, 32], [10], [49]], (reprText (txt x)).length ≤ 1000 ∧ PyData.strOk (Str.ofString "word " ++ reprText (txt x)) = true := by decide +kernel
theorem OdP.no {K : PySem.W.Frag} {H : Hp} {v : V} {t : Str} (h : OdP H v t) : NoWord K H v := by
  cases h with
  | non => exact (OddD.non (K := K) (H := H)).no
  | int => exact (OddD.int (K := K) (H := H)).no
  | bl => exact (OddD.bl (K := K) (H := H) true).no
  | str x h => exact (OddD.str (K := K) (H := H) x (paps_ok x h).1 (paps_ok x h).2.1 (paps_ok x h).2.2).no
  | lst h => exact (OddD.lst (K := K) h).no
  | tup h => exact (OddD.tup (K := K) h).no
  | dic h => exact (OddD.dic (K := K) h).no
theorem OdP.show {K : PySem.W.Frag} {H : Hp} {v : V} {t : Str} (h : OdP H v t) : ShV K H v t ∧ t.length ≤ 1000 ∧ PyData.strOk (Str.ofString "word " ++ t) = true := by
  have sz := sizeLine_eq
  cases h with
  | non => exact ⟨.non, by decide +kernel, by decide +kernel⟩
  | int => exact ⟨.int _ (by decide), by decide +kernel, by decide +kernel⟩
  | bl => exact ⟨.bl true, by decide +kernel, by decide +kernel⟩
  | str x h => exact ⟨.str _ (by have := (paps_show x h).1; omega), (paps_show x h).1, (paps_show x h).2⟩
  | lst h => exact ⟨.data (.lst (SqL.of h) (.cons (.str _) .nil)) (by decide +kernel) (by simp [PyData.hasDict, PyData.hasDictAll]) (by decide +kernel) (by rw [sizeLine_eq]; decide +kernel), by decide +kernel, by decide +kernel⟩
  | tup h => exact ⟨.data (.tup (SqT.of h) (.cons (.str _) .nil)) (by decide +kernel) (by simp [PyData.hasDict, PyData.hasDictAll]) (by decide +kernel) (by rw [sizeLine_eq]; decide +kernel), by decide +kernel, by decide +kernel⟩
  | dic h => exact ⟨.dic h, by decide +kernel, by decide +kernel⟩
/-- the lists of _law_refused -/
def spotsL (n : Nat) (a b : Addr) : List V := [.int (-1), .int (n : Int), .bl true, .bl false, .non, .str "0", .ref a, .ref b, .int 100000000000000000000]
def papersL (a b c : Addr) : List V := [.non, .int 5, .bl true, .str "A", .str "a ", .str "\n", .str "1", .ref a, .ref b, .ref c]
theorem spots_ok {H : Hp} {n : Nat} {a b : Addr} (ha : H a = some (.tup [.int 0])) (hb : H b = some (.lst [.int 0])) {v : V} (hv : v ∈ spotsL n a b) : ∃ t, OdS H n v t := by
  unfold spotsL at hv
  simp only [List.mem_cons, List.not_mem_nil, or_false] at hv
  rcases hv with rfl | rfl | rfl | rfl | rfl | rfl | rfl | rfl | rfl
  · exact ⟨_, .neg⟩
  · exact ⟨_, .len⟩
  · exact ⟨_, .bl true⟩
  · exact ⟨_, .bl false⟩
  · exact ⟨_, .non⟩
  · exact ⟨_, .s0⟩
  · exact ⟨_, .tup ha⟩
  · exact ⟨_, .lst hb⟩
  · exact ⟨_, .big⟩
theorem papers_ok {H : Hp} {a b c : Addr} (ha : H a = some (.lst [.str "a"])) (hb : H b = some (.tup [.str "a"])) (hc : H c = some (.dK [])) {v : V} (hv : v ∈ papersL a b c) : ∃ t, OdP H v t := by
  unfold papersL at hv
  simp only [List.mem_cons, List.not_mem_nil, or_false] at hv
  rcases hv with rfl | rfl | rfl | rfl | rfl | rfl | rfl | rfl | rfl | rfl
  · exact ⟨_, .non⟩
  · exact ⟨_, .int⟩
  · exact ⟨_, .bl⟩
  · exact ⟨_, .str [65] (by decide)⟩
  · exact ⟨_, .str [97, 32] (by decide)⟩
  · exact ⟨_, .str [10] (by decide)⟩
  · exact ⟨_, .str [49] (by decide)⟩
  · exact ⟨_, .lst ha⟩
  · exact ⟨_, .tup hb⟩
  · exact ⟨_, .dic hc⟩
end SS

set_option maxRecDepth 100000
set_option maxHeartbeats 8000000
set_option pp.maxSteps 1500
namespace SS
open PySem L2 SR TL LamX
section
variable {P : Program} {w : World} {K : PySem.W.Frag} {mg : Str → Option Value} {base : Heap}
/-! ### _law_refused -/
abbrev sRef : Stmt := top 44
abbrev nRef : List Str := ["_law_rng_here", "_law_made", "_law_spots", "_law_papers", "_law_turn", "_law_spot", "_law_paper", "_law_told"]
abbrev psRef : List Str := ["_law_rng_here", "_law_made"]
theorem scRef : FnScope nRef psRef (defScope sRef) := ⟨rfl, rfl, rfl, by decide +kernel, rfl, by decide +kernel, by decide +kernel⟩
structure RefM (P : Program) (w : World) (K : PySem.W.Frag) (mg : Str → Option Value) (base : Heap) (C D W Z : Addr) : Prop where
  ch : Cal P w K mg base "_law_choice" 2 ["_law_rng_here", "_law_some"] (spChoice K)
  pas : CalX P w K mg base "passed" 4 psPas (spPas C D W K)
  mov : ∃ f fd, FnOk P w K mg base (L2.CX P w) 4 f fd psMov (spMovS C D K) ∧ Meth K C "move" f ∧ Binds K fd psMov []
  mvs : ∃ f fd, GFn P w K mg base 4 f fd psMvs (spMvsS C D K) ∧ Meth K C "moves" f ∧ Binds K fd psMvs []
  stp : CalGn P w K mg base "steps" 4 psStp (spStp C W K)
  len : ∃ f fd, FnOk P w K mg base CX0 1 f fd psSelf (spRLen C) ∧ PySem.W.findIn K (.ref C) "__len__" = some (some (.ref f)) ∧ PySem.W.isFn K (.ref f) = true ∧ Binds K fd psSelf []
  cl : Cls K C
  nsD : PySem.W.subIn K (.ref D) (.type "StopIteration") = some false
  nsW : PySem.W.subIn K (.ref W) (.type "StopIteration") = some false
  er : ∃ g fdg, Fun K "_law_error" "_law_error" sErr g fdg ∧ mg "_law_error" = some (.ref g) ∧ PySem.W.keepIn K (.ref g) = true ∧ Binds K fdg ["_law_call"] []
  S : ErrS K mg D W Z
abbrev tabL (Pt : Addr) : List (Addr × Str) := [(Pt, "_law_refused.<locals>.<lambda>")]
def spRef (C Pt : Addr) : Sp := fun vs H Q _ => ∃ (r x : Addr) (rows : List Rw) (ends : List Int) (start : Int), vs = [.ref r, .ref x] ∧ H r = some (rngO r) ∧ RdAt C H x rows ends start ∧ Rdy rows start ∧ Tabs (tabL Pt) H ∧ ∀ H', ExtN H H' → Tabs (tabL Pt) H' → Q (.bl true) H'
section
variable {C D W Z Pt x : Addr} {σ : L2.St} {H : Hp} {Q : VK} {rows : List Rw} {ends : List Int} {start : Int} {v u : V} {t : Str}
theorem rf_s1 (h1 : σ[1]? = some (some (.ref x))) (h5 : σ[5]? = some (some v)) (h6 : σ[6]? = some (some u)) (hx : RdAt C H x rows ends start) (hm : rows.length ≤ 12) (hv : OdS H rows.length v t) (hT : Tabs (tabL Pt) H) (k : ∀ H', ExtN H H' → Tabs (tabL Pt) H' → Q (.str (Str.ofString "state " ++ t)) H') :
    tLam (tabL Pt) (TErr K D W) (fun E => tCall (spPas C D W K) [] E (tCons (tVar 1) (tCons (tVar 5) (tCons (tVar 6) tNil)))) σ H Q := by
  refine ⟨hT, fun H1 e1 T1 E R _ oD _ => ?_⟩
  have hv1 := hv.extN e1
  refine ⟨_, h1, _, h5, _, h6, x, v, u, rows, ends, start, rfl, hx.extN e1, .inr (.inl ⟨hv1.no hm, fun d H2 hd e2 h2 => ?_⟩)⟩
  exact oD d v t H2 h2 ((hv1.mono e2).show hm).1 ((hv1.mono e2).show (K := K) hm).2.1 (k H2 (e1.trans (same_extN e2)) (T1.ext e2))
theorem rf_s2 {z : Str} (h1 : σ[1]? = some (some (.ref x))) (h5 : σ[5]? = some (some v)) (hx : RdAt C H x rows ends start) (hm : rows.length ≤ 12) (hv : OdS H rows.length v t) (hT : Tabs (tabL Pt) H) (k : ∀ H', ExtN H H' → Tabs (tabL Pt) H' → Q (.str (Str.ofString "state " ++ t)) H') :
    tLam (tabL Pt) (TErr K D W) (fun E => tCall (spPas C D W K) [] E (tCons (tVar 1) (tCons (tVar 5) (tCons (tC (.str z)) tNil)))) σ H Q := by
  refine ⟨hT, fun H1 e1 T1 E R _ oD _ => ?_⟩
  have hv1 := hv.extN e1
  refine ⟨_, h1, _, h5, x, v, _, rows, ends, start, rfl, hx.extN e1, .inr (.inl ⟨hv1.no hm, fun d H2 hd e2 h2 => ?_⟩)⟩
  exact oD d v t H2 h2 ((hv1.mono e2).show hm).1 ((hv1.mono e2).show (K := K) hm).2.1 (k H2 (e1.trans (same_extN e2)) (T1.ext e2))
theorem rf_s3 (h1 : σ[1]? = some (some (.ref x))) (h5 : σ[5]? = some (some v)) (hx : RdAt C H x rows ends start) (hm : rows.length ≤ 12) (hv : OdS H rows.length v t) (hT : Tabs (tabL Pt) H) (k : ∀ H', ExtN H H' → Tabs (tabL Pt) H' → Q (.str (Str.ofString "state " ++ t)) H') :
    tLam (tabL Pt) (TErr K D W) (fun E => tMeth C "move" (spMovS C D K) [] E (tVar 1) (tCons (tVar 5) (tCons (tC (.str "a")) tNil))) σ H Q := by
  refine ⟨hT, fun H1 e1 T1 E R _ oD _ => ?_⟩
  have hv1 := hv.extN e1
  have hx1 := hx.extN e1
  obtain ⟨dx, pr, pe, fs, qs, d1, d2, d3, d4, d5, d6, d7, d8⟩ := id hx1.ex
  refine ⟨_, h1, x, dx, fs, rfl, d1, d5 _ (by decide +kernel) (by decide +kernel) (by decide +kernel), _, h5, x, v, 97, rows, ends, start, rfl, hx1, hv1.no hm, fun d H2 hd e2 h2 => ?_⟩
  exact oD d v t H2 h2 ((hv1.mono e2).show hm).1 ((hv1.mono e2).show (K := K) hm).2.1 (k H2 (e1.trans (same_extN e2)) (T1.ext e2))
theorem rf_s4 (h1 : σ[1]? = some (some (.ref x))) (h5 : σ[5]? = some (some v)) (hx : RdAt C H x rows ends start) (hm : rows.length ≤ 12) (hv : OdS H rows.length v t) (hT : Tabs (tabL Pt) H) (k : ∀ H', ExtN H H' → Tabs (tabL Pt) H' → Q (.str (Str.ofString "state " ++ t)) H') :
    tLam (tabL Pt) (TErr K D W) (fun E => tListG (tMethG C "moves" (spMvsS C D K) [] (fun cls d H' => cls = .ref D ∧ E cls d H') (tVar 1) (tCons (tVar 5) tNil))) σ H Q := by
  refine ⟨hT, fun H1 e1 T1 E R _ oD _ => ?_⟩
  have hv1 := hv.extN e1
  have hx1 := hx.extN e1
  obtain ⟨dx, pr, pe, fs, qs, d1, d2, d3, d4, d5, d6, d7, d8⟩ := id hx1.ex
  refine ⟨_, h1, x, dx, fs, rfl, d1, d5 _ (by decide +kernel) (by decide +kernel) (by decide +kernel), _, h5, x, v, rows, ends, start, rfl, hx1, hv1.no hm, fun d H2 hd e2 h2 => ⟨rfl, ?_⟩⟩
  exact oD d v t H2 h2 ((hv1.mono e2).show hm).1 ((hv1.mono e2).show (K := K) hm).2.1 (k H2 (e1.trans (same_extN e2)) (T1.ext e2))
theorem rf_w1 (h1 : σ[1]? = some (some (.ref x))) (h6 : σ[6]? = some (some u)) (hx : RdAt C H x rows ends start) (h0 : 0 < rows.length) (hu : OdP H u t) (hT : Tabs (tabL Pt) H) (k : ∀ H', ExtN H H' → Tabs (tabL Pt) H' → Q (.str (Str.ofString "word " ++ t)) H') :
    tLam (tabL Pt) (TErr K D W) (fun E => tCall (spPas C D W K) [] E (tCons (tVar 1) (tCons (tC (.int 0)) (tCons (tVar 6) tNil)))) σ H Q := by
  refine ⟨hT, fun H1 e1 T1 E R _ _ oW => ?_⟩
  have hu1 := hu.extN e1
  refine ⟨_, h1, _, h6, x, _, u, rows, ends, start, rfl, hx.extN e1, .inr (.inr ⟨0, rfl, by omega, by omega, hu1.no, fun d H2 hd e2 h2 => ?_⟩)⟩
  exact oW d u t H2 h2 (hu1.mono e2).show.1 ((hu1.mono e2).show (K := K)).2.1 (k H2 (e1.trans (same_extN e2)) (T1.ext e2))
theorem rf_w2 (h1 : σ[1]? = some (some (.ref x))) (h6 : σ[6]? = some (some u)) (hu : OdP H u t) (hT : Tabs (tabL Pt) H) (k : ∀ H', ExtN H H' → Tabs (tabL Pt) H' → Q (.str (Str.ofString "word " ++ t)) H') :
    tLam (tabL Pt) (TErr K D W) (fun E => tListG (tCallG (spStp C W K) [] (fun cls d H' => cls = .ref W ∧ E cls d H') (tCons (tVar 1) (tCons (tVar 6) tNil)))) σ H Q := by
  refine ⟨hT, fun H1 e1 T1 E R _ _ oW => ?_⟩
  have hu1 := hu.extN e1
  refine ⟨_, h1, _, h6, .inr ⟨x, u, rfl, hu1.no, fun d H2 hd e2 h2 => ⟨rfl, ?_⟩⟩⟩
  exact oW d u t H2 h2 (hu1.mono e2).show.1 ((hu1.mono e2).show (K := K)).2.1 (k H2 (e1.trans (same_extN e2)) (T1.ext e2))
theorem rf_z1 (h1 : σ[1]? = some (some (.ref x))) (h5 : σ[5]? = some (some v)) (hx : RdAt C H x rows ends start) (hm : rows.length ≤ 12) (hv : OdS H rows.length v t) (hT : Tabs (tabL Pt) H) (k : ∀ H', ExtN H H' → Tabs (tabL Pt) H' → Q (.str "none") H') :
    tLam (tabL Pt) (TErr K D W) (fun E => fun σ H Q => (fun σ H (Q : Hp → Prop) => tVar 1 σ H fun x' H1 => ∃ a dx fs, x' = .ref a ∧ H1 a = some (.ins C dx fs) ∧ fs.lookup ("moves" : Str) = none ∧ tCons (tVar 5) tNil σ H1 fun vs H2 => spMvsS C D K (x' :: vs) H2 (fun _ _ => True) (fun _ _ _ => True) ∧ Q H2) σ H fun H2 => ∀ l, H2 l = none → Q (.ref l) (upd H2 l (.lst []))) σ H Q := by
  refine ⟨hT, fun H1 e1 T1 E R hR _ _ => ?_⟩
  have hv1 := hv.extN e1
  have hx1 := hx.extN e1
  obtain ⟨dx, pr, pe, fs, qs, d1, d2, d3, d4, d5, d6, d7, d8⟩ := id hx1.ex
  refine ⟨_, h1, x, dx, fs, rfl, d1, d5 _ (by decide +kernel) (by decide +kernel) (by decide +kernel), _, h5, ⟨x, v, rows, ends, start, rfl, hx1, hv1.no hm, fun _ _ _ _ _ => trivial⟩, fun l hl => ?_⟩
  have e2 := same_new (o := .lst []) hl
  exact hR _ _ (k _ (e1.trans (same_extN e2)) (T1.ext e2))
theorem rf_z2 (h1 : σ[1]? = some (some (.ref x))) (h6 : σ[6]? = some (some u)) (hu : OdP H u t) (hT : Tabs (tabL Pt) H) (k : ∀ H', ExtN H H' → Tabs (tabL Pt) H' → Q (.str "none") H') :
    tLam (tabL Pt) (TErr K D W) (fun E => fun σ H Q => (fun σ H (Q : Hp → Prop) => tCons (tVar 1) (tCons (tVar 6) tNil) σ H fun vs H1 => spStp C W K vs H1 (fun _ _ => True) (fun _ _ _ => True) ∧ Q H1) σ H fun H2 => ∀ l, H2 l = none → Q (.ref l) (upd H2 l (.lst []))) σ H Q := by
  refine ⟨hT, fun H1 e1 T1 E R hR _ _ => ?_⟩
  have hu1 := hu.extN e1
  refine ⟨_, h1, _, h6, .inr ⟨x, u, rfl, hu1.no, fun _ _ _ _ _ => trivial⟩, fun l hl => ?_⟩
  have e2 := same_new (o := .lst []) hl
  exact hR _ _ (k _ (e1.trans (same_extN e2)) (T1.ext e2))
theorem tabs_put {T : List (Addr × Str)} {H : Hp} {p : Addr} {xs ys : List V} (h : H p = some (.lst xs)) (t : Tabs T H) : Tabs T (upd H p (.lst ys)) := fun q hq => by
  obtain ⟨ps, h1, h2, h3⟩ := t q hq
  refine ⟨ps, by rw [upd_ne (ne_of h1 h nofun)]; exact h1, h2, fun pos cv hc => ?_⟩
  obtain ⟨c, e1, e2⟩ := h3 pos cv hc
  exact ⟨c, e1, by rw [upd_ne (ne_of e2 h (by unfold CodeO; nofun))]; exact e2⟩
theorem extN_put {H H1 : Hp} {p : Addr} {o : HO} (e : ExtN H H1) (h : H p = none) : ExtN H (upd H1 p o) := fun b u hb n => by
  rw [upd_ne (ne_of_none hb h)]
  exact e b u hb n
/-- what is told so far, and one more -/
theorem rf_app {σ : St} {H HB : Hp} {pd : Addr} {xs : List V} {te : TE} {s : Str} {nx rt bk ct} (h7 : σ[7]? = some (some (.ref pd))) (hd : H pd = some (.lst xs)) (hn : HB pd = none) (eB : ExtN HB H) (hl : xs.length ≤ 1000)
    (ht : ∀ Q : VK, (∀ H', ExtN H H' → Tabs (tabL Pt) H' → Q (.str s) H') → te σ H Q) (k : ∀ H', ExtN HB H' → Tabs (tabL Pt) H' → H' pd = some (.lst (xs ++ [.str s])) → nx σ H') : tDrop (tBM K "list" rAppend (tVar 7) (tCons te tNil)) { nx := nx, rt := rt, bk := bk, ct := ct } σ H := by
  refine ⟨_, h7, .inl ⟨rfl, _, SqL.of hd⟩, ht _ fun H5 e5 T5 => ?_⟩
  have h5 := e5 _ _ hd fun _ => nofun
  refine ⟨pd, _, _, rfl, rfl, h5, by rw [sizeLine_eq]; omega, ?_⟩
  exact k _ (extN_put (eB.trans e5) hn) (tabs_put h5 T5) upd_same
/-- what is told is what was due -/
theorem rf_cmp {σ : St} {H HB : Hp} {pd : Addr} {n : Nat} {m : Int} {s : Str} {te : TE} {nx rt bk ct} {ts : TS} (h7 : σ[7]? = some (some (.ref pd))) (hd : H pd = some (.lst (List.replicate n (.str s)))) (hs : PyData.strOk s = true) (hm : m.toNat = n) (h0 : 0 ≤ m) (h4 : m ≤ 4) (eB : ExtN HB H) (hT : Tabs (tabL Pt) H)
    (ht : ∀ Q : VK, Q (.str s) H → te σ H Q) (k : ∀ H', ExtN HB H' → Tabs (tabL Pt) H' → nx σ H') : tIfS (tTest (tOp (rNeD K) (tVar 7) (tOp rRep (tLst (tCons te tNil)) (tC (.int m))))) ts tNext { nx := nx, rt := rt, bk := bk, ct := ct } σ H := by
  refine ⟨_, h7, ht _ ⟨by show 1 ≤ sizeLine; decide, fun pl hpl => ?_⟩⟩
  have e1 := same_new (o := .lst [.str s]) hpl
  refine ⟨pl, m, _, rfl, rfl, upd_same, by omega, by omega, by rw [sizeLine_eq]; show 1 * m.toNat ≤ _; omega, fun p hp => ?_⟩
  have e2 := same_new (o := .lst (List.replicate m.toNat [V.str s]).flatten) hp
  have er : ∀ j : Nat, (List.replicate j [V.str s]).flatten = (List.replicate j s).map .str := fun j => by
    induction j with
    | zero => rfl
    | succ j ih => rw [List.replicate_succ, List.flatten_cons, ih, List.replicate_succ]; rfl
  have hd' : H pd = some (.lst ((List.replicate n s).map .str)) := by rw [hd, List.map_replicate]
  have hh : ∀ y ∈ List.replicate n s, PyData.strOk y = true := fun y hy => by rw [(List.mem_replicate.mp hy).2]; exact hs
  have sh := strs_shp _ hh
  refine ⟨.list ((List.replicate n s).map .str), .list ((List.replicate n s).map .str), dp_strs (e2 _ _ (e1 _ _ hd')), dp_strs (by rw [upd_same, er, hm]), sh, sh, _, rfl, ?_⟩
  rw [SeqAt.eqv_refl _ (by rw [PyData.canLay0]; exact (strs_ok _ hh).1)]
  exact iteF (k _ (eB.trans (same_extN (e1.trans e2))) (hT.ext (e1.trans e2)))
end
theorem ok_ref {f c C D W Z Pt : Addr} {fd : FuncData} (F : Fun K "_law_refused" "_law_refused" sRef f fd) (hc : fd.code = .ref c) (TB : TabB base mg c Pt) (B : Bl mg) (Bz : mg "zip" = none) (G : RefM P w K mg base C D W Z) : FnG P w K mg base 10 f fd psRef (spRef C Pt) := by
  refine okGL F hc scRef (fun vs H Q E h => ?_) (fun A outer s H vs Q E hr hgd h => ?_)
  · obtain ⟨r, x, rows, ends, start, rfl, _⟩ := h
    rfl
  · obtain ⟨r, x, rows, ends, start, rfl, hR, hx, Y, hT, k⟩ := h
    obtain ⟨fm, fdm, mF, mM, mB⟩ := G.mov
    obtain ⟨fv, fdv, vF, vM, vB⟩ := G.mvs
    obtain ⟨fs, fds, sF, sM, sK, sB⟩ := G.stp.ex
    obtain ⟨fl, fdl, lF, lA, lI, lB⟩ := G.len
    have LE : LamE (cxOf CX0 P w K mg base nRef "_law_refused" (defScope sRef) f (.ref c) A outer s H E).nox (tabL Pt) D W Z := ⟨G.er, G.S, B, hgd, hr, c, Pt, TB, rfl, List.mem_singleton.mpr rfl, fun p hp _ => by rw [List.mem_singleton.mp hp]; rfl⟩
    refine ⟨_, pss_cons (ps_set (i := 2) scRef.nd rfl (.inl rfl) (pe_lst (pa_cons (pe_un un_neg pe_int) (pa_cons (pe_callB (call_ownLenN lF (hr.mono (by decide : 2 ≤ 9)) lA lI lB) (by rfl) B.len boot_len (pa_cons (pv 1) pa_nil)) (pa_cons pe_bl (pa_cons pe_bl (pa_cons pe_non (pa_cons pe_str (pa_cons (pe_tup (pa_cons pe_int pa_nil)) (pa_cons (pe_lst (pa_cons pe_int pa_nil)) (pa_cons (pe_op op_pow pe_int pe_int) pa_nil)))))))))))
      (pss_cons (ps_set (i := 3) scRef.nd rfl (.inl rfl) (pe_lst (pa_cons pe_non (pa_cons pe_int (pa_cons pe_bl (pa_cons pe_str (pa_cons pe_str (pa_cons pe_str (pa_cons pe_str (pa_cons (pe_lst (pa_cons pe_str pa_nil)) (pa_cons (pe_tup (pa_cons pe_str pa_nil)) (pa_cons pe_dnewK pa_nil))))))))))))
      (pss_cons (ps_for PassesOwn.never rfl (pi_range1 (by rfl) B.range (pa_cons pe_int pa_nil)) (pg_name (i := 4) scRef.nd rfl (.inl rfl))
        (pss_cons (ps_asg (pe_tup (pa_cons (pe_cal G.ch (hr.mono (by decide : 2 ≤ 9)) (pa_cons (pv 0) (pa_cons (pv 2) pa_nil))) (pa_cons (pe_cal G.ch (hr.mono (by decide : 2 ≤ 9)) (pa_cons (pv 0) (pa_cons (pv 3) pa_nil))) pa_nil))) (pg_tup rfl (pgs_cons (pg_name (i := 5) scRef.nd rfl (.inr rfl)) (pgs_cons (pg_name (i := 6) scRef.nd rfl (.inr rfl)) pgs_nil))))
      (pss_cons (ps_set (i := 7) scRef.nd rfl (.inl rfl) (pe_lst (pa_cons (LE.pe (fun A outer s H E f c' hg hr' => pe_calX (E := E) G.pas (hr'.mono (by decide : 4 ≤ 7)) (passes_call (takes_of rfl rfl rfl rfl) (fun _ _ _ _ h => h)) (pa_cons (pv 1) (pa_cons (pv 5) (pa_cons (pv 6) pa_nil))))) pa_nil)))
      (pss_cons (ps_expr (pe_bm PySem.F.plainAttrs_list PySem.F.slot_list_append PySem.F.type_list_append mt_append (pv 7) (pa_cons (LE.pe (fun A outer s H E f c' hg hr' => pe_calX (E := E) G.pas (hr'.mono (by decide : 4 ≤ 7)) (passes_call (takes_of rfl rfl rfl rfl) (fun _ _ _ _ h => h)) (pa_cons (pv 1) (pa_cons (pv 5) (pa_cons pe_str pa_nil))))) pa_nil)))
      (pss_cons (ps_expr (pe_bm PySem.F.plainAttrs_list PySem.F.slot_list_append PySem.F.type_list_append mt_append (pv 7) (pa_cons (LE.pe (fun A outer s H E f c' hg hr' => pe_meth (E := E) (pv 1) G.cl mM mF (hr'.mono (by decide : 4 ≤ 7)) mB .nil (passes_call (takes_of rfl rfl rfl rfl) (fun _ _ _ _ h => h)) (pa_cons (pv 5) (pa_cons pe_str pa_nil)))) pa_nil)))
      (pss_cons (ps_expr (pe_bm PySem.F.plainAttrs_list PySem.F.slot_list_append PySem.F.type_list_append mt_append (pv 7) (pa_cons (LE.pe (fun A outer s H E f c' hg hr' => pe_listG (pgen_meth (E := fun cls d H' => cls = .ref D ∧ E cls d H') (pv 1) G.cl vM vF (hr'.mono (by decide : 4 ≤ 7)) vB .nil (pa_cons (pv 5) pa_nil)) (passes_call (takes_of rfl rfl rfl rfl) (fun _ _ _ _ h => h.2)) (fun cls d H' z => by rw [z.1]; exact G.nsD) hr' (by rfl) B.list (by decide +kernel))) pa_nil)))
      (pss_cons (ps_if (pt_cmpR (op_neD hr.units) (pv 7) (pe_op op_rep (pe_lst (pa_cons (pe_op op_add_str pe_str (pe_callB (call_reprV hgd (Nat.lt_of_succ_lt (u66 hr))) (by rfl) B.repr (by decide +kernel) (pa_cons (pv 5) pa_nil))) pa_nil)) pe_int) (nomark _))
        (pss_one (ps_ret pe_bl)) pss_nil)
      (pss_cons (ps_set (i := 7) scRef.nd rfl (.inl rfl) (pe_lst (pa_cons (LE.pe (fun A outer s H E f c' hg hr' => pe_calX (E := E) G.pas (hr'.mono (by decide : 4 ≤ 7)) (passes_call (takes_of rfl rfl rfl rfl) (fun _ _ _ _ h => h)) (pa_cons (pv 1) (pa_cons pe_int (pa_cons (pv 6) pa_nil))))) pa_nil)))
      (pss_cons (ps_expr (pe_bm PySem.F.plainAttrs_list PySem.F.slot_list_append PySem.F.type_list_append mt_append (pv 7) (pa_cons (LE.pe (fun A outer s H E f c' hg hr' => pe_listG (pgen_call (E := fun cls d H' => cls = .ref W ∧ E cls d H') sF (hr'.mono (by decide : 4 ≤ 7)) (by rfl) sM sK sB .nil (pa_cons (pv 1) (pa_cons (pv 6) pa_nil))) (passes_call (takes_of rfl rfl rfl rfl) (fun _ _ _ _ h => h.2)) (fun cls d H' z => by rw [z.1]; exact G.nsW) hr' (by rfl) B.list (by decide +kernel))) pa_nil)))
      (pss_cons (ps_if (pt_cmpR (op_neD hr.units) (pv 7) (pe_op op_rep (pe_lst (pa_cons (pe_op op_add_str pe_str (pe_callB (call_reprV hgd (Nat.lt_of_succ_lt (u66 hr))) (by rfl) B.repr (by decide +kernel) (pa_cons (pv 6) pa_nil))) pa_nil)) pe_int) (nomark _))
        (pss_one (ps_ret pe_bl)) pss_nil)
      (pss_cons (ps_set (i := 7) scRef.nd rfl (.inl rfl) (pe_lst (pa_cons (LE.pe (fun A outer s H E f c' hg hr' => pe_listZ0 hr'.hd (by rfl) (by rfl) (by rfl) B.list Bz B.range (pgm_meth (pv 1) G.cl vM vF (hr'.mono (by decide : 4 ≤ 7)) vB (pa_cons (pv 5) pa_nil)))) pa_nil)))
      (pss_cons (ps_expr (pe_bm PySem.F.plainAttrs_list PySem.F.slot_list_append PySem.F.type_list_append mt_append (pv 7) (pa_cons (LE.pe (fun A outer s H E f c' hg hr' => pe_listZ0 hr'.hd (by rfl) (by rfl) (by rfl) B.list Bz B.range (pgm_call sF (hr'.mono (by decide : 4 ≤ 7)) (by rfl) sM sK sB (pa_cons (pv 1) (pa_cons (pv 6) pa_nil))))) pa_nil)))
      (pss_one (ps_if (pt_cmpR (op_neD hr.units) (pv 7) (pe_op op_rep (pe_lst (pa_cons pe_str pa_nil)) pe_int) (nomark _))
        (pss_one (ps_ret pe_bl)) pss_nil))))))))))))))
      (pss_one (ps_ret pe_bl)))), ?_⟩
    have m12 := Y.most
    obtain ⟨dx, pr, pe, fs, qs, d1, _⟩ := id hx.ex
    refine ⟨1, rfl, ?_⟩
    refine ⟨_, rfl, x, dx, fs, rfl, d1, x, rows, ends, start, rfl, hx, _, rfl, by omega, by omega, ?_⟩
    refine ⟨by show 1 ≤ sizeLine; decide, fun pt hpt => ⟨by show 1 ≤ sizeLine; decide, fun pl hpl => ⟨10, 20, rfl, rfl, ⟨by decide, by decide, by decide⟩, by show 9 ≤ sizeLine; decide, fun ps hps => ?_⟩⟩⟩
    have e1 := same_new (o := .tup [.int 0]) hpt
    have e2 := same_new (o := .lst [.int 0]) hpl
    have e3 := same_new (o := .lst (spotsL rows.length pt pl)) hps
    have k1 := e3 _ _ (e2 _ _ (upd_same (H := H) (a := pt) (o := .tup [.int 0])))
    have k2 := e3 _ _ (upd_same (H := upd H pt (.tup [.int 0])) (a := pl) (o := .lst [.int 0]))
    have k3 := upd_same (H := upd (upd H pt (.tup [.int 0])) pl (.lst [.int 0])) (a := ps) (o := .lst (spotsL rows.length pt pl))
    have e13 := (e1.trans e2).trans e3
    change tSeq _ _ _ _ (upd (upd (upd H pt (.tup [.int 0])) pl (.lst [.int 0])) ps (.lst (spotsL rows.length pt pl)))
    generalize (upd (upd (upd H pt (.tup [.int 0])) pl (.lst [.int 0])) ps (.lst (spotsL rows.length pt pl))) = HA at k1 k2 k3 e13
    clear e1 e2 e3
    refine ⟨by show 1 ≤ sizeLine; decide, fun q1 hq1 => ⟨by show 1 ≤ sizeLine; decide, fun q2 hq2 q3 hq3 => ⟨by show 10 ≤ sizeLine; decide, fun pp hpp => ?_⟩⟩⟩
    have g1 := same_new (o := .lst [.str "a"]) hq1
    have g2 := same_new (o := .tup [.str "a"]) hq2
    have g3 := same_new (o := .dK []) hq3
    have g4 := same_new (o := .lst (papersL q1 q2 q3)) hpp
    have k4 := g4 _ _ (g3 _ _ (g2 _ _ (upd_same (H := HA) (a := q1) (o := .lst [.str "a"]))))
    have k5 := g4 _ _ (g3 _ _ (upd_same (H := upd HA q1 (.lst [.str "a"])) (a := q2) (o := .tup [.str "a"])))
    have k6 := g4 _ _ (upd_same (H := upd (upd HA q1 (.lst [.str "a"])) q2 (.tup [.str "a"])) (a := q3) (o := .dK []))
    have k7 := upd_same (H := upd (upd (upd HA q1 (.lst [.str "a"])) q2 (.tup [.str "a"])) q3 (.dK [])) (a := pp) (o := .lst (papersL q1 q2 q3))
    have g14 := ((g1.trans g2).trans g3).trans g4
    change tSeq _ _ _ _ (upd (upd (upd (upd HA q1 (.lst [.str "a"])) q2 (.tup [.str "a"])) q3 (.dK [])) pp (.lst (papersL q1 q2 q3)))
    generalize (upd (upd (upd (upd HA q1 (.lst [.str "a"])) q2 (.tup [.str "a"])) q3 (.dK [])) pp (.lst (papersL q1 q2 q3))) = HB at k4 k5 k6 k7 g14
    have eB := e13.trans g14
    replace k1 := g14 _ _ k1
    replace k2 := g14 _ _ k2
    replace k3 := g14 _ _ k3
    clear g1 g2 g3 g4 g14 e13
    have hRB := eB _ _ hR
    have hxB := hx.mono eB
    refine ⟨_, rfl, by omega, by omega, ?_⟩
    refine for_it (walk_range (lo := 0) (n := (4 : Int).toNat)) (fun i σ H' => ExtN HB H' ∧ Tabs (tabL Pt) H' ∧ ∃ (a4 a5 a6 a7 : Option V), σ = [some (.ref r), some (.ref x), some (.ref ps), some (.ref pp), a4, a5, a6, a7]) ⟨ExtN.refl _, hT.ext eB, none, none, none, none, rfl⟩ (fun _ _ _ _ _ => trivial) ?_ ?_
    · rintro i v σ H1 H1' hi ⟨e1, T1, a4, a5, a6, a7, rfl⟩ ⟨rfl, rfl⟩
      refine ⟨_, rfl, _, rfl, .inl ⟨r, ps, _, rfl, e1 _ _ hRB (by nofun), SqL.of (e1 _ _ k3 fun _ => nofun), by show 0 < 9; decide, by show 9 < 1000; decide, fun v H2 hv e2 => ?_⟩⟩
      refine ⟨_, rfl, _, rfl, .inl ⟨r, pp, _, rfl, e2 _ _ (e1 _ _ hRB (by nofun)), SqL.of (e2 _ _ (e1 _ _ k7 fun _ => nofun)), by show 0 < 10; decide, by show 10 < 1000; decide, fun u H3 hu e3 => ?_⟩⟩
      refine ⟨by show 2 ≤ sizeLine; decide, fun p0 hp0 => ⟨p0, _, rfl, SqT.of upd_same, rfl, _, _, rfl, _, _, rfl, rfl, ?_⟩⟩
      have e4 := same_new (o := .tup [v, u]) hp0
      have eC := e1.trans (same_extN ((e2.trans e3).trans e4))
      have TC := T1.ext ((e2.trans e3).trans e4)
      generalize (upd H3 p0 (.tup [v, u])) = HC at e4 eC TC
      obtain ⟨t, hvt⟩ := spots_ok (n := rows.length) k1 k2 hv
      obtain ⟨t', hut⟩ := papers_ok k4 k5 k6 hu
      obtain ⟨_, _, stO⟩ := hvt.show (K := K) m12
      obtain ⟨_, _, woO⟩ := hut.show (K := K)
      refine rf_s1 rfl rfl rfl (hxB.extN eC) m12 (hvt.extN eC) TC fun H5 e5 T5 => ⟨by show 1 ≤ sizeLine; decide, fun pd hpd => ?_⟩
      have eD := eC.trans e5
      have S6 := same_new (o := .lst [.str (Str.ofString "state " ++ t)]) hpd
      have ls6 : (Str.ofString "state ").length = 6 := rfl
      have lw5 : (Str.ofString "word ").length = 5 := rfl
      have sz := sizeLine_eq
      have h0 : 0 < rows.length := by have := Y.st0; have := Y.st1; omega
      refine rf_app (rfl : _ = some (some (V.ref pd))) upd_same hpd (same_extN S6) (by show 1 ≤ 1000; decide) (fun Q kq => rf_s2 rfl rfl (hxB.extN (eD.trans (same_extN S6))) m12 (hvt.extN ((eC.trans e5).trans (same_extN S6))) (T5.ext S6) kq) fun H6 e6 T6 h6 => ?_
      refine rf_app (rfl : _ = some (some (V.ref pd))) h6 hpd e6 (by show 2 ≤ 1000; decide) (fun Q kq => rf_s3 rfl rfl (hxB.extN (eD.trans e6)) m12 (hvt.extN (eD.trans e6)) T6 kq) fun H7 e7 T7 h7 => ?_
      refine rf_app (rfl : _ = some (some (V.ref pd))) h7 hpd e7 (by show 3 ≤ 1000; decide) (fun Q kq => rf_s4 rfl rfl (hxB.extN (eD.trans e7)) m12 (hvt.extN (eD.trans e7)) T7 kq) fun H8 e8 T8 h8 => ?_
      have sv := (hvt.extN (eD.trans e8)).show (K := K) m12
      refine rf_cmp (n := 4) (rfl : _ = some (some (V.ref pd))) h8 stO rfl (by decide) (by decide) (eD.trans e8) T8 (fun Q kq => ⟨_, rfl, v, t, rfl, sv.1, _, _, rfl, rfl, by have := sv.2.1; omega, kq⟩) fun H9 e9 T9 => ?_
      clear eD e6 e7 e8 sv h6 h7 h8 T6 T7 T8 S6 hpd e5 T5
      clear H5
      refine rf_w1 rfl rfl (hxB.extN e9) h0 (hut.extN e9) T9 fun H5 e5 T5 => ⟨by show 1 ≤ sizeLine; decide, fun pd hpd => ?_⟩
      have eD := e9.trans e5
      have S6 := same_new (o := .lst [.str (Str.ofString "word " ++ t')]) hpd
      refine rf_app (rfl : _ = some (some (V.ref pd))) upd_same hpd (same_extN S6) (by show 1 ≤ 1000; decide) (fun Q kq => rf_w2 rfl rfl (hut.extN (eD.trans (same_extN S6))) (T5.ext S6) kq) fun H6 e6 T6 h6 => ?_
      have sv := (hut.extN (eD.trans e6)).show (K := K)
      refine rf_cmp (n := 2) (rfl : _ = some (some (V.ref pd))) h6 woO rfl (by decide) (by decide) (eD.trans e6) T6 (fun Q kq => ⟨_, rfl, u, t', rfl, sv.1, _, _, rfl, rfl, by have := sv.2.1; omega, kq⟩) fun H10 e10 T10 => ?_
      refine rf_z1 rfl rfl (hxB.extN e10) m12 (hvt.extN e10) T10 fun H11 e11 T11 => ⟨by show 1 ≤ sizeLine; decide, fun pn hpn => ?_⟩
      have eE := e10.trans e11
      have S12 := same_new (o := .lst [.str (Str.ofString "none")]) hpn
      refine rf_app (rfl : _ = some (some (V.ref pn))) upd_same hpn (same_extN S12) (by show 1 ≤ 1000; decide) (fun Q kq => rf_z2 rfl rfl (hut.extN (eE.trans (same_extN S12))) (T11.ext S12) kq) fun H13 e13 T13 h13 => ?_
      refine rf_cmp (n := 2) (s := Str.ofString "none") (rfl : _ = some (some (V.ref pn))) h13 (by decide +kernel) rfl (by decide) (by decide) (eE.trans e13) T13 (fun Q kq => kq) fun H14 e14 T14 => ?_
      exact ⟨e14, T14, _, _, _, _, rfl⟩
    · rintro σ H1 ⟨e1, T1, a4, a5, a6, a7, rfl⟩
      exact k _ ((same_extN eB).trans e1) T1
end
end SS

set_option maxRecDepth 100000
set_option maxHeartbeats 4000000
set_option pp.maxSteps 1500
namespace SR
open PySem PySem.Spec PyProof.Rows L2 ClX
/-- a def called with positional arguments and keywords, wherever the positional ones go -/
def FnK (P : Program) (w : World) (K : PySem.W.Frag) (mg : Str → Option Value) (base : Heap) (CX : CXT) (k : Nat) (f : Addr) (ks : List Str) (sp : List V → Sp) : Prop :=
  ∀ (A : Around) (outer : List Env) (s : Shared) (H : Hp) (us ws : List Value) (vs zs : List V) (Q : VK) (E : XK), Room k A → Env0 P w K mg base A outer s H → Vals vs us → Vals zs ws → zs.length = ks.length → sp zs vs H Q E →
    codeAny (model P w) A (.call (.ref f) ⟨us, ks.zip ws⟩) (CR CX outer P w H s Q E) s
section
variable {X : Cx} {CX : CXT} {k : Nat} {C p g : Addr} {mc : Value} {ks : List Str} {sp : List V → Sp} {E : XK} {o e : Expr} {es : List Expr} {m : Str} {pos apos : Pos} {ta : TE} {t tk : TA} {pl : Sem Bool} {kws : List Keyword}
def tCMethK (C : Addr) (n : Nat) (sp : List V → Sp) (E : XK) (ta : TE) (t tk : TA) : TE := fun σ H Q => ta σ H fun x H1 => x = .ref C ∧ t σ H1 fun vs H2 => tk σ H2 fun zs H3 => zs.length = n ∧ sp zs (.ref C :: vs) H3 Q E
/-- C.m(e, .., k = v, ..) of a classmethod -/
theorem pe_cmethK (he : PE X o ta) (r : CRead X.K C mc) (c : CMet X.K C mc m p g) (F : FnK X.prog X.w X.K X.mg X.base CX k g ks sp) (hr : Room k X.A) (hx : Passes CX X E) (ha : PA X (e :: es) t) (hkw : PK X kws tk)
    (hall : (backToKw pos (keywordEach kws X.env)).all (·.1.isSome) = true := by rfl) (hks : (backToKw pos (keywordEach kws X.env)).filterMap (·.1) = ks := by rfl)
    (hst : starEach (e :: es) X.env = (false, eval e X.env) :: starEach es X.env := by rfl)
    (hpl : ((backTo pos (starEach (e :: es) X.env)).any (·.1) || (backToKw pos (keywordEach kws X.env)).any (·.1.isNone)) = false := by rfl)
    (ht : eval (.Call (.Attribute o m apos) (e :: es) kws pos) X.env = (do
      let ov ← eval o X.env
      standAt apos.atName
      let (f, first) ← holding [ov] (getMethod ov m pl)
      callWith pos f first (backTo pos (starEach (e :: es) X.env)) (backToKw pos (keywordEach kws X.env))) := by rfl) :
    PE X (.Call (.Attribute o m apos) (e :: es) kws pos) (tCMethK C ks.length sp E ta t tk) := by
  refine ⟨fun pins s σ H Q I h => ?_⟩
  refine PySem.W.methodCall_KW (pl := pl) (thn (he.run pins s σ H _ I h) fun u s1 ⟨x, H1, I1, rx, ex, q⟩ => ?_) ht
  subst ex
  obtain rfl : u = Value.ref C := rx
  refine getmethcm_ok I1 r c fun s2 I2 => ?_
  refine PySem.W.callWith_of hpl (PySem.W.keeps_M (K := X.K) (self := .ref C) c.fi) (evalArgs_kw2 hall (thn (ha.run pos _ s2 σ H1 _ I2 q) fun us s3 ⟨vs, H2, I3, rv, q2⟩ => thn (hkw.run pos _ s3 σ H2 _ I3 q2) fun ws s4 ⟨zs, H3, I4, rz, l2, q3⟩ => ⟨⟨pin_at I4, I4.kIn⟩, ?_⟩) hst)
  rw [hks]
  refine wpAny_call (PySem.W.method_call (pin_at I4) (codeAny_mono (F X.A X.stack s4 H3 (.ref C :: us) ws (.ref C :: vs) zs Q E hr I4.env0 (.cons rfl rv) rz l2 q3) fun r s' hq => ?_))
  cases r with
  | error e => exact hx pins σ _ _ e s' (unpin I4) hq
  | ok fl =>
    cases fl with
    | ret u => exact unpinE (I4.after hq)
    | next => exact False.elim hq
    | brk => exact False.elim hq
    | cont => exact False.elim hq
end
end SR

set_option maxRecDepth 100000
set_option maxHeartbeats 4000000
set_option pp.maxSteps 1500
namespace SR
open PySem PySem.Spec PyProof.Rows L2 StX
/-- t looks the names up in the dict at D, one behind another, and goes on as t' -/
def KwTo {α : Type} (D : Addr) : List (Str × Value) → Sem α → Sem α → Prop
  | [], t, t' => t = t'
  | q :: l, t, t' => ∃ (β γ : Type) (k1 : Option Value → Sem β) (k2 : β → Sem γ) (k3 : γ → Sem α) (a : β), t = ((nsGet D q.1 >>= k1) >>= k2) >>= k3 ∧ k1 (some q.2) = pure a ∧ KwTo D l (k2 a >>= k3) t'
theorem KwTo.wp {α : Type} {K : PySem.W.Frag} {M : Model} {D : Addr} {A : Around} {Q : α → Shared → Prop} {E : Value → Shared → Prop} {s : Shared} (X : K.In s.heap) : ∀ {l : List (Str × Value)} {t t' : Sem α}, (∀ q ∈ l, PySem.W.nsIn K D q.1 = some (some q.2)) → KwTo D l t t' → wpAny M A t' Q E s → wpAny M A t Q E s
  | [], t, t', _, e, h => by rw [show t = t' from e]; exact h
  | q :: l, t, t', hl, e, h => by
    obtain ⟨β, γ, k1, k2, k3, a, e1, e2, e3⟩ := e
    have l1 : PySem.W.Looks M s.heap (nsGet D q.1 >>= k1) a := (PySem.W.looks_nsIn X (hl q (List.mem_cons_self ..))).andThen (PySem.W.Looks.of_pure e2)
    rw [e1, bind_assoc]
    exact wpAny_bind (l1 A _ _ s (fun _ _ e => e) (KwTo.wp X (fun p hp => hl p (List.mem_cons_of_mem _ hp)) e3 h))
section
variable {CX : CXT} {P : Program} {w : World} {K : PySem.W.Frag} {mg : Str → Option Value} {base : Heap} {k : Nat} {f : Addr} {name qual : Str} {params : Arguments} {body : List Stmt} {scope : Scope} {dV kV doc pm cdv ct oc : Value} {an od : Option Addr}
  {osl : Array (Option Value)} {N ps kn ks : List Str} {ms : List (Str × V)} {sp : Sp}
/-- def f(a, .., *v, k = .., ..), called with positional arguments and some of the keywords (ks); ms: those that lack. The tuple is bound last -/
theorem fn_starK {pv : Str} {D : Addr} (gk : {α : Type} → List α → List α → List α) (lk : K.lookup f = some ⟨oc, od, .func (PySem.W.fnOf name qual params body scope dV kV doc pm an cdv ct), osl⟩) (hcd : PySem.W.codeIn K cdv qual = true) (S : FnScope N (ps ++ (kn ++ [pv])) scope) (hCX : CXUp CX)
    (kwd : ∀ q ∈ ms, ∃ u, PySem.W.nsIn K D q.1 = some (some u) ∧ RelV q.2 u) (hg : ∀ {zs mz : List V} {ws mv : List Value}, Vals zs ws → Vals mz mv → Vals (gk zs mz) (gk ws mv)) (hgl : ∀ zs mz : List V, zs.length = ks.length → mz.length = ms.length → (gk zs mz).length = kn.length)
    (hb : ∀ us rest ws mv : List Value, us.length = ps.length → ws.length = ks.length → mv.length = ms.length → KwTo D ((ms.map (·.1)).zip mv) (bindArgs (PySem.W.fnOf name qual params body scope dV kV doc pm an cdv ct) ⟨us ++ rest, ks.zip ws⟩) (newTuple rest >>= fun t => pure (ps.zip us ++ (kn.zip (gk ws mv) ++ [(pv, t)]))))
    (hbody : ∀ (A : Around) (outer : List Env) (s : Shared) (H : Hp) (vs : List V) (Q : VK) (E : XK), Room k (A.deeper (envOfC qual scope s.heap.objs.size f cdv)) → sp vs H Q E →
      ∃ t, PSs (cxOf CX P w K mg base N qual scope f cdv A outer s H E) body t ∧ t { nx := fun _ H' => Q .non H', rt := Q } (start N vs) H) :
    FnK P w K mg base CX (k + 1) f ks (fun zs vs H Q E => ∃ ws rest, vs = ws ++ rest ∧ ws.length = ps.length ∧ rest.length ≤ sizeLine ∧ ∀ p, H p = Option.none → sp (ws ++ (gk zs (ms.map (·.2)) ++ [V.ref p])) (upd H p (.tup rest)) Q E) := by
  intro A outer s H us kw vs zs Q E hr e0 r rz lz hsp
  obtain ⟨ws, rest, ev, hl, hz, hq⟩ := hsp
  subst ev
  obtain ⟨u1, u2, eu, r1, r2⟩ := vals_split r
  subst eu
  have KX : K.In s.heap := e0.mod.kin.keeps fun b o e => (e0.bs b o e).1
  obtain ⟨mv, hml, rk, hks⟩ := kwd_vals kwd
  have hn : H s.heap.objs.size = Option.none := e0.hok.fresh (Nat.le_refl _)
  have hl1 : u1.length = ps.length := by rw [← r1.length]; exact hl
  have hl2 : u2.length ≤ sizeLine := by rw [← r2.length]; exact hz
  have hl3 : kw.length = ks.length := by rw [← rz.length]; exact lz
  have rg := hg rz rk
  have hgV := hgl zs (ms.map (·.2)) lz (List.length_map _)
  have hl4 : kn.length = (gk kw mv).length := by rw [← rg.length, hgV]
  refine run_bnd lk hcd S hr e0 (G := fun xs H2 => ∃ p, H p = Option.none ∧ xs = ws ++ (gk zs (ms.map (·.2)) ++ [V.ref p]) ∧ H2 = upd H p (.tup rest)) (fun A' Ex Q' h => ?_) fun s2 H2 xs ⟨p, hp, ex, eH⟩ hr' => ?_
  · refine KwTo.wp KX hks (hb u1 u2 kw mv hl1 hl3 hml) ?_
    refine wpAny_bind (wpAny_newTuple (wpAny_pure ?_) hl2)
    have new : ObjOk P w (upd H s.heap.objs.size (.tup rest)) (s.heap.push ({ cls := .type "tuple", data := .seq u2.toArray } : Obj)) s.heap.objs.size (.tup rest) := ⟨hz, u2, r2, ⟨_, Heap.get?_push_size _ rfl, rfl, _, rfl⟩⟩
    have un := un_laid (fs := frs outer) (s := s) (o := ({ cls := .type "tuple", data := .seq u2.toArray } : Obj)) (u := .tup rest) hn
    have z := h _ _ (ws ++ (gk zs (ms.map (·.2)) ++ [V.ref s.heap.objs.size])) (u1 ++ (gk kw mv ++ [Value.ref s.heap.objs.size])) (env0_laid e0 new) un rfl (fun e s' => hCX outer s H _ _ E e s' un (fun b o q => Heap.get?_push_of_some _ q) rfl) (r1.append (rg.append (.cons rfl .nil)))
      (by rw [List.length_append, List.length_append, List.length_append, List.length_append, hl, hgV]; rfl) ⟨_, hn, rfl, rfl⟩
    rw [List.zip_append hl1.symm, List.zip_append hl4] at z
    exact z
  · subst ex eH
    exact hbody A outer s2 _ _ Q E hr' (hq p hp)
theorem FnK.fnR {g : Addr} {sp : List V → Sp} (F : FnK P w K mg base CX k g [] sp) : FnR P w K mg base CX k g (sp []) := fun A outer s H us vs Q E hr e0 r h => F A outer s H us [] vs [] Q E hr e0 r .nil rfl h
end
/-- a list of zs, its two last ones -/
def gK0 {α : Type} : List α → List α → List α := fun zs mz => zs ++ mz
end SR

set_option maxRecDepth 100000
set_option maxHeartbeats 4000000
set_option pp.maxSteps 1500
namespace SR
open PySem PySem.Spec PyProof.Rows L2
/-- the i-th slot holds the class at C: x(.., k = v) makes one -/
def tMakeLN (i : Nat) (C : Addr) (n m : Nat) (sp : Sp) (gV : List V → List V → List V) (E : XK) (t tk : TA) : TE := fun σ H Q => σ[i]? = some (some (.ref C)) ∧ tMakeN C n m sp gV E t tk σ H Q
theorem pe_makeLN {X : Cx} {CX : CXT} {k i n : Nat} {C f : Addr} {fd : FuncData} {ps ks : List Str} {sp : Sp} {g : List Value → List Value → List Value} {gV : List V → List V → List V} {E : XK} {x : Str} {p pos : Pos} {e : Expr} {es : List Expr} {kws : List Keyword} {t tk : TA} (M : Mk X.K C f) (F : FnOk X.prog X.w X.K X.mg X.base CX k f fd ps sp) (hr : Room (k + 1) X.A) (hN : X.N[i]? = some x) (hv : Vis X.env.scope x) (hb : KBn X.K fd ps (n + 1) ks g gV) (hx : Passes CX X E)
    (ha : PA X (e :: es) t) (hkw : PK X kws tk) (hall : (backToKw pos (keywordEach kws X.env)).all (·.1.isSome) = true := by rfl) (hks : (backToKw pos (keywordEach kws X.env)).filterMap (·.1) = ks := by rfl)
    (hdb : (x == ("__debug__" : Str)) = false := by decide) (hcd : (x == ("__classdict__" : Str)) = false := by decide) (he : starEach (e :: es) X.env = (false, eval e X.env) :: starEach es X.env := by rfl)
    (hpl : ((backTo pos (starEach (e :: es) X.env)).any (·.1) || (backToKw pos (keywordEach kws X.env)).any (·.1.isNone)) = false := by rfl) : PE X (.Call (.Name x p) (e :: es) kws pos) (tMakeLN i C n ks.length sp gV E t tk) := by
  refine ⟨fun pins s σ H Q I h => ?_⟩
  obtain ⟨hs, ht⟩ := h
  refine wpAny_Call_Name_kw (thn ((pe_var (pos := p) hN hv hdb hcd).run pins s σ H (fun v H1 => v = .ref C ∧ H1 = H) I ⟨.ref C, hs, rfl, rfl⟩) fun u s1 ⟨v, H1, I1, r1, q1⟩ => ?_)
  obtain ⟨rfl, rfl⟩ := q1
  cases r1
  refine PySem.W.callWith_KW (h₀ := X.base) I.ok.mod.kin M.kp hall (thn (ha.run pos pins s1 σ _ _ I1 ht) fun us s2 ⟨vs, H2, I2, r, q⟩ => ?_) hpl he
  refine thn (hkw.run pos pins s2 σ H2 _ I2 q) fun ws s3 ⟨zs, H3, I3, rz, l1, l2, q3⟩ => ⟨I3.kIn, ?_⟩
  rw [hks]
  exact run_makeN M F hr hb hx I3 r rz l1 l2 q3
end SR

set_option maxRecDepth 100000
set_option maxHeartbeats 4000000
set_option pp.maxSteps 1500
namespace SR
open PySem PySem.Spec PyProof.Rows L2
/-- C(k = v, ..): keywords alone -/
def tMakeN0 (C : Addr) (m : Nat) (sp : Sp) (gV : List V → List V → List V) (E : XK) (tk : TA) : TE := fun σ H Q => tk σ H fun zs H2 => zs.length = m ∧
  ∀ x dx, H2 x = none → H2 dx = none → dx ≠ x → sp (gV [.ref x] zs) (upd (upd H2 dx (.own x)) x (.ins C dx [])) (fun v H3 => v = .non ∧ Q (.ref x) H3) E
theorem pe_makeN0 {X : Cx} {CX : CXT} {k : Nat} {C f : Addr} {fd : FuncData} {ps ks : List Str} {sp : Sp} {g : List Value → List Value → List Value} {gV : List V → List V → List V} {E : XK} {x : Str} {p pos : Pos} {kws : List Keyword} {tk : TA} (M : Mk X.K C f) (F : FnOk X.prog X.w X.K X.mg X.base CX k f fd ps sp) (hr : Room (k + 1) X.A) (hg : Gl X x) (hm : X.mg x = some (.ref C)) (hb : KBn X.K fd ps 1 ks g gV) (hx : Passes CX X E)
    (hkw : PK X kws tk) (hall : (backToKw pos (keywordEach kws X.env)).all (·.1.isSome) = true := by rfl) (hks : (backToKw pos (keywordEach kws X.env)).filterMap (·.1) = ks := by rfl)
    (hdb : (x == ("__debug__" : Str)) = false := by decide)
    (hpl : ((backTo pos (starEach [] X.env)).any (·.1) || (backToKw pos (keywordEach kws X.env)).any (·.1.isNone)) = false := by rfl) : PE X (.Call (.Name x p) [] kws pos) (tMakeN0 C ks.length sp gV E tk) := by
  refine ⟨fun pins s σ H Q I h => ?_⟩
  refine wpAny_Call_Name_kw (ld_glob I hg hm ?_ hdb)
  refine PySem.W.callWith_KW0 (h₀ := X.base) I.ok.mod.kin M.kp hall ?_ hpl
  refine thn (hkw.run pos pins s σ H _ I h) fun ws s3 ⟨zs, H3, I3, rz, l2, q3⟩ => ⟨I3.kIn, ?_⟩
  rw [hks]
  exact run_makeN (n := 0) (us := []) (vs := []) M F hr hb hx I3 .nil rz rfl l2 q3
end SR
namespace SS
open PySem L2 SR TL
def gA {α : Type} : List α → List α → List α := fun vs zs => vs ++ zs
/-- the orders of the keywords -/
def gI3 {α : Type} : List α → List α → List α
  | [x], [a, b, c] => [x, b, c, a]
  | _, _ => []
theorem gI3_rel {vs zs : List V} {us ws : List Value} (r1 : Vals vs us) (r2 : Vals zs ws) : Vals (gI3 vs zs) (gI3 us ws) := by
  rcases r1 with _ | ⟨x, r1⟩
  · exact .nil
  · rcases r1 with _ | ⟨y, r1⟩
    · rcases r2 with _ | ⟨a, r2⟩
      · exact .nil
      · rcases r2 with _ | ⟨b, r2⟩
        · exact .nil
        · rcases r2 with _ | ⟨c, r2⟩
          · exact .nil
          · rcases r2 with _ | ⟨d, r2⟩
            · exact .cons x (.cons b (.cons c (.cons a .nil)))
            · exact .nil
    · exact .nil
section
variable {P : Program} {w : World} {K : PySem.W.Frag} {mg : Str → Option Value} {base : Heap}
/-- Reader(..) in all the ways in which the law makes one; e: the default of ends -/
structure RdK (P : Program) (w : World) (K : PySem.W.Frag) (mg : Str → Option Value) (base : Heap) (C f : Addr) (fd : FuncData) (e : Addr) : Prop where
  mak : Mk K C f
  mgC : mg "Reader" = some (.ref C)
  ok : FnOk P w K mg base CX0 7 f fd psIni (spIni K C)
  emp : KTup K e []
  k3 : ∃ g, KBn K fd psIni 3 ["start"] g gA
  k2 : ∃ g, KBn K fd psIni 2 ["ends", "start"] g gA
  k1 : ∃ g, KBn K fd psIni 1 ["start", "states", "ends"] g gI3
  b3 : ∃ ds, Vals [V.int 0] ds ∧ Binds K fd psIni ds
  b2 : ∃ ds, Vals [V.ref e, V.int 0] ds ∧ Binds K fd psIni ds
  ks : ∃ g, KBn K fd psIni 1 ["states"] g (fun vs zs => vs ++ (zs ++ [V.ref e, V.int 0]))
theorem rdK_of {f C e : Addr} {fd : FuncData} (F : FunD K "__init__" "Reader.__init__" (defArgs sIni) (defBody sIni) (defScope sIni) [V.ref e] [("start", V.int 0)] f fd) (M : Mk K C f) (mC : mg "Reader" = some (.ref C)) (ok : FnOk P w K mg base CX0 7 f fd psIni (spIni K C)) (em : KTup K e []) : RdK P w K mg base C f fd e where
  mak := M
  mgC := mC
  ok := ok
  emp := em
  k3 := by
    obtain ⟨its, kb⟩ := F.kbindsD (ps := psIni) 3 ["start"] (fun us _ ws => us ++ ws) (by simp) (fun r1 _ r3 => r1.append r3) fun T kV doc pm an cdv ct us its ws l1 l2 l3 => by
      match us, l1, its, l2, ws, l3 with
      | [a, b, c], _, [d], _, [e], _ => exact ⟨_, rfl, rfl⟩
    exact ⟨_, kb⟩
  k2 := by
    obtain ⟨its, kb⟩ := F.kbindsD (ps := psIni) 2 ["ends", "start"] (fun us _ ws => us ++ ws) (by simp) (fun r1 _ r3 => r1.append r3) fun T kV doc pm an cdv ct us its ws l1 l2 l3 => by
      match us, l1, its, l2, ws, l3 with
      | [a, b], _, [d], _, [c, e], _ => exact ⟨_, rfl, rfl⟩
    exact ⟨_, kb⟩
  k1 := by
    obtain ⟨its, kb⟩ := F.kbindsD (ps := psIni) 1 ["start", "states", "ends"] (fun us _ ws => gI3 us ws) (by simp) (fun r1 _ r3 => gI3_rel r1 r3) fun T kV doc pm an cdv ct us its ws l1 l2 l3 => by
      match us, l1, its, l2, ws, l3 with
      | [a], _, [d], _, [b, c, e], _ => exact ⟨_, rfl, rfl⟩
    exact ⟨_, kb⟩
  b3 := F.binds (ps := psIni) 3 1 (by simp) rfl (fun T D doc pm an cdv ct us its ks l1 l2 l3 => by
    match us, l1, its, l2, ks, l3 with
    | [a, b, c], _, [d], _, [e], _ => exact ⟨_, rfl, _, _, _, _, _, _, rfl, rfl, rfl⟩) (by simp)
  b2 := F.binds (ps := psIni) 2 0 (by simp) rfl (fun T D doc pm an cdv ct us its ks l1 l2 l3 => by
    match us, l1, its, l2, ks, l3 with
    | [a, b], _, [d], _, [e], _ => exact ⟨_, rfl, _, _, _, _, _, _, rfl, rfl, rfl⟩) (by simp)
  ks := by
    obtain ⟨its, mv, kb⟩ := F.kbinds (ps := psIni) 1 ["states"] [("start", V.int 0)] (fun us its mv ws => us ++ (ws ++ (its ++ mv))) (by simp) (by simp) (fun q h => h) (fun r1 r2 r3 r4 => r1.append (r4.append (r2.append r3))) fun T D doc pm an cdv ct us its mv ws l1 l2 l3 l4 => by
      match us, l1, its, l2, mv, l3, ws, l4 with
      | [a], _, [d], _, [e], _, [b], _ => exact ⟨_, rfl, _, _, _, _, _, _, rfl, rfl, rfl⟩
    exact ⟨_, kb⟩
end
end SS

set_option maxRecDepth 100000
set_option maxHeartbeats 4000000
set_option pp.maxSteps 1500
namespace SR
open PySem PySem.Spec PyProof.Rows L2
section
variable {X : Cx} {k : Nat} {f C : Addr} {fd : FuncData} {ps ks : List Str} {sp : SpG} {x : Str} {p pos : Pos}
/-- f(k = v, ..) of a generator def -/
def tCallGK (n : Nat) (sp : SpG) (gV : List V → List V → List V) (E : XK) (tk : TA) : TGen := fun σ H cont => tk σ H fun zs H2 => zs.length = n ∧ sp (gV [] zs) H2 cont E
theorem pgen_callK {E : XK} {kws : List Keyword} {tk : TA} {g : List Value → List Value → List Value} {gV : List V → List V → List V} (F : GFn X.prog X.w X.K X.mg X.base k f fd ps sp) (hr : Room k X.A) (hg : Gl X x) (hm : X.mg x = some (.ref f)) (kp : PySem.W.keepIn X.K (.ref f) = true) (hb : KBn X.K fd ps 0 ks g gV) (hkw : PK X kws tk)
    (hdb : (x == ("__debug__" : Str)) = false := by decide) (hall : (backToKw pos (keywordEach kws X.env)).all (·.1.isSome) = true := by rfl) (hks : (backToKw pos (keywordEach kws X.env)).filterMap (·.1) = ks := by rfl)
    (hpl : ((backTo pos (starEach [] X.env)).any (·.1) || (backToKw pos (keywordEach kws X.env)).any (·.1.isNone)) = false := by rfl) : PGen X k (.Call (.Name x p) [] kws pos) (tCallGK ks.length sp gV E tk) E := by
  refine ⟨fun pins s σ H cont I h => wpAny_Call_Name_kw (ld_glob I hg hm ?_ hdb)⟩
  refine PySem.W.callWith_KW0 (h₀ := X.base) I.ok.mod.kin kp hall (thn (hkw.run pos pins s σ H _ I h) fun ws s2 ⟨zs, H2, I2, rz, l2, q2⟩ => ⟨I2.kIn, ?_⟩) hpl
  rw [hks]
  refine wpAny_call (codeAny_mono (F.run X.A X.stack s2 H2 ⟨[] ++ [], ks.zip ws⟩ (g [] ws) (gV [] zs) cont E hr I2.env0 (hb.to _ [] ws I2.kIn rfl (rz.length.symm.trans l2)) (hb.rel .nil rz) q2) fun r s' hq => ?_)
  cases r with
  | error e => exact False.elim hq
  | ok fl =>
    cases fl with
    | ret u => exact ⟨H2, s2, [], I2, .nil, hq⟩
    | next => exact False.elim hq
    | brk => exact False.elim hq
    | cont => exact False.elim hq
theorem passGat {X : Cx} (σ : L2.St) : PassesAt (L2.CX X.prog X.w) X σ ((fun _ => E0 : L2.St → XK) σ) := fun pins H s e s' I h => passG0 pins σ H s e s' I h
end
end SR
namespace SS
open PySem L2 SR TL
/-- a reader just made -/
def NewR (C : Addr) (H H' : Hp) (x : Addr) (rows : List Rw) (ends : List Int) (start : Int) : Prop :=
  H x = none ∧ Same H H' ∧ ∀ H'' : Hp, (∀ b o, (H b = none ∨ ∃ xs, o = .tup xs) → H' b = some o → H'' b = some o) → RdAt C H'' x (rows.map sortR) (sortI ends) start
theorem NewR.mono {C : Addr} {H1 H2 H' : Hp} {x : Addr} {rows : List Rw} {ends : List Int} {start : Int} (e : Same H1 H2) (h : NewR C H2 H' x rows ends start) : NewR C H1 H' x rows ends start :=
  ⟨e.free h.1, e.trans h.2.1, fun H'' z => h.2.2 H'' fun b o hb => z b o (hb.imp e.free id)⟩
theorem NewR.at {C : Addr} {H H' : Hp} {x : Addr} {rows : List Rw} {ends : List Int} {start : Int} (h : NewR C H H' x rows ends start) : RdAt C H' x (rows.map sortR) (sortI ends) start := h.2.2 H' fun _ _ _ z => z
theorem ini_mk {K : PySem.W.Frag} {C x dx a e : Addr} {H : Hp} {Q : Hp → Prop} {cs ts : List Nat} {ms : List (List Nat)} {rows : List Rw} {ends : List Int} {start : Int} (nx : H x = none) (ndx : H dx = none) (PA : Pal cs ts ms) (W : WfR cs ts ms rows ends start) (hR : RowsL H a rows) (hE : LoQ K H e (ends.map .int))
    (k : ∀ H', NewR C H H' x rows ends start → Q H') : spIni K C [.ref x, .ref a, .ref e, .int start] (upd (upd H dx (.own x)) x (.ins C dx [])) (fun v H3 => v = .non ∧ Q H3) E0 := by
  have en : Same H (upd (upd H dx (.own x)) x (.ins C dx [])) := same_upd (same_new ndx) nx
  refine ⟨x, dx, a, e, cs, ts, ms, rows, ends, start, rfl, upd_same, PA, W, hR.mono en, hE.mono en, fun H5 ext sb => ⟨rfl, ?_⟩⟩
  have e45 : Same H H5 := fun b o hb => sb b o (ne_of_none hb nx) (en b o hb)
  refine k H5 ⟨nx, e45, fun H'' z => ext H'' fun b o hb => z b o ?_⟩
  rcases hb with hb | rfl | hb
  · exact .inl (en.free hb)
  · exact .inl nx
  · exact .inr hb
/-! ### sorted or not, the same is read -/
theorem find_perm {c : Nat} {row row' : Rw} (p : row'.Perm row) (nd : (row.map (·.1)).Nodup) : mvOf row' c = mvOf row c := by
  have one : ∀ {r : Rw} {m : Mv}, (r.map (·.1)).Nodup → (c, m) ∈ r → mvOf r c = some m := fun {r m} nd h => by
    induction r with
    | nil => cases h
    | cons e r ih =>
      rw [List.map_cons, List.nodup_cons] at nd
      unfold mvOf
      rcases List.mem_cons.mp h with rfl | h
      · rw [List.find?_cons_of_pos (by simp)]
        rfl
      · have : e.1 ≠ c := fun z => nd.1 (z ▸ List.mem_map.mpr ⟨_, h, rfl⟩)
        rw [List.find?_cons_of_neg (by simp [this])]
        exact ih nd.2 h
  cases h : mvOf row c with
  | some m => exact one ((p.map _).nodup_iff.mpr nd) (p.mem_iff.mpr (mvOf_mem h))
  | none =>
    cases h' : mvOf row' c with
    | none => rfl
    | some m =>
      have := one nd (p.mem_iff.mp (mvOf_mem h'))
      rw [h] at this
      cases this
theorem rowOf_sort {rows : List Rw} (nd : ∀ row ∈ rows, (row.map (·.1)).Nodup) (s : Int) (c : Nat) : mvOf (rowOf (rows.map sortR) s) c = mvOf (rowOf rows s) c := by
  unfold rowOf
  rw [List.getElem?_map]
  cases h : rows[s.toNat]? with
  | none => rfl
  | some row => exact find_perm (sortR_perm row) (nd row (List.mem_of_getElem? h))
theorem behind_sort {rows : List Rw} (nd : ∀ row ∈ rows, (row.map (·.1)).Nodup) : ∀ (page : List Nat) (s : Int), behind (rows.map sortR) s page = behind rows s page
  | [], s => rfl
  | c :: cs, s => by
    unfold behind
    rw [rowOf_sort nd]
    cases mvOf (rowOf rows s) c with
    | none => rfl
    | some m => exact congrArg (m :: ·) (behind_sort nd cs m.1)
theorem WfR.rdy {cs ts : List Nat} {ms : List (List Nat)} {rows : List Rw} {ends : List Int} {start : Int} (W : WfR cs ts ms rows ends start) (A : Pal cs ts ms) : Rdy rows start := ⟨W.most, W.goal, fun row hr e he x hx => by
  rcases W.told row hr e he x hx with ⟨c, hc, rfl⟩ | h
  · intro b hb
    rw [List.mem_singleton.mp hb]
    exact A.tsl c hc
  · exact (A.msl x h).1, W.st0, W.st1⟩
theorem WfR.short {cs ts : List Nat} {ms : List (List Nat)} {rows : List Rw} {ends : List Int} {start : Int} (W : WfR cs ts ms rows ends start) (A : Pal cs ts ms) : ∀ row ∈ rows, ∀ e ∈ row, ∀ y, e.2.2 = some y → y.length ≤ 8 := fun row hr e he x hx => by
  rcases W.told row hr e he x hx with ⟨c, hc, rfl⟩ | h
  · exact (by decide : 1 ≤ 8)
  · exact (A.msl x h).2.2
theorem sort_back {rows : List Rw} {row : Rw} (h : row ∈ rows.map sortR) {e : Nat × Mv} (he : e ∈ row) : ∃ r ∈ rows, e ∈ r := by
  obtain ⟨r, h1, rfl⟩ := List.mem_map.mp h
  exact ⟨r, h1, (sortR_perm r).mem_iff.mp he⟩
theorem Rdy.sort {rows : List Rw} {start : Int} (Y : Rdy rows start) : Rdy (rows.map sortR) start := ⟨by rw [List.length_map]; exact Y.most, fun row hr e he => by
  obtain ⟨r, h1, h2⟩ := sort_back hr he
  rw [List.length_map]
  exact Y.goal r h1 e h2, fun row hr e he x hx => by
  obtain ⟨r, h1, h2⟩ := sort_back hr he
  exact Y.told r h1 e h2 x hx, Y.st0, by rw [List.length_map]; exact Y.st1⟩
/-! ### moves, and what a walk gives, as data -/
theorem dp_mv {K : PySem.W.Frag} {H : Hp} {p : Addr} {m : Mv} (h : MvAt H p m) : Dp K H (.ref p) (mvD m) := by
  refine .tup (SqT.of h) (.cons (.int _) (.cons ?_ .nil))
  cases h2 : m.2 with
  | none => exact .non
  | some x => exact .str _
theorem dp_mvs {K : PySem.W.Frag} {H : Hp} : ∀ {ps : List Addr} {b : List Mv}, Paired (MvAt H) ps b → DpAll K H (ps.map .ref) (b.map mvD)
  | _, _, .nil => .nil
  | _, _, .cons h t => .cons (dp_mv h) (dp_mvs t)
def MvSm (m : Mv) : Prop := (0 ≤ m.1 ∧ m.1 < 40) ∧ ∀ x, m.2 = some x → Lets x ∧ x.length ≤ 8
theorem shw_mv {m : Mv} (h : MvSm m) : Shw 18 1 (mvD m) := by
  refine Shw.tup (n := 8) (k := 0) (m := 2) (fun d hd => ?_) (Nat.le_refl 2)
  rcases List.mem_cons.mp hd with rfl | hd
  · exact (Shw.int h.1.1 h.1.2).up (by decide) (by decide)
  · rw [List.mem_singleton.mp hd]
    cases h2 : m.2 with
    | none => exact Shw.non.up (by decide) (by decide)
    | some x => exact Shw.str (fun c hc => by have := (h.2 x h2).1 c (by simpa [txt] using hc); omega) (by simpa [txt] using (h.2 x h2).2)
theorem behind_sm {rows : List Rw} {s : Int} (Y : Rdy rows s) (h8 : ∀ row ∈ rows, ∀ e ∈ row, ∀ y, e.2.2 = some y → y.length ≤ 8) : ∀ (page : List Nat) (s : Int), ∀ m ∈ behind rows s page, MvSm m := by
  have m12 := Y.most
  intro page
  induction page with
  | nil => intro s m hm; cases hm
  | cons c cs ih =>
    intro s m hm
    unfold behind at hm
    cases h : mvOf (rowOf rows s) c with
    | none => rw [h] at hm; cases hm
    | some m' =>
      rw [h] at hm
      rcases List.mem_cons.mp hm with rfl | hm
      · have h1 := mvOf_mem h
        unfold rowOf at h1
        cases h2 : rows[s.toNat]? with
        | none => rw [h2] at h1; cases h1
        | some row =>
          rw [h2] at h1
          have hr := List.mem_of_getElem? h2
          have g := Y.goal row hr _ h1
          exact ⟨⟨g.1, by have z : m.1 < (rows.length : Int) := g.2; omega⟩, fun x hx => ⟨Y.told row hr _ h1 x hx, h8 row hr _ h1 x hx⟩⟩
      · exact ih _ m hm
/-- repr of a list of two -/
theorem rep_two {K : PySem.W.Frag} {H : Hp} {p : Addr} {u v : V} {d : PyData} {n k : Nat} {Q : VK} (hp : H p = some (.lst [u, v])) (hu : Dp K H u d) (hv : Dp K H v d) (S : Shw n k d) (hn : n ≤ 20000) (hk : k ≤ 10) (nd : d.hasDict = false) (q : Q (.str (PyData.shown (.list [d, d]))) H) : rReprD K [.ref p] H Q := by
  have S2 := Shw.list (n := n) (k := k) (m := 2) (ds := [d, d]) (fun e he => by
    rcases List.mem_cons.mp he with rfl | he
    · exact S
    · rw [List.mem_singleton.mp he]; exact S) (Nat.le_refl 2)
  have := S2.len
  have sz := sizeLine_eq
  exact ⟨p, _, rfl, .lst (SqL.of hp) (.cons hu (.cons hv .nil)), S2.sh, by simp [PyData.hasDict, PyData.hasDictAll, nd], by have := S2.dp; omega, by omega, q⟩
theorem mvs_nd : ∀ b : List Mv, PyData.hasDictAll (b.map mvD) = false
  | [] => rfl
  | (s, none) :: b => by simp [PyData.hasDictAll, mvD, PyData.hasDict, mvs_nd b]
  | (s, some x) :: b => by simp [PyData.hasDictAll, mvD, PyData.hasDict, mvs_nd b]
theorem shw_mvs {b : List Mv} (h : ∀ m ∈ b, MvSm m) (hl : b.length ≤ 60) : Shw 1140 2 (.list (b.map mvD)) := Shw.list (n := 18) (k := 1) (m := 60) (fun d hd => by
  obtain ⟨m, hm, rfl⟩ := List.mem_map.mp hd
  exact shw_mv (h m hm)) (by rw [List.length_map]; exact hl)
/-- what a walk gives, as data -/
def pasD : Option (List (List Nat) × Int) → PyData
  | none => .none
  | some (xs, q) => .tuple [.tuple (xs.map fun x => .str (txt x)), .int q]
theorem dp_pas {K : PySem.W.Frag} {H : Hp} {v : V} : ∀ {o : Option (List (List Nat) × Int)}, PasAt H v o → Dp K H v (pasD o)
  | none, h => by rw [show v = .non from h]; exact .non
  | some (xs, q), ⟨t, p, e, h1, h2⟩ => by
    rw [e]
    exact .tup (SqT.of h1) (.cons (.tup (SqT.of h2) (dp_map (fun x => .str (txt x)) xs)) (.cons (.int _) .nil))
theorem txts_nd : ∀ xs : List (List Nat), PyData.hasDictAll (xs.map fun x => .str (txt x)) = false
  | [] => rfl
  | x :: xs => by simp [PyData.hasDictAll, PyData.hasDict, txts_nd xs]
theorem pas_nd : ∀ o, (pasD o).hasDict = false
  | none => rfl
  | some (xs, q) => by simp [pasD, PyData.hasDict, PyData.hasDictAll, txts_nd xs]
theorem shw_pas {rows : List Rw} {q : Int} {page : List Nat} (Y : Rdy rows q) (h8 : ∀ row ∈ rows, ∀ e ∈ row, ∀ y, e.2.2 = some y → y.length ≤ 8) (hl : page.length ≤ 60) : Shw 1082 2 (pasD (pas rows q page)) := by
  have sm := behind_sm Y h8 page q
  have bl := behind_len rows page q
  unfold pas
  by_cases hc : (behind rows q page).length < page.length
  · rw [if_pos hc]
    exact Shw.non.up (by decide) (by decide)
  · rw [if_neg hc]
    refine Shw.tup (n := 540) (k := 1) (m := 2) (fun d hd => ?_) (Nat.le_refl 2)
    rcases List.mem_cons.mp hd with rfl | hd
    · refine Shw.tup (n := 8) (k := 0) (m := 60) (fun d hd => ?_) (by rw [List.length_map]; exact Nat.le_trans (List.length_filterMap_le _ _) (by omega))
      obtain ⟨x, hx, rfl⟩ := List.mem_map.mp hd
      obtain ⟨m, hm, e⟩ := List.mem_filterMap.mp hx
      have := (sm m hm).2 x e
      exact Shw.str (fun c hc => by have := this.1 c (by simpa [txt] using hc); omega) (by simpa [txt] using this.2)
    · rw [List.mem_singleton.mp hd]
      have hq : 0 ≤ lastS q (behind rows q page) ∧ lastS q (behind rows q page) < 40 := by
        have m12 := Y.most
        rcases List.eq_nil_or_concat (behind rows q page) with h | ⟨b', m, h⟩
        · rw [h]
          exact ⟨Y.st0, by have := Y.st1; show q < 40; omega⟩
        · have := (sm m (by rw [h, List.concat_eq_append]; simp)).1
          rw [h, List.concat_eq_append, lastS_app]
          exact this
      exact (Shw.int hq.1 hq.2).up (by decide) (by decide)
theorem pas_sort {rows : List Rw} (nd : ∀ row ∈ rows, (row.map (·.1)).Nodup) (q : Int) (page : List Nat) : pas (rows.map sortR) q page = pas rows q page := by
  unfold pas
  rw [behind_sort nd]
end SS

set_option maxRecDepth 100000
set_option maxHeartbeats 8000000
set_option pp.maxSteps 1500
namespace SS
open PySem L2 SR TL LamX
section
variable {P : Program} {w : World} {K : PySem.W.Frag} {mg : Str → Option Value} {base : Heap}
/-! ### _law_right -/
abbrev sRight : Stmt := top 45
abbrev nRight : List Str := ["_law_rng_here", "_law_letters_here", "_law_abc", "_law_marks_here", "_law_model", "_law_rows", "_law_made", "_law_line", "_law_paper", "_law_due_here", "_law_spot", "_law_told"]
abbrev psRight : List Str := ["_law_rng_here"]
theorem scRight : FnScope nRight psRight (defScope sRight) := ⟨rfl, rfl, rfl, by decide +kernel, rfl, by decide +kernel, by decide +kernel⟩
structure LawR (P : Program) (w : World) (K : PySem.W.Frag) (mg : Str → Option Value) (base : Heap) (C D W Pt : Addr) : Prop where
  le : Cal P w K mg base "_law_letters" 2 ["_law_rng_here", "_law_many"] spLetters
  ma : Cal P w K mg base "_law_marks" 2 psMarks spMarks
  fo : Cal P w K mg base "_law_format" 4 psFmt spFmt
  an : Cal P w K mg base "_law_any_format" 3 psAny spAny
  dr : Cal P w K mg base "_law_draw" 1 ["_law_rng_here", "_law_many"] spDraw
  wo : Cal P w K mg base "_law_words" 3 psLWd spLWd
  wk : Cal P w K mg base "_law_walked" 1 psLWk spLWk
  du : Cal P w K mg base "_law_due" 2 psLDu spLDu
  stp : CalGn P w K mg base "steps" 4 psStp (spStp C W K)
  stk : ∃ f fd g, GFn P w K mg base 4 f fd psStp (spStp C W K) ∧ mg "steps" = some (.ref f) ∧ PySem.W.keepIn K (.ref f) = true ∧ KBn K fd psStp 0 ["page", "reader"] g gW2
  pas : CalX P w K mg base "passed" 4 psPas (spPas C D W K)
  pak : ∃ f fd g, FnOk P w K mg base (L2.CX P w) 4 f fd psPas (spPas C D W K) ∧ mg "passed" = some (.ref f) ∧ PySem.W.keepIn K (.ref f) = true ∧ KBn K fd psPas 0 ["word", "state", "reader"] g gW3
  ref : CalG P w K mg base "_law_refused" 10 psRef (spRef C Pt)
theorem PasAt.mono {H H' : Hp} {v : V} (e : Same H H') : ∀ {o : Option (List (List Nat) × Int)}, PasAt H v o → PasAt H' v o
  | none, h => h
  | some _, ⟨t, p, e1, h1, h2⟩ => ⟨t, p, e1, e _ _ h1, e _ _ h2⟩
theorem if_any {nx rt bk ct} {σ : L2.St} {H : Hp} {r pl pa pm t : Addr} {a b c d e f : Nat} {ms : List (List Nat)} {rows : List Rw} {ends : List Int} {start : Int} (h0 : σ[0]? = some (some (.ref r))) (h1 : σ[1]? = some (some (.ref pl))) (h2 : σ[2]? = some (some (.ref pa))) (h3 : σ[3]? = some (some (.ref pm))) (hσ : σ.set 4 (some (.ref t)) = σ)
    (PA : Pal [a, b, c] [d, e] ms) (cnd : [a, b, c].Nodup) (hR : H r = some (rngO r)) (hL : H pl = some (.lst ([a, b, c, d, e, f].map ltV))) (hA : H pa = some (.lst ([a, b, c].map ltV))) (hM : H pm = some (.lst (ms.map txtV))) (W0 : WfR [a, b, c] [d, e] ms rows ends start) (Md0 : ModAt H t rows ends start)
    (k : ∀ (t : Addr) (rows : List Rw) (ends : List Int) (start : Int) (H' : Hp), WfR [a, b, c] [d, e] ms rows ends start → Same H H' → ModAt H' t rows ends start → nx (σ.set 4 (some (.ref t))) H') :
    tIfS (tTest (tOp rEq (tCall spDraw [] E0 (tCons (tVar 0) (tCons (tC (V.int 4)) tNil))) (tC (V.int 0))))
      (tAsg (tCall spAny [] E0 (tCons (tVar 0) (tCons (tC (V.int 12)) (tCons (tVar 2) (tCons (tSl (rSlL K) (tVar 1) (tPart (tC (V.int 3))) (tPart (tC (V.int 5)))) (tCons (tVar 3) tNil)))))) (gName 4)) tNext { nx := nx, rt := rt, bk := bk, ct := ct } σ H := by
  refine ⟨_, h0, r, 4, rfl, by decide, by decide, hR, fun dd H1 d0 d1 e1 => ⟨rfl, _, rfl, ite2 (fun hd => ?_) (fun hd => ?_)⟩⟩
  · refine ⟨_, h0, _, h2, _, h1, _, rfl, _, rfl, pl, _, rfl, SqL.of (e1 _ _ hL), fun pt hpt => ?_⟩
    have e3 : Same H1 (upd H1 pt (.lst (cutV ([a, b, c, d, e, f].map ltV) (some 3) (some 5)))) := same_new hpt
    have e13 := e1.trans e3
    exact ⟨_, h3, r, pa, pt, pm, 12, [a, b, c], [d, e], ms, rfl, by decide, by decide, PA, cnd, e13 _ _ hR, e13 _ _ hA, by rw [upd_same]; rfl, e13 _ _ hM, fun t rows ends start H5 W l5 _ e5 Md => k t rows ends start H5 W (e13.trans e5) Md⟩
  · have := k t rows ends start H1 W0 e1 (Md0.mono e1)
    rw [hσ] at this
    exact this
def spRight (Pt : Addr) : Sp := fun vs H Q _ => ∃ (r : Addr), vs = [.ref r] ∧ H r = some (rngO r) ∧ Tabs (tabL Pt) H ∧ ∀ H', ExtN H H' → Tabs (tabL Pt) H' → Q (.bl true) H'
theorem ok_right {f C D W Pt fi e : Addr} {fd fdi : FuncData} (F : Fun K "_law_right" "_law_right" sRight f fd) (B : Bl mg) (I : RdK P w K mg base C fi fdi e) (M : LawR P w K mg base C D W Pt) : FnG P w K mg base 11 f fd ["_law_rng_here"] (spRight Pt) := by
  obtain ⟨g3, kb3⟩ := I.k3
  obtain ⟨fs, fds, sF, sM, sK, sB⟩ := M.stp.ex
  obtain ⟨fk, fdk, gk, kF, kM, kK, kB⟩ := M.stk
  obtain ⟨fp, fdp, gp, pF, pM, pK, pB⟩ := M.pak
  refine okG F scRight (fun vs H Q E h => ?_) (fun cdv A outer s H vs Q E hr hgd h => ?_)
  · obtain ⟨r, rfl, _⟩ := h
    rfl
  · obtain ⟨r, rfl, hR, hTb, k⟩ := h
    have hr4 := hr.mono (by decide : 4 ≤ 10)
    have hr7 := hr.mono (by decide : 7 ≤ 10)
    refine ⟨_, pss_cons (ps_set (i := 1) scRight.nd rfl (.inl rfl) (pe_cal M.le (hr.mono (by decide : 2 ≤ 10)) (pa_cons (pv 0) (pa_cons pe_int pa_nil))))
      (pss_cons (ps_par (i := 2) (j := 3) (by rfl) scRight.nd rfl rfl (by decide) rfl rfl (pa_cons (pe_slice sl_list (pv 1) po_none (po_some pe_int)) (pa_cons (pe_cal M.ma (hr.mono (by decide : 2 ≤ 10)) (pa_cons (pv 0) (pa_cons pe_int pa_nil))) pa_nil)) (by rfl))
      (pss_cons (ps_set (i := 4) scRight.nd rfl (.inl rfl) (pe_cal M.fo (hr.mono (by decide : 4 ≤ 10)) (pa_cons (pv 0) (pa_cons pe_int (pa_cons (pv 2) (pa_cons (pe_slice sl_list (pv 1) (po_some pe_int) (po_some pe_int)) (pa_cons (pv 3) pa_nil)))))))
      (pss_cons (ps_if (pt_cmpR op_eq (pe_cal M.dr (hr.mono (by decide : 1 ≤ 10)) (pa_cons (pv 0) (pa_cons pe_int pa_nil))) pe_int (nomark _))
        (pss_one (ps_set (i := 4) scRight.nd rfl (.inl rfl) (pe_cal M.an (hr.mono (by decide : 3 ≤ 10)) (pa_cons (pv 0) (pa_cons pe_int (pa_cons (pv 2) (pa_cons (pe_slice sl_list (pv 1) (po_some pe_int) (po_some pe_int)) (pa_cons (pv 3) pa_nil)))))))) pss_nil)
      (pss_cons (ps_set (i := 5) scRight.nd rfl (.inl rfl) (pe_ix ix_tup (pv 4) pe_int (fun _ _ => rfl)))
      (pss_cons (ps_set (i := 6) scRight.nd rfl (.inl rfl) (pe_makeN I.mak I.ok (hr.mono (by decide : 8 ≤ 10)) (by rfl) I.mgC kb3 pass0 (pa_cons (pe_lc (own := [("_law_line", 7)]) (g := gName 7) (tt := tYes) (te := tCB rDictD (tCons (tVar 7) tNil)) rfl scRight.nd (pi_list (pv 5)) (blkOk_by (by kernel_rfl)) (fun _ _ _ _ _ => pg_name (i := 7) scRight.nd rfl (.inl rfl)) (fun _ _ _ _ _ => pts_nil) (fun _ _ _ _ _ => pe_callTy call_dictD (by rfl) B.dict (by decide +kernel) (pa_cons (pv 7) pa_nil))) (pa_cons (pe_ix ix_tup (pv 4) pe_int (fun _ _ => rfl)) pa_nil)) (pk_cons (pe_ix ix_tup (pv 4) pe_int (fun _ _ => rfl)) pk_nil)))
      (pss_cons (ps_for PassesOwn.never rfl (pi_list (pe_cal M.wo (hr.mono (by decide : 3 ≤ 10)) (pa_cons (pv 0) (pa_cons (pv 2) (pa_cons (pe_ix ix_list (pv 1) pe_int (fun _ _ => rfl)) pa_nil))))) (pg_name (i := 8) scRight.nd rfl (.inl rfl))
        (pss_cons (ps_set (i := 9) scRight.nd rfl (.inl rfl) (pe_ix ix_tup (pe_cal M.wk (hr.mono (by decide : 1 ≤ 10)) (pa_cons (pv 5) (pa_cons (pe_ix ix_tup (pv 4) pe_int (fun _ _ => rfl)) (pa_cons (pv 8) pa_nil)))) pe_int (fun _ _ => rfl)))
      (pss_cons (ps_if (pt_cmpR op_ne (pe_callB (call_reprD hgd (Nat.lt_of_succ_lt (u66 hr))) (by rfl) B.repr (by decide +kernel) (pa_cons (pe_lst (pa_cons (pe_listG (pgen_call sF hr4 (by rfl) sM sK sB .nil (pa_cons (pv 6) (pa_cons (pv 8) pa_nil))) passG0 noStop0 hr7 (by rfl) B.list (by decide +kernel)) (pa_cons (pe_listG (pgen_callK kF hr4 (by rfl) kM kK kB (pk_cons (pv 8) (pk_cons (pv 6) pk_nil))) passG0 noStop0 hr7 (by rfl) B.list (by decide +kernel)) pa_nil))) pa_nil)) (pe_callB (call_reprD hgd (Nat.lt_of_succ_lt (u66 hr))) (by rfl) B.repr (by decide +kernel) (pa_cons (pe_lst (pa_cons (pv 9) (pa_cons (pv 9) pa_nil))) pa_nil)) (nomark _))
        (pss_one (ps_ret pe_bl)) pss_nil)
      (pss_one (ps_for PassesOwn.never rfl (pi_range1 (by rfl) B.range (pa_cons (pe_callB call_len_seq (by rfl) B.len boot_len (pa_cons (pv 5) pa_nil)) pa_nil)) (pg_name (i := 10) scRight.nd rfl (.inl rfl))
        (pss_cons (ps_set (i := 11) scRight.nd rfl (.inl rfl) (pe_lst (pa_cons (pe_calX (E := E0) M.pas hr4 passG0 (pa_cons (pv 6) (pa_cons (pv 10) (pa_cons (pv 8) pa_nil)))) (pa_cons (pe_callWS (E := fun _ => E0) pF hr4 (by rfl) pM pK pB passGat (pk_cons (pv 8) (pk_cons (pv 10) (pk_cons (pv 6) pk_nil)))) pa_nil))))
      (pss_one (ps_if (pt_cmpR op_ne (pe_callB (call_reprD hgd (Nat.lt_of_succ_lt (u66 hr))) (by rfl) B.repr (by decide +kernel) (pa_cons (pv 11) pa_nil)) (pe_callB (call_reprD hgd (Nat.lt_of_succ_lt (u66 hr))) (by rfl) B.repr (by decide +kernel) (pa_cons (pe_op op_rep (pe_lst (pa_cons (pe_cal M.du (hr.mono (by decide : 2 ≤ 10)) (pa_cons (pv 5) (pa_cons (pv 10) (pa_cons (pv 8) pa_nil)))) pa_nil)) pe_int) pa_nil)) (nomark _))
        (pss_one (ps_ret pe_bl)) pss_nil))))))))
      (pss_one (ps_ret (pe_calG M.ref hr hgd (pa_cons (pv 0) (pa_cons (pv 6) pa_nil))))))))))), ?_⟩
    refine ⟨_, rfl, r, 6, rfl, by decide, hR, fun ll pl H1 hl6 lnd lab hpl e1 h1 => ?_⟩
    obtain ⟨a, b, c, d, e, f', rfl⟩ : ∃ a b c d e f', ll = [a, b, c, d, e, f'] := by
      match ll, hl6 with
      | [a, b, c, d, e, f'], _ => exact ⟨a, b, c, d, e, f', rfl⟩
    refine ⟨_, rfl, _, rfl, pl, _, rfl, SqL.of h1, fun pa hpa => ?_⟩
    have e2 : Same H (upd H1 pa (.lst (cutV ([a, b, c, d, e, f'].map ltV) none (some 3)))) := e1.trans (same_new hpa)
    have hA : (upd H1 pa (.lst (cutV ([a, b, c, d, e, f'].map ltV) none (some 3)))) pa = some (.lst ([a, b, c].map ltV)) := by
      rw [upd_same, show (some (3 : Int)) = some ((3 : Nat) : Int) from rfl, cut_take]
      rfl
    have hL := (same_new (o := .lst (cutV ([a, b, c, d, e, f'].map ltV) none (some 3))) hpa) _ _ h1
    generalize (upd H1 pa (.lst (cutV ([a, b, c, d, e, f'].map ltV) none (some 3)))) = H2 at e2 hA hL
    refine ⟨_, rfl, r, 2, rfl, by decide, e2 _ _ hR, fun ms pm H4 ml mnd mab hpm e4 h4 => ?_⟩
    refine ⟨.ref pa, .ref pm, rfl, ?_⟩
    have PA' : Pal [a, b, c] [d, e] ms := ⟨fun y hy => lab y (List.mem_of_mem_take (i := 3) (show y ∈ [a, b, c, d, e, f'].take 3 from hy)), fun y hy => lab y (List.mem_of_mem_drop (i := 3) (List.mem_of_mem_take (i := 2) (show y ∈ ([a, b, c, d, e, f'].drop 3).take 2 from hy))), mab, by show 3 ≤ 6; decide, by show 2 ≤ 4; decide, by omega⟩
    have cnd : [a, b, c].Nodup := by
      have : [a, b, c, d, e, f'].take 3 = [a, b, c] := rfl
      rw [← this]
      exact lnd.sublist (List.take_sublist 3 _)
    have e04 := e2.trans e4
    have hL4 := e4 _ _ hL
    have hA4 := e4 _ _ hA
    refine ⟨_, rfl, _, rfl, _, rfl, _, rfl, _, rfl, pl, _, rfl, SqL.of hL4, fun pt hpt => ?_⟩
    have e3 : Same H4 (upd H4 pt (.lst (cutV ([a, b, c, d, e, f'].map ltV) (some 3) (some 5)))) := same_new hpt
    have hT : (upd H4 pt (.lst (cutV ([a, b, c, d, e, f'].map ltV) (some 3) (some 5)))) pt = some (.lst ([d, e].map ltV)) := by
      rw [upd_same]
      rfl
    generalize (upd H4 pt (.lst (cutV ([a, b, c, d, e, f'].map ltV) (some 3) (some 5)))) = H3 at e3 hT
    refine ⟨_, rfl, r, pa, pt, pm, 5, [a, b, c], [d, e], ms, rfl, by decide, by decide, PA', cnd, by show 3 ≤ 3; decide, by show 2 ≤ 2; decide, by omega, e3 _ _ (e04 _ _ hR), e3 _ _ hA4, hT, e3 _ _ h4, fun t0 rows0 ends0 start0 H5 W0 l5 e5 Md0 => ?_⟩
    have e35 := e3.trans e5
    refine if_any rfl rfl rfl rfl rfl PA' cnd (e35 _ _ (e04 _ _ hR)) (e35 _ _ hL4) (e35 _ _ hA4) (e35 _ _ h4) W0 Md0 fun t rows ends start H6 W e6 Md => ?_
    have e06 := ((e04.trans e3).trans e5).trans e6
    have hL6 := e6 _ _ (e35 _ _ hL4)
    have hA6 := e6 _ _ (e35 _ _ hA4)
    clear hL4 hA4 hT Md0 W0
    obtain ⟨pr, pe, qs0, m1, m2, m3, m4⟩ := id Md.ex
    have hq0 : qs0.length = rows.length := Paired.length m3
    have h12 := W.most
    have Y := W.rdy PA'
    have Sh := W.short PA'
    refine ⟨_, rfl, t, _, _, _, rfl, rfl, SqT.of m1, rfl, ?_⟩
    refine ⟨_, rfl, pr, rfl, ⟨_, SqL.of m2⟩, fun pN hpN => lc_S (walk_list (K := K) (a := pr) (xs := qs0.map .ref)) hpN (by rw [List.length_map]; omega) (fun i acc H' => ∃ qs : List Addr, acc = qs.map .ref ∧ Paired (RwAt H') qs (rows.take i)) ?_ ⟨[], rfl, .nil⟩ (fun H' e' => e'.seq (SqL.of m2)) ?_ ?_⟩
    · rintro i acc acc' H6 H7 hd ee ⟨qs, q1, q2⟩
      refine ⟨qs, q1, Paired.mono q2 fun a b h => RwAt.nl (fun x o hx no => ee _ _ (fun z => ?_) hx) h⟩
      rw [z, hd] at hx
      cases hx
      exact no _ rfl
    · rintro i v H7 H6 acc Qt Qf hi e6 hd ⟨qs, rfl, hq⟩ ⟨rfl, hv⟩ kt kf
      rw [List.length_map] at hi
      rw [List.getElem?_map] at hv
      obtain ⟨q, hqi, rfl⟩ := Option.map_eq_some_iff.mp hv
      have hir : i < rows.length := by omega
      obtain ⟨q', hq', hrow⟩ := paired_get i m3 (List.getElem?_eq_getElem hir)
      rw [hqi] at hq'
      cases hq'
      obtain ⟨kvs, k1, k2⟩ := rw_iff.mp (hrow.mono e6)
      refine ⟨rfl, _, rfl, q, _, rfl, .inl k1, fun p hp => kt _ _ (same_new hp) ⟨qs ++ [p], by simp, ?_⟩⟩
      rw [List.take_add_one, List.getElem?_eq_getElem hir]
      exact paired_snoc (Paired.mono hq fun a b h => h.mono (same_new hp)) (rw_iff.mpr ⟨kvs, upd_same, Paired.mono k2 fun a b g => ⟨g.1, g.2.imp fun p' z => ⟨z.1, (same_new hp) _ _ z.2⟩⟩⟩)
    rintro H7 acc e7 hd7 ⟨qs, rfl, hq⟩
    rw [List.length_map, hq0, List.take_length] at hq
    refine ⟨_, rfl, t, _, _, _, rfl, rfl, SqT.of (e7 _ _ m1), rfl, _, rfl, t, _, _, _, rfl, rfl, SqT.of (e7 _ _ m1), rfl, rfl, rfl, fun x dx nx ndx nex => ini_mk nx ndx PA' W ⟨qs, .inl hd7, hq⟩ (.inl (.inl (e7 _ _ m4))) fun H8 N => ?_⟩
    have e68 := e7.trans N.2.1
    have D := N.at
    have e08 := e06.trans e68
    have n1 := e68 _ _ m1
    have R8 : RwsL H8 pr rows := ⟨qs0, e68 _ _ m2, Paired.mono m3 fun a b g => g.mono e68⟩
    have hL8 := e68 _ _ hL6
    have hA8 := e68 _ _ hA6
    have n2 := e68 _ _ m2
    clear hd7 hq nx ndx nex N e7 m1 m2 m3 m4 hL6 hA6
    clear e68 hpN Md
    have ShS : ∀ row ∈ rows.map sortR, ∀ e ∈ row, ∀ y, e.2.2 = some y → y.length ≤ 8 := fun row hr e he y hy => by
      obtain ⟨r', h1, h2⟩ := sort_back hr he
      exact Sh r' h1 e h2 y hy
    refine ⟨_, rfl, _, rfl, _, rfl, pl, _, _, _, rfl, rfl, SqL.of hL8, rfl, r, pa, [a, b, c], f', rfl, e08 _ _ hR, hA8, by show 1 ≤ 3; decide, by show 3 ≤ 6; decide, PA'.csl, lab f' (by simp), fun pw ws H9 e9 h9 hwl hws => ?_⟩
    refine ⟨pw, rfl, ⟨_, SqL.of h9⟩, for_it (walk_list (K := K) (a := pw) (xs := ws.map txtV)) (fun i σ H' => Same H9 H' ∧ ∃ (a7 a8 a9 a10 a11 : Option V), σ = [some (.ref r), some (.ref pl), some (.ref pa), some (.ref pm), some (.ref t), some (.ref pr), some (.ref x), a7, a8, a9, a10, a11]) ⟨Same.refl _, _, _, _, _, _, rfl⟩ (fun _ _ H' _ p => SqL.of (p.1 _ _ h9)) ?_ ?_⟩
    · rintro i v σ HA H10 hi ⟨e10, a7, a8, a9, a10, a11, rfl⟩ ⟨rfl, hv⟩
      rw [List.getElem?_map] at hv
      obtain ⟨page, hpg, rfl⟩ := Option.map_eq_some_iff.mp hv
      obtain ⟨hlp, hlen⟩ := hws page (List.mem_of_getElem? hpg)
      have e810 := e9.trans e10
      refine ⟨_, rfl, _, rfl, t, _, _, _, rfl, rfl, SqT.of (e810 _ _ n1), rfl, _, rfl, pr, start, page, rows, rfl, R8.mono e810, Y, by omega, fun tt pf ps2 H11 e11 htt hpf hps => ⟨tt, _, _, _, rfl, rfl, SqT.of htt, rfl, ?_⟩⟩
      have D11 := D.mono (e810.trans e11)
      have bl := behind_len rows page start
      refine ⟨_, rfl, _, rfl, .inl ⟨x, page, rows.map sortR, sortI ends, start, rfl, D11, Y.sort, hlp, by omega, fun ps3 H12 e12 hp3 p3 np3 => ?_⟩⟩
      rw [behind_sort W.nd] at hp3
      have g3 := same_new (o := .lst (ps3.map V.ref)) np3
      refine ⟨_, rfl, _, rfl, rfl, .inl ⟨x, page, rows.map sortR, sortI ends, start, rfl, D11.mono (e12.trans g3), Y.sort, hlp, by omega, fun ps4 H13 e13 hp4 p4 np4 => ?_⟩⟩
      rw [behind_sort W.nd] at hp4
      have g4 := same_new (o := .lst (ps4.map V.ref)) np4
      refine ⟨by show 2 ≤ sizeLine; decide, fun p5 np5 => ?_⟩
      have g5 := same_new (o := .lst [.ref p3, .ref p4]) np5
      have h5 := upd_same (H := upd H13 p4 (.lst (ps4.map V.ref))) (a := p5) (o := .lst [.ref p3, .ref p4])
      have sm := behind_sm Y Sh page start
      have S := shw_mvs sm (by omega)
      have nd : (PyData.list ((behind rows start page).map mvD)).hasDict = false := by rw [PyData.hasDict]; exact mvs_nd _
      have u3 := g5 _ _ (g4 _ _ (e13 _ _ (upd_same (H := H12) (a := p3) (o := .lst (ps3.map V.ref)))))
      have u4 := g5 _ _ (upd_same (H := H13) (a := p4) (o := .lst (ps4.map V.ref)))
      have e1115 := (((e12.trans g3).trans e13).trans g4).trans g5
      have hp3' := Paired.mono hp3 fun a b g => g5 _ _ (g4 _ _ (e13 _ _ (g3 _ _ g)))
      have hp4' := Paired.mono hp4 fun a b g => g5 _ _ (g4 _ _ g)
      dsimp only [tNil]
      generalize upd (upd H13 p4 (.lst (ps4.map V.ref))) p5 (.lst [.ref p3, .ref p4]) = H15 at g5 h5 u3 u4 e1115 hp3' hp4' ⊢
      refine rep_two h5 (.lst (SqL.of u3) (dp_mvs hp3')) (.lst (SqL.of u4) (dp_mvs hp4')) S (by decide) (by decide) nd ?_
      have hpf5 := e1115 _ _ hpf
      have hps5 := Paired.mono hps fun a b g => e1115 _ _ g
      refine ⟨_, rfl, _, rfl, by show 2 ≤ sizeLine; decide, fun p6 np6 => ?_⟩
      have g6 := same_new (o := .lst [.ref pf, .ref pf]) np6
      have h6 := upd_same (H := H15) (a := p6) (o := .lst [.ref pf, .ref pf])
      have e1016 := e11.trans (e1115.trans g6)
      dsimp only [tNil]
      generalize upd H15 p6 (.lst [.ref pf, .ref pf]) = H16 at g6 h6 e1016 ⊢
      have dpf : Dp K H16 (.ref pf) _ := .lst (SqL.of (g6 _ _ hpf5)) (dp_mvs (Paired.mono hps5 fun a b g => g6 _ _ g))
      refine rep_two h6 dpf dpf S (by decide) (by decide) nd ⟨rfl, _, rfl, ?_⟩
      rw [decide_eq_true rfl]
      refine iteF ?_
      clear e12 g3 e13 g4 g5 h5 u3 u4 e1115 hp3' hp4' hpf5 hps5 g6 h6 dpf hps hpf htt hp3 hp4 np3 np4 np5 np6 D11 e11
      clear S nd sm H15 H13 H12 H11 p6 p5
      refine ⟨_, rfl, pr, _, rfl, .inl (SqL.of (e1016 _ _ (e810 _ _ n2))), _, rfl, by omega, by rw [List.length_map, hq0]; omega, ?_⟩
      have e916 := e10.trans e1016
      refine for_it (walk_range (lo := 0) (n := (((qs0.map V.ref).length : Nat) : Int).toNat)) (fun j σ H' => Same H9 H' ∧ ∃ (a9 a10 a11 : Option V), σ = [some (.ref r), some (.ref pl), some (.ref pa), some (.ref pm), some (.ref t), some (.ref pr), some (.ref x), a7, some (txtV page), a9, a10, a11]) ⟨e916, _, _, _, rfl⟩ (fun _ _ _ _ _ => trivial) ?_ ?_
      · rintro j v σ H17 HB hj ⟨e17, a9, a10, a11, rfl⟩ ⟨rfl, rfl⟩
        rw [List.length_map, hq0] at hj
        have hj' : j < rows.length := by omega
        have e817 := e9.trans e17
        have Yj : Rdy rows (0 + (j : Int)) := ⟨Y.most, Y.goal, Y.told, by omega, by omega⟩
        have D17 := D.mono e817
        refine ⟨_, rfl, _, rfl, _, rfl, x, _, _, _, _, _, rfl, D17, .inl ⟨_, page, rfl, rfl, Yj.sort, hlp, by omega, fun v1 H18 e18 hv1 => ?_⟩⟩
        refine ⟨_, rfl, _, rfl, _, rfl, rfl, x, _, _, _, _, _, rfl, D17.mono e18, .inl ⟨_, page, rfl, rfl, Yj.sort, hlp, by omega, fun v2 H19 e19 hv2 => ?_⟩⟩
        rw [pas_sort W.nd] at hv1 hv2
        refine ⟨by show 2 ≤ sizeLine; decide, fun q1 nq1 => ?_⟩
        have g1 := same_new (o := .lst [v1, v2]) nq1
        have h1 := upd_same (H := H19) (a := q1) (o := .lst [v1, v2])
        have S := shw_pas Yj Sh (show page.length ≤ 60 by omega)
        have w1 := (hv1.mono e19).mono g1
        have w2 := hv2.mono g1
        have e1720 := (e18.trans e19).trans g1
        generalize upd H19 q1 (.lst [v1, v2]) = H20 at g1 h1 w1 w2 e1720 ⊢
        refine ⟨_, rfl, ?_⟩
        dsimp only [tNil]
        refine rep_two h1 (dp_pas w1) (dp_pas w2) S (by decide) (by decide) (pas_nd _) ?_
        refine ⟨_, rfl, _, rfl, _, rfl, pr, _, page, rows, rfl, R8.mono (e817.trans e1720), Yj, by omega, fun v3 H21 e21 hv3 => ⟨by show 1 ≤ sizeLine; decide, fun q3 nq3 => ⟨q3, 2, _, rfl, rfl, upd_same, by decide, by decide, by show 1 * 2 ≤ sizeLine; decide, fun q4 nq4 => ?_⟩⟩⟩
        have g3 := same_new (o := .lst [v3]) nq3
        have g4 := same_new (o := .lst (List.replicate (2 : Int).toNat [v3]).flatten) nq4
        have h4 : (upd (upd H21 q3 (.lst [v3])) q4 (.lst (List.replicate (2 : Int).toNat [v3]).flatten)) q4 = some (.lst [v3, v3]) := by rw [upd_same]; rfl
        have w3 := (hv3.mono g3).mono g4
        have e1722 := ((e1720.trans e21).trans g3).trans g4
        dsimp only [tNil]
        generalize upd (upd H21 q3 (.lst [v3])) q4 (.lst (List.replicate (2 : Int).toNat [v3]).flatten) = H22 at g4 h4 w3 e1722 ⊢
        refine rep_two h4 (dp_pas w3) (dp_pas w3) S (by decide) (by decide) (pas_nd _) ⟨rfl, _, rfl, ?_⟩
        rw [decide_eq_true rfl]
        exact iteF ⟨e17.trans e1722, _, _, _, rfl⟩
      · rintro σ H17 ⟨e17, a9, a10, a11, rfl⟩
        exact ⟨e17, _, _, _, _, _, rfl⟩
    · rintro σ H10 ⟨e10, a7, a8, a9, a10, a11, rfl⟩
      have e810 := e9.trans e10
      exact ⟨_, rfl, _, rfl, r, x, _, _, _, rfl, (e08.trans e810) _ _ hR, D.mono e810, Y.sort, hTb.ext (e08.trans e810), fun H' e' T' => k H' ((same_extN (e08.trans e810)).trans e') T'⟩
/-! ### law -/
abbrev sLaw : Stmt := top 46
abbrev nLaw : List Str := ["_law_script", "_law_k"]
abbrev psLaw : List Str := ["_law_script"]
theorem scLaw : FnScope nLaw psLaw (defScope sLaw) := ⟨rfl, rfl, rfl, by decide +kernel, rfl, by decide +kernel, by decide +kernel⟩
theorem SqL.extN {H H' : Hp} {a : Addr} {xs : List V} (e : ExtN H H') (h : SqL K H a xs) : SqL K H' a xs := by
  rcases h with (h | ⟨o, h⟩) | h
  · exact .inl (.inl (e _ _ h fun _ => nofun))
  · exact .inl (.inr ⟨o, e _ _ h fun _ => nofun⟩)
  · exact .inr h
def spLaw (K : PySem.W.Frag) (Pt : Addr) : Sp := fun vs H Q _ => ∃ (a : Addr) (ns : List Int), vs = [.ref a] ∧ SqL K H a (ns.map V.int) ∧ ns.length ≤ 63 ∧ Tabs (tabL Pt) H ∧ ∀ H', Q (.bl true) H'
theorem ok_law {f Pt : Addr} {fd : FuncData} (F : Fun K "law" "law" sLaw f fd) (B : Bl mg) (Rn : Cal P w K mg base "_law_rng" 1 ["_law_script", "_law_k"] (spRng K)) (Ri : CalG P w K mg base "_law_right" 11 ["_law_rng_here"] (spRight Pt)) : FnG P w K mg base 12 f fd ["_law_script"] (spLaw K Pt) := by
  refine okG F scLaw (fun vs H Q E h => ?_) (fun cdv A outer s H vs Q E hr hgd h => ?_)
  · obtain ⟨a, ns, rfl, _⟩ := h
    rfl
  · obtain ⟨a, ns, rfl, hS, hl, hT, k⟩ := h
    have hr1 := hr.mono (by decide : 1 ≤ 11)
    refine ⟨_, pss_one (ps_ret (pe_callB (cr_all rfl) (by rfl) B.all (by decide +kernel) (pa_cons (pe_lc (own := [("_law_k", 1)]) (g := gName 1) (tt := tYes) (te := tCall (spRight Pt) [] E0 (tCons (tCall (spRng K) [] E0 (tCons (tVar 0) (tCons (tVar 1) tNil))) tNil)) rfl scLaw.nd
      (pi_range1 (by rfl) B.range (pa_cons (pe_callB (call_max2 rfl) (by rfl) B.max (by decide +kernel) (pa_cons pe_int (pa_cons (pe_callB (call_min2 rfl) (by rfl) B.min (by decide +kernel) (pa_cons (pe_callB call_len_seq (by rfl) B.len boot_len (pa_cons (pv 0) pa_nil)) (pa_cons pe_int pa_nil))) pa_nil))) pa_nil)) (blkOk_by (by kernel_rfl))
      (fun _ _ _ _ _ => pg_name (i := 1) scLaw.nd rfl (.inl rfl)) (fun _ _ _ _ _ => pts_nil) (fun _ _ _ _ _ => pe_calG Ri hr hgd (pa_cons (pe_cal Rn hr1 (pa_cons (pv 0) (pa_cons (pv 1) pa_nil))) pa_nil))) pa_nil))), ?_⟩
    refine ⟨_, rfl, a, _, rfl, .inl hS, _, _, rfl, _, _, rfl, ?_⟩
    have hb : ∀ n : Int, 0 ≤ n → ∃ m : Nat, (if (if (4 : Int) < n then 4 else n) > 1 then (if (4 : Int) < n then 4 else n) else 1) = (m : Int) ∧ m ≤ 4 := fun n hn => by
      by_cases h5 : (4 : Int) < n
      · exact ⟨4, by simp [h5], by decide⟩
      · by_cases h1 : n > 1
        · exact ⟨n.toNat, by simp [h5, h1]; omega, by omega⟩
        · exact ⟨1, by simp [h5, h1], by decide⟩
    obtain ⟨m, em, hm⟩ := hb ((ns.map V.int).length : Nat) (by omega)
    rw [em]
    have sz := sizeLine_eq
    refine ⟨_, rfl, by omega, by omega, fun D hD => lc_it (walk_range (lo := 0) (n := (m : Int).toNat)) (fun i H' => ExtN H H' ∧ Tabs (tabL Pt) H' ∧ H' D = some (.lst ((List.replicate i true).map V.bl))) ⟨same_extN (same_new hD), hT.ext (same_new hD), upd_same⟩ (fun _ _ _ _ => trivial) ?_ ?_⟩
    · rintro i v H3 H3' hi ⟨e3, T3, hd⟩ ⟨rfl, rfl⟩
      refine ⟨rfl, _, rfl, _, rfl, a, _, ns, rfl, SqL.extN e3 hS, by omega, by omega, fun p H4 hp e4 h4 => ⟨p, rfl, h4, T3.ext e4, fun H5 e5 T5 => ?_⟩⟩
      have hd5 := e5 _ _ (e4 _ _ hd) fun _ => nofun
      refine ⟨_, hd5, by rw [List.length_map, List.length_replicate]; omega, extN_put (e3.trans ((same_extN e4).trans e5)) hD, tabs_put hd5 T5, ?_⟩
      rw [upd_same, List.replicate_succ', List.map_append]
      rfl
    · rintro H1 ⟨e1, T1, hd⟩
      refine ⟨D, _, rfl, SqL.of hd, ?_⟩
      rw [all_true]
      exact k _
end
end SS

set_option maxRecDepth 100000
set_option maxHeartbeats 4000000
namespace SS
open PySem L2 SR
/-! ### what the top has written -/
def GF (K : PySem.W.Frag) (x : Str) (st : Stmt) : Prop := ∃ (f : Addr) (oc : Value) (od an : Option Addr) (sl : Array (Option Value)) (kV dc pm cd ct : Value), PySem.W.nsIn K mainGlobals x = some (some (.ref f)) ∧
  K.lookup f = some ⟨oc, od, .func (PySem.W.fnOf x x (defArgs st) (defBody st) (defScope st) .none kV dc pm an cd ct), sl⟩ ∧ PySem.W.codeIn K cd x = true ∧ PySem.W.keepIn K (.ref f) = true
theorem gf_mk {K : PySem.W.Frag} {x : Str} {st : Stmt} {f : Addr} {oc : Value} {od an : Option Addr} {sl : Array (Option Value)} {kV dc pm cd ct : Value} (a : PySem.W.nsIn K mainGlobals x = some (some (.ref f)))
    (l : K.lookup f = some ⟨oc, od, .func (PySem.W.fnOf x x (defArgs st) (defBody st) (defScope st) .none kV dc pm an cd ct), sl⟩) (c : PySem.W.codeIn K cd x = true) (k : PySem.W.keepIn K (.ref f) = true) : GF K x st := ⟨f, oc, od, an, sl, kV, dc, pm, cd, ct, a, l, c, k⟩
def ME (K : PySem.W.Frag) (C : Addr) (x qual : Str) (st : Stmt) : Prop := ∃ (f : Addr) (oc : Value) (od an : Option Addr) (sl : Array (Option Value)) (kV dc pm cd ct : Value), PySem.W.findIn K (.ref C) x = some (some (.ref f)) ∧ PySem.W.isFn K (.ref f) = true ∧
  K.lookup f = some ⟨oc, od, .func (PySem.W.fnOf x qual (defArgs st) (defBody st) (defScope st) .none kV dc pm an cd ct), sl⟩ ∧ PySem.W.codeIn K cd qual = true ∧ PySem.W.keepIn K (.ref f) = true
theorem me_mk {K : PySem.W.Frag} {C : Addr} {x qual : Str} {st : Stmt} {f : Addr} {oc : Value} {od an : Option Addr} {sl : Array (Option Value)} {kV dc pm cd ct : Value} (a : PySem.W.findIn K (.ref C) x = some (some (.ref f))) (i : PySem.W.isFn K (.ref f) = true)
    (l : K.lookup f = some ⟨oc, od, .func (PySem.W.fnOf x qual (defArgs st) (defBody st) (defScope st) .none kV dc pm an cd ct), sl⟩) (c : PySem.W.codeIn K cd qual = true) (k : PySem.W.keepIn K (.ref f) = true) : ME K C x qual st := ⟨f, oc, od, an, sl, kV, dc, pm, cd, ct, a, i, l, c, k⟩
/-- a method with one default, an object -/
def MD (K : PySem.W.Frag) (C : Addr) (x qual : Str) (st : Stmt) : Prop := ∃ (f T e : Addr) (oc : Value) (od an : Option Addr) (sl : Array (Option Value)) (kV dc pm cd ct : Value) (o : Obj) (n : Nat), PySem.W.findIn K (.ref C) x = some (some (.ref f)) ∧ PySem.W.isFn K (.ref f) = true ∧
  K.lookup f = some ⟨oc, od, .func (PySem.W.fnOf x qual (defArgs st) (defBody st) (defScope st) (.ref T) kV dc pm an cd ct), sl⟩ ∧ PySem.W.codeIn K cd qual = true ∧ PySem.W.keepIn K (.ref f) = true ∧ K.lookup T = some o ∧ o.data = .seq #[.ref e] n
theorem md_mk {K : PySem.W.Frag} {C : Addr} {x qual : Str} {st : Stmt} {f T e : Addr} {oc : Value} {od an : Option Addr} {sl : Array (Option Value)} {kV dc pm cd ct : Value} {o : Obj} {n : Nat} (a : PySem.W.findIn K (.ref C) x = some (some (.ref f))) (i : PySem.W.isFn K (.ref f) = true)
    (l : K.lookup f = some ⟨oc, od, .func (PySem.W.fnOf x qual (defArgs st) (defBody st) (defScope st) (.ref T) kV dc pm an cd ct), sl⟩) (c : PySem.W.codeIn K cd qual = true) (k : PySem.W.keepIn K (.ref f) = true) (t : K.lookup T = some o) (d : o.data = .seq #[.ref e] n) : MD K C x qual st := ⟨f, T, e, oc, od, an, sl, kV, dc, pm, cd, ct, o, n, a, i, l, c, k, t, d⟩
theorem MD.fun {K : PySem.W.Frag} {C : Addr} {x qual : Str} {st : Stmt} (m : MD K C x qual st) : ∃ (f : Addr) (fd : FuncData) (e : Addr), PySem.W.findIn K (.ref C) x = some (some (.ref f)) ∧ PySem.W.isFn K (.ref f) = true ∧ FunD K x qual (defArgs st) (defBody st) (defScope st) [.ref e] [] f fd := by
  obtain ⟨f, T, e, oc, od, an, sl, kV, dc, pm, cd, ct, o, n, a, i, l, c, k, t, d⟩ := m
  exact ⟨f, _, e, a, i, ⟨⟨oc, od, .ref T, kV, dc, pm, an, cd, ct, sl, rfl, l, c, .inr ⟨by simp, T, o, [.ref e], n, rfl, t, d, .cons rfl .nil⟩, .inl rfl⟩, k⟩⟩
def PR (K : PySem.W.Frag) (C : Addr) (x qual : Str) (st : Stmt) : Prop := ∃ (p f : Addr) (rest : List Value) (oc : Value) (od an : Option Addr) (sl : Array (Option Value)) (kV dc pm cd ct : Value), PySem.W.findIn K (.ref C) x = some (some (.ref p)) ∧
  PySem.W.specialIn K (.ref p) "__get__" = some (some (.builtin "property.__get__")) ∧ PySem.W.takesIn K (.ref p) = some true ∧ PySem.W.recIn K p "property" = some (.ref f :: rest) ∧
  K.lookup f = some ⟨oc, od, .func (PySem.W.fnOf x qual (defArgs st) (defBody st) (defScope st) .none kV dc pm an cd ct), sl⟩ ∧ PySem.W.codeIn K cd qual = true ∧ PySem.W.keepIn K (.ref f) = true
theorem pr_mk {K : PySem.W.Frag} {C : Addr} {x qual : Str} {st : Stmt} {p f : Addr} {rest : List Value} {oc : Value} {od an : Option Addr} {sl : Array (Option Value)} {kV dc pm cd ct : Value} (a : PySem.W.findIn K (.ref C) x = some (some (.ref p)))
    (g : PySem.W.specialIn K (.ref p) "__get__" = some (some (.builtin "property.__get__"))) (t : PySem.W.takesIn K (.ref p) = some true) (r : PySem.W.recIn K p "property" = some (.ref f :: rest))
    (l : K.lookup f = some ⟨oc, od, .func (PySem.W.fnOf x qual (defArgs st) (defBody st) (defScope st) .none kV dc pm an cd ct), sl⟩) (c : PySem.W.codeIn K cd qual = true) (k : PySem.W.keepIn K (.ref f) = true) : PR K C x qual st := ⟨p, f, rest, oc, od, an, sl, kV, dc, pm, cd, ct, a, g, t, r, l, c, k⟩
def CM (K : PySem.W.Frag) (C : Addr) (x qual : Str) (st : Stmt) : Prop := ∃ (p f : Addr) (rest : List Value) (oc : Value) (od an : Option Addr) (sl : Array (Option Value)) (kV dc pm cd ct : Value), PySem.W.findCls K (.ref C) (.type "type") x = some (.get (.builtin "classmethod.__get__") (.ref p) .none (.ref C)) ∧
  PySem.W.recIn K p "classmethod" = some (.ref f :: rest) ∧ PySem.W.fnIn K f = true ∧
  K.lookup f = some ⟨oc, od, .func (PySem.W.fnOf x qual (defArgs st) (defBody st) (defScope st) .none kV dc pm an cd ct), sl⟩ ∧ PySem.W.codeIn K cd qual = true ∧ PySem.W.keepIn K (.ref f) = true
theorem cm_mk {K : PySem.W.Frag} {C : Addr} {x qual : Str} {st : Stmt} {p f : Addr} {rest : List Value} {oc : Value} {od an : Option Addr} {sl : Array (Option Value)} {kV dc pm cd ct : Value} (a : PySem.W.findCls K (.ref C) (.type "type") x = some (.get (.builtin "classmethod.__get__") (.ref p) .none (.ref C)))
    (r : PySem.W.recIn K p "classmethod" = some (.ref f :: rest)) (n : PySem.W.fnIn K f = true)
    (l : K.lookup f = some ⟨oc, od, .func (PySem.W.fnOf x qual (defArgs st) (defBody st) (defScope st) .none kV dc pm an cd ct), sl⟩) (c : PySem.W.codeIn K cd qual = true) (k : PySem.W.keepIn K (.ref f) = true) : CM K C x qual st := ⟨p, f, rest, oc, od, an, sl, kV, dc, pm, cd, ct, a, r, n, l, c, k⟩
def CS (K : PySem.W.Frag) (x : Str) (z : V) : Prop := ∃ v, PySem.W.nsIn K mainGlobals x = some (some v) ∧ RelV z v
theorem cs_mk {K : PySem.W.Frag} {x : Str} {z : V} {v : Value} (a : PySem.W.nsIn K mainGlobals x = some (some v)) (r : RelV z v) : CS K x z := ⟨v, a, r⟩
def CV (K : PySem.W.Frag) (C : Addr) (x : Str) (z : V) : Prop := ∃ u, PySem.W.findCls K (.ref C) (.type "type") x = some (.val u) ∧ RelV z u
theorem cv_mk {K : PySem.W.Frag} {C : Addr} {x : Str} {z : V} {u : Value} (a : PySem.W.findCls K (.ref C) (.type "type") x = some (.val u)) (r : RelV z u) : CV K C x z := ⟨u, a, r⟩
structure CL (K : PySem.W.Frag) (C : Addr) : Prop where
  pg : PySem.W.plainGet K C Str.empty = true
  hd : PySem.W.hasDictIn K C = true
  po : PySem.W.plainOver K C = true
  sa : PySem.W.findIn K (.ref C) "__setattr__" = some (some (.builtin "object.__setattr__"))
  ma : PySem.W.makesIn K C = true
  kc : PySem.W.keepIn K (.ref C) = true
structure TY (K : PySem.W.Frag) (C : Addr) : Prop where
  cls : PySem.W.findIn K (.ref C) "__class__" = some (some (.builtin "object.__class__"))
  getc : PySem.W.specialIn K (.builtin "object.__class__") "__get__" = some (some (.builtin "getset_descriptor.__get__"))
  tak : PySem.W.takesIn K (.builtin "object.__class__") = some true
  mro : PySem.W.mroIn K C (.type "object") = some true
  ne : PySem.W.findIn K (.ref C) "__ne__" = some (some (.builtin "object.__ne__"))
  sub : PySem.W.subIn K (.ref C) (.type "object") = some true
  ic : PySem.W.isClsIn K C = true
  ty : PySem.W.typeIn K (.ref C) = some (.type "type")
  rd : PySem.W.readsIn K C (.type "type") = true
  ga : PySem.W.specialIn K (.ref C) "__getattribute__" = some (some (.builtin "type.__getattribute__"))
structure FR (K : PySem.W.Frag) : Prop where
  len : PySem.W.nsIn K mainGlobals "len" = some none
  range : PySem.W.nsIn K mainGlobals "range" = some none
  int : PySem.W.nsIn K mainGlobals "int" = some none
  list : PySem.W.nsIn K mainGlobals "list" = some none
  dict : PySem.W.nsIn K mainGlobals "dict" = some none
  tuple : PySem.W.nsIn K mainGlobals "tuple" = some none
  set : PySem.W.nsIn K mainGlobals "set" = some none
  sorted : PySem.W.nsIn K mainGlobals "sorted" = some none
  all : PySem.W.nsIn K mainGlobals "all" = some none
  any : PySem.W.nsIn K mainGlobals "any" = some none
  max : PySem.W.nsIn K mainGlobals "max" = some none
  min : PySem.W.nsIn K mainGlobals "min" = some none
  abs : PySem.W.nsIn K mainGlobals "abs" = some none
  divmod : PySem.W.nsIn K mainGlobals "divmod" = some none
  repr : PySem.W.nsIn K mainGlobals "repr" = some none
  isinstance : PySem.W.nsIn K mainGlobals "isinstance" = some none
  enumerate : PySem.W.nsIn K mainGlobals "enumerate" = some none
  str : PySem.W.nsIn K mainGlobals "str" = some none
  bool : PySem.W.nsIn K mainGlobals "bool" = some none
theorem FR.bl {K : PySem.W.Frag} {h : Heap} {mg : Str → Option Value} (fr : FR K) (X : K.In h) (G : h.Ns mainGlobals mg) : Bl mg := ⟨PySem.W.mg_none_of X G fr.len, PySem.W.mg_none_of X G fr.range, PySem.W.mg_none_of X G fr.int, PySem.W.mg_none_of X G fr.list, PySem.W.mg_none_of X G fr.dict, PySem.W.mg_none_of X G fr.tuple, PySem.W.mg_none_of X G fr.set, PySem.W.mg_none_of X G fr.sorted, PySem.W.mg_none_of X G fr.all, PySem.W.mg_none_of X G fr.any, PySem.W.mg_none_of X G fr.max, PySem.W.mg_none_of X G fr.min, PySem.W.mg_none_of X G fr.abs, PySem.W.mg_none_of X G fr.divmod, PySem.W.mg_none_of X G fr.repr, PySem.W.mg_none_of X G fr.isinstance, PySem.W.mg_none_of X G fr.enumerate, PySem.W.mg_none_of X G fr.str, PySem.W.mg_none_of X G fr.bool⟩
theorem GF.cal {P : Program} {w : World} {K : PySem.W.Frag} {h : Heap} {mg : Str → Option Value} {base : Heap} {x : Str} {st : Stmt} {k : Nat} {ps : List Str} {sp : Sp} (g : GF K x st) (X : K.In h) (G : h.Ns mainGlobals mg)
    (hb : ∀ (kV doc pm : Value) (an : Option Addr) (cdv ct : Value) (us : List Value), us.length = ps.length → bindArgs (PySem.W.fnOf x x (defArgs st) (defBody st) (defScope st) .none kV doc pm an cdv ct) ⟨us, []⟩ = pure (ps.zip us))
    (ok : ∀ f fd, Fun K x x st f fd → FnOk P w K mg base CX0 k f fd ps sp) : Cal P w K mg base x k ps sp := by
  obtain ⟨f, oc, od, an, sl, kV, dc, pm, cd, ct, a, l, c, kp⟩ := g
  have F := fun_mk (st := st) l c kp
  exact ⟨⟨f, _, ok f _ F, PySem.W.mg_of X G a, kp, F.binds hb⟩⟩
theorem GF.calG {P : Program} {w : World} {K : PySem.W.Frag} {h : Heap} {mg : Str → Option Value} {base : Heap} {x : Str} {st : Stmt} {k : Nat} {ps : List Str} {sp : Sp} (g : GF K x st) (X : K.In h) (G : h.Ns mainGlobals mg)
    (hb : ∀ (kV doc pm : Value) (an : Option Addr) (cdv ct : Value) (us : List Value), us.length = ps.length → bindArgs (PySem.W.fnOf x x (defArgs st) (defBody st) (defScope st) .none kV doc pm an cdv ct) ⟨us, []⟩ = pure (ps.zip us))
    (ok : ∀ f fd, Fun K x x st f fd → FnG P w K mg base k f fd ps sp) : CalG P w K mg base x k ps sp := by
  obtain ⟨f, oc, od, an, sl, kV, dc, pm, cd, ct, a, l, c, kp⟩ := g
  have F := fun_mk (st := st) l c kp
  exact ⟨⟨f, _, ok f _ F, PySem.W.mg_of X G a, kp, F.binds hb⟩⟩
theorem GF.fun {K : PySem.W.Frag} {h : Heap} {mg : Str → Option Value} {x : Str} {st : Stmt} (g : GF K x st) (X : K.In h) (G : h.Ns mainGlobals mg) : ∃ f fd, Fun K x x st f fd ∧ mg x = some (.ref f) ∧ PySem.W.keepIn K (.ref f) = true := by
  obtain ⟨f, oc, od, an, sl, kV, dc, pm, cd, ct, a, l, c, kp⟩ := g
  exact ⟨f, _, fun_mk (st := st) l c kp, PySem.W.mg_of X G a, kp⟩
theorem ME.fun {K : PySem.W.Frag} {C : Addr} {x qual : Str} {st : Stmt} (g : ME K C x qual st) : ∃ f fd, Fun K x qual st f fd ∧ PySem.W.findIn K (.ref C) x = some (some (.ref f)) ∧ PySem.W.isFn K (.ref f) = true ∧ PySem.W.keepIn K (.ref f) = true := by
  obtain ⟨f, oc, od, an, sl, kV, dc, pm, cd, ct, a, i, l, c, kp⟩ := g
  exact ⟨f, _, fun_mk (st := st) l c kp, a, i, kp⟩
theorem PR.fun {K : PySem.W.Frag} {C : Addr} {x qual : Str} {st : Stmt} (g : PR K C x qual st) : ∃ p f fd, Fun K x qual st f fd ∧ PropOf K C x p f := by
  obtain ⟨p, f, rest, oc, od, an, sl, kV, dc, pm, cd, ct, a, g, t, r, l, c, kp⟩ := g
  exact ⟨p, f, _, fun_mk (st := st) l c kp, ⟨a, g, t, ⟨rest, r⟩⟩⟩
theorem CS.at {K : PySem.W.Frag} {h : Heap} {mg : Str → Option Value} {x : Str} {z : V} (c : CS K x z) (X : K.In h) (G : h.Ns mainGlobals mg) : ∃ v, mg x = some v ∧ RelV z v := by
  obtain ⟨v, a, r⟩ := c
  exact ⟨v, PySem.W.mg_of X G a, r⟩
end SS

set_option maxRecDepth 100000
set_option maxHeartbeats 4000000
/-! the head of a law by one kernel run: what its walk leans on is read off the heap by a Hook; nothing of the top is written out -/
namespace Hz
open PySem PySem.W PySem.Calls PyProof.Rows He5
/-! ### the part of the heap that is looked at -/
def refsZ (o : Obj) : List Addr := match o.data with
  | .dict es _ => es.toList.flatMap fun e => He.refV e.val
  | .func fd => He.refV fd.code ++ (He.refV fd.defaults ++ He.refV fd.kwdefaults)
  | .cls cd => [cd.ns]
  | .seq its _ => its.toList.flatMap He.refV
  | .fields vs => (match o.cls with
    | .type n => if n == "code" then [] else vs.toList.flatMap He.refV
    | _ => [])
  | _ => []
def nx (g : Addr → Option Obj) (as : List Addr) : List Addr := as.flatMap fun a => match g a with
  | some o => refsZ o
  | none => []
def asZ (g : Addr → Option Obj) : List Addr :=
  mainGlobals :: cStatics :: (nx g [mainGlobals] ++ (nx g (nx g [mainGlobals]) ++ (nx g (nx g (nx g [mainGlobals])) ++ (nx g (nx g (nx g (nx g [mainGlobals]))) ++ nx g (nx g (nx g (nx g (nx g [mainGlobals]))))))))
/-! ### the Hook -/
def obsZ (fs : List (Frag → Bool)) (fn : List DefA) (K : Frag) : He.AlD := ((fs.all fun f => f K) && fn.all fun d => d.ok K, fn.map fun d => fnA K (d.at_ K))
def valZ (fn : List DefA) : He.AlD := (true, fn.map DefA.val)
def SaysZ (fs : List (Frag → Bool)) (fn : List DefA) (K : Frag) : Prop := obsZ fs fn K = valZ fn
def hookZ (fs : List (Frag → Bool)) (fn : List DefA) : PySem.W.Hook where
  α := He.AlD
  obs := fun s => obsZ fs fn (He.frG s.heap.get? (asZ s.heap.get?))
  val := fun _ => valZ fn
  says := fun _ h => ∃ K : Frag, K.In h ∧ SaysZ fs fn K
  of := fun _ _ e => ⟨_, He.frG_in, e⟩
  keeps := fun _ _ _ ⟨K, hK, c⟩ k => ⟨K, Frag.In.keeps hK k, c⟩
def obZ (fs : List (Frag → Bool)) (fn : List DefA) (s : SharedT) : He.AlD := obsZ fs fn (He.frG (HandSHeadRun.getT s) (asZ (HandSHeadRun.getT s)))
theorem obZ_eq {fs : List (Frag → Bool)} {fn : List DefA} (s : SharedT) : obZ fs fn s = (hookZ fs fn).obs s.abs := by
  have e : HandSHeadRun.getT s = s.abs.heap.get? := funext (HandSHeadRun.getT_eq s)
  unfold obZ
  rw [e] <;> rfl
section
variable {fs : List (Frag → Bool)} {fn : List DefA} {K : Frag}
theorem SaysZ.fact (c : SaysZ fs fn K) (i : Nat) {f : Frag → Bool} (h : fs[i]? = some f := by rfl) : f K = true := by
  have c1 := (He.ba (show ((fs.all fun f => f K) && fn.all fun d => d.ok K) = true from congrArg (fun z : He.AlD => z.1) c)).1
  exact List.all_eq_true.mp c1 f (List.mem_of_getElem? h)
theorem SaysZ.def_ (c : SaysZ fs fn K) (i : Nat) {d : DefA} (h : fn[i]? = some d := by rfl) : ∃ fd, L2.FunD K d.name d.qual d.params d.body d.scope (d.dvs K) (d.kws K) (d.at_ K) fd := by
  have c2 := (He.ba (show ((fs.all fun f => f K) && fn.all fun d => d.ok K) = true from congrArg (fun z : He.AlD => z.1) c)).2
  have e : fn.map (fun d => fnA K (d.at_ K)) = fn.map DefA.val := congrArg (fun z : He.AlD => z.2) c
  have e2 : (fn.map fun d => fnA K (d.at_ K))[i]? = (fn.map DefA.val)[i]? := by rw [e]
  rw [List.getElem?_map, List.getElem?_map, h] at e2
  exact DefA.funD (Option.some.inj e2) (List.all_eq_true.mp c2 d (List.mem_of_getElem? h))
end
end Hz
namespace SS
open PySem L2 SR He5
/-! ### the facts of EN, read -/
abbrev ga := He.ga
abbrev ma := He.ma
def pf (K : PySem.W.Frag) (C : Addr) (m : Str) : Addr := match PySem.W.recIn K (He.ma K C m) "property" with
  | some (.ref f :: _) => f
  | _ => 0
def dG (x : Str) (st : Stmt) : DefA := ⟨fun K => He.ga K x, x, x, defArgs st, defBody st, defScope st, [], []⟩
def dM (C x qual : Str) (st : Stmt) : DefA := ⟨fun K => He.ma K (He.ga K C) x, x, qual, defArgs st, defBody st, defScope st, [], []⟩
def dP (C x qual : Str) (st : Stmt) : DefA := ⟨fun K => pf K (He.ga K C) x, x, qual, defArgs st, defBody st, defScope st, [], []⟩
def dQ (C x qual : Str) (st : Stmt) : DefA := ⟨fun K => He5.wf K (He.ga K C) "classmethod" x, x, qual, defArgs st, defBody st, defScope st, [], []⟩
/-- the first default of the def at f -/
def dfl0 (f : PySem.W.Frag → Addr) (K : PySem.W.Frag) : Addr := match K.lookup (f K) with
  | some ⟨_, _, .func fd, _⟩ => (match fd.defaults with
    | .ref T => (match K.lookup T with
      | some ⟨_, _, .seq its _, _⟩ => (match its.toList with
        | .ref a :: _ => a
        | _ => 0)
      | _ => 0)
    | _ => 0)
  | _ => 0
/-- a method with one default, an object; and with keywords -/
def dD (C x qual : Str) (st : Stmt) (kw : List (Str × He.Dv) := []) : DefA := ⟨fun K => He.ma K (He.ga K C) x, x, qual, defArgs st, defBody st, defScope st, [.adr (dfl0 fun K => He.ma K (He.ga K C) x)], kw⟩
def bFree (x : Str) (K : PySem.W.Frag) : Bool := He.eqO (PySem.W.nsIn K mainGlobals x) (some none)
def bGlo (x : Str) (K : PySem.W.Frag) : Bool := He.eqO (PySem.W.nsIn K mainGlobals x) (some (some (.ref (He.ga K x))))
def bCL (x : Str) (K : PySem.W.Frag) : Bool := (He.Fa.cls x).ok K && (PySem.W.makesIn K (He.ga K x) && PySem.W.keepIn K (.ref (He.ga K x)))
def bNo (x f : Str) (K : PySem.W.Frag) : Bool := He.eqO (PySem.W.findIn K (.ref (He.ga K x)) f) (some none)
def bRd (x : Str) (K : PySem.W.Frag) : Bool := PySem.W.readsIn K (He.ga K x) (.type "type")
def bGa (x : Str) (K : PySem.W.Frag) : Bool := He.eqO (PySem.W.specialIn K (.ref (He.ga K x)) "__getattribute__") (some (some (.builtin "type.__getattribute__")))
def bTY (x : Str) (K : PySem.W.Frag) : Bool :=
  He.eqO (PySem.W.findIn K (.ref (He.ga K x)) "__class__") (some (some (.builtin "object.__class__"))) && (
  He.eqO (PySem.W.specialIn K (.builtin "object.__class__") "__get__") (some (some (.builtin "getset_descriptor.__get__"))) && (
  decide (PySem.W.takesIn K (.builtin "object.__class__") = some true) && (
  decide (PySem.W.mroIn K (He.ga K x) (.type "object") = some true) && (
  He.eqO (PySem.W.findIn K (.ref (He.ga K x)) "__ne__") (some (some (.builtin "object.__ne__"))) && (
  decide (PySem.W.subIn K (.ref (He.ga K x)) (.type "object") = some true) && (
  PySem.W.isClsIn K (He.ga K x) && (
  decide (PySem.W.typeIn K (.ref (He.ga K x)) = some (.type "type")) && (
  bRd x K && bGa x K))))))))
def bMe (x m : Str) (K : PySem.W.Frag) : Bool := He.eqO (PySem.W.findIn K (.ref (He.ga K x)) m) (some (some (.ref (He.ma K (He.ga K x) m)))) && PySem.W.isFn K (.ref (He.ma K (He.ga K x) m))
def bPr (x m : Str) (K : PySem.W.Frag) : Bool := He.eqO (PySem.W.findIn K (.ref (He.ga K x)) m) (some (some (.ref (He.ma K (He.ga K x) m)))) && (
  He.eqO (PySem.W.specialIn K (.ref (He.ma K (He.ga K x) m)) "__get__") (some (some (.builtin "property.__get__"))) && (
  decide (PySem.W.takesIn K (.ref (He.ma K (He.ga K x) m)) = some true) && (match PySem.W.recIn K (He.ma K (He.ga K x) m) "property" with
    | some (.ref _ :: _) => true
    | _ => false)))
def bCm (x m : Str) (K : PySem.W.Frag) : Bool := He5.wrapB K (He.ga K x) "classmethod" "classmethod.__get__" m && PySem.W.fnIn K (He5.wf K (He.ga K x) "classmethod" m)
def bCV (x m : Str) (z : V) (K : PySem.W.Frag) : Bool := match PySem.W.findCls K (.ref (He.ga K x)) (.type "type") m with
  | some (.val u) => He.relB z u
  | _ => false
def bCS (x : Str) (z : V) (K : PySem.W.Frag) : Bool := match PySem.W.nsIn K mainGlobals x with
  | some (some u) => He.relB z u
  | _ => false
/-- an empty tuple -/
def bTup (p : PySem.W.Frag → Addr) (K : PySem.W.Frag) : Bool := match K.lookup (p K) with
  | some ⟨.type c, _, .seq its _, _⟩ => decide (c = "tuple") && its.isEmpty
  | _ => false
def freeN : List Str := ["len","range","int","list","dict","tuple","set","sorted","all","any","max","min","abs","divmod","repr","isinstance","enumerate","str","bool"]
def bFR (K : PySem.W.Frag) : Bool := freeN.all fun x => bFree x K
section
variable {K : PySem.W.Frag} {x m qual : Str} {st : Stmt} {z : V}
theorem free_z (h : bFree x K = true) : PySem.W.nsIn K mainGlobals x = some none := He.eqO_ok h
theorem glo_z (h : bGlo x K = true) : PySem.W.nsIn K mainGlobals x = some (some (.ref (He.ga K x))) := He.eqO_ok h
theorem cl_z (h : bCL x K = true) : CL K (He.ga K x) := by
  obtain ⟨h1, h2⟩ := He.ba h
  obtain ⟨h3, h4⟩ := He.ba h2
  have c := He.cls_ok h1
  obtain ⟨c1, h1⟩ := He.ba h1
  obtain ⟨c2, h1⟩ := He.ba h1
  obtain ⟨c3, c4⟩ := He.ba h1
  exact ⟨c1, c2, c3, He.eqO_ok c4, h3, h4⟩
theorem no_z (h : bNo x m K = true) : PySem.W.findIn K (.ref (He.ga K x)) m = some none := He.eqO_ok h
theorem rd_z (h : bRd x K = true) : PySem.W.readsIn K (He.ga K x) (.type "type") = true := h
theorem ga_z (h : bGa x K = true) : PySem.W.specialIn K (.ref (He.ga K x)) "__getattribute__" = some (some (.builtin "type.__getattribute__")) := He.eqO_ok h
theorem ty_z (h : bTY x K = true) : TY K (He.ga K x) := by
  obtain ⟨a1, h⟩ := He.ba h
  obtain ⟨a2, h⟩ := He.ba h
  obtain ⟨a3, h⟩ := He.ba h
  obtain ⟨a4, h⟩ := He.ba h
  obtain ⟨a5, h⟩ := He.ba h
  obtain ⟨a6, h⟩ := He.ba h
  obtain ⟨a7, h⟩ := He.ba h
  obtain ⟨a8, h⟩ := He.ba h
  obtain ⟨a9, a10⟩ := He.ba h
  exact ⟨He.eqO_ok a1, He.eqO_ok a2, of_decide_eq_true a3, of_decide_eq_true a4, He.eqO_ok a5, of_decide_eq_true a6, a7, of_decide_eq_true a8, a9, He.eqO_ok a10⟩
theorem gf_z (h : bGlo x K = true) (F : ∃ fd, FunD K (dG x st).name (dG x st).qual (dG x st).params (dG x st).body (dG x st).scope ((dG x st).dvs K) ((dG x st).kws K) ((dG x st).at_ K) fd) : GF K x st := by
  obtain ⟨fd, F⟩ := F
  obtain ⟨oc, od, dV, kV, dc, pm, an, cd, ct, sl, rfl, l, c, hd, _⟩ := F.ex
  rcases hd with ⟨_, rfl⟩ | ⟨e, _⟩
  · exact ⟨_, oc, od, an, sl, kV, dc, pm, cd, ct, He.eqO_ok h, l, c, F.kp⟩
  · exact absurd rfl e
theorem me_z {C : Str} (h : bMe C x K = true) (F : ∃ fd, FunD K (dM C x qual st).name (dM C x qual st).qual (dM C x qual st).params (dM C x qual st).body (dM C x qual st).scope ((dM C x qual st).dvs K) ((dM C x qual st).kws K) ((dM C x qual st).at_ K) fd) : ME K (He.ga K C) x qual st := by
  obtain ⟨h1, h2⟩ := He.ba h
  obtain ⟨fd, F⟩ := F
  obtain ⟨oc, od, dV, kV, dc, pm, an, cd, ct, sl, rfl, l, c, hd, _⟩ := F.ex
  rcases hd with ⟨_, rfl⟩ | ⟨e, _⟩
  · exact ⟨_, oc, od, an, sl, kV, dc, pm, cd, ct, He.eqO_ok h1, h2, l, c, F.kp⟩
  · exact absurd rfl e
theorem pr_z {C : Str} (h : bPr C x K = true) (F : ∃ fd, FunD K (dP C x qual st).name (dP C x qual st).qual (dP C x qual st).params (dP C x qual st).body (dP C x qual st).scope ((dP C x qual st).dvs K) ((dP C x qual st).kws K) ((dP C x qual st).at_ K) fd) : PR K (He.ga K C) x qual st := by
  obtain ⟨h1, h2⟩ := He.ba h
  obtain ⟨h2, h3⟩ := He.ba h2
  obtain ⟨h3, h4⟩ := He.ba h3
  have h5 : ∃ rest, PySem.W.recIn K (He.ma K (He.ga K C) x) "property" = some (.ref (pf K (He.ga K C) x) :: rest) := by
    unfold pf
    split at h4
    · rename_i f r e
      exact ⟨r, by rw [e]⟩
    · cases h4
  obtain ⟨rest, h5⟩ := h5
  obtain ⟨fd, F⟩ := F
  obtain ⟨oc, od, dV, kV, dc, pm, an, cd, ct, sl, rfl, l, c, hd, _⟩ := F.ex
  rcases hd with ⟨_, rfl⟩ | ⟨e, _⟩
  · exact ⟨_, _, rest, oc, od, an, sl, kV, dc, pm, cd, ct, He.eqO_ok h1, He.eqO_ok h2, of_decide_eq_true h3, h5, l, c, F.kp⟩
  · exact absurd rfl e
theorem cm_z {C : Str} (h : bCm C x K = true) (F : ∃ fd, FunD K (dQ C x qual st).name (dQ C x qual st).qual (dQ C x qual st).params (dQ C x qual st).body (dQ C x qual st).scope ((dQ C x qual st).dvs K) ((dQ C x qual st).kws K) ((dQ C x qual st).at_ K) fd) : CM K (He.ga K C) x qual st := by
  obtain ⟨h1, h2⟩ := He.ba h
  obtain ⟨h3, rest, h4⟩ := He5.wrapB_ok h1
  obtain ⟨fd, F⟩ := F
  obtain ⟨oc, od, dV, kV, dc, pm, an, cd, ct, sl, rfl, l, c, hd, _⟩ := F.ex
  rcases hd with ⟨_, rfl⟩ | ⟨e, _⟩
  · exact ⟨_, _, rest, oc, od, an, sl, kV, dc, pm, cd, ct, h3, h4, h2, l, c, F.kp⟩
  · exact absurd rfl e
theorem md_z {C : Str} (h : bMe C x K = true) (F : ∃ fd, FunD K (dD C x qual st).name (dD C x qual st).qual (dD C x qual st).params (dD C x qual st).body (dD C x qual st).scope ((dD C x qual st).dvs K) ((dD C x qual st).kws K) ((dD C x qual st).at_ K) fd) : MD K (He.ga K C) x qual st := by
  obtain ⟨h1, h2⟩ := He.ba h
  obtain ⟨fd, F⟩ := F
  obtain ⟨oc, od, dV, kV, dc, pm, an, cd, ct, sl, rfl, l, c, hd, _⟩ := F.ex
  rcases hd with ⟨e, _⟩ | ⟨_, T, o, its, n, rfl, t, d, vs⟩
  · exact nomatch e
  · cases vs with
    | cons r rs => cases rs with
      | nil => cases r; exact ⟨_, T, _, oc, od, an, sl, kV, dc, pm, cd, ct, o, n, He.eqO_ok h1, h2, l, c, F.kp, t, d⟩
theorem cv_z {C : Str} (h : bCV C x z K = true) : CV K (He.ga K C) x z := by
  unfold bCV at h
  split at h
  · rename_i u e
    exact ⟨u, e, He.relB_ok h⟩
  · cases h
theorem cs_z (h : bCS x z K = true) : CS K x z := by
  unfold bCS at h
  split at h
  · rename_i u e
    exact ⟨u, e, He.relB_ok h⟩
  · cases h
theorem tup_z {p : PySem.W.Frag → Addr} (h : bTup p K = true) : ∃ (o : Obj) (n : Nat), K.lookup (p K) = some o ∧ o.cls = .type "tuple" ∧ o.data = .seq #[] n := by
  unfold bTup at h
  split at h
  · rename_i c od its n sl e
    obtain ⟨h1, h2⟩ := He.ba h
    exact ⟨_, n, e, congrArg Value.type (of_decide_eq_true h1), by rw [Array.isEmpty_iff.mp h2]⟩
  · cases h
theorem fr_z (h : bFR K = true) : FR K := by
  have a : ∀ x ∈ freeN, PySem.W.nsIn K mainGlobals x = some none := fun x hx => He.eqO_ok (List.all_eq_true.mp h x hx)
  exact ⟨a _ (.head _), a _ (.tail _ (.head _)), a _ (.tail _ (.tail _ (.head _))), a _ (.tail _ (.tail _ (.tail _ (.head _)))), a _ (.tail _ (.tail _ (.tail _ (.tail _ (.head _))))), a _ (.tail _ (.tail _ (.tail _ (.tail _ (.tail _ (.head _)))))), a _ (.tail _ (.tail _ (.tail _ (.tail _ (.tail _ (.tail _ (.head _))))))), a _ (.tail _ (.tail _ (.tail _ (.tail _ (.tail _ (.tail _ (.tail _ (.head _)))))))), a _ (.tail _ (.tail _ (.tail _ (.tail _ (.tail _ (.tail _ (.tail _ (.tail _ (.head _))))))))), a _ (.tail _ (.tail _ (.tail _ (.tail _ (.tail _ (.tail _ (.tail _ (.tail _ (.tail _ (.head _)))))))))), a _ (.tail _ (.tail _ (.tail _ (.tail _ (.tail _ (.tail _ (.tail _ (.tail _ (.tail _ (.tail _ (.head _))))))))))), a _ (.tail _ (.tail _ (.tail _ (.tail _ (.tail _ (.tail _ (.tail _ (.tail _ (.tail _ (.tail _ (.tail _ (.head _)))))))))))), a _ (.tail _ (.tail _ (.tail _ (.tail _ (.tail _ (.tail _ (.tail _ (.tail _ (.tail _ (.tail _ (.tail _ (.tail _ (.head _))))))))))))), a _ (.tail _ (.tail _ (.tail _ (.tail _ (.tail _ (.tail _ (.tail _ (.tail _ (.tail _ (.tail _ (.tail _ (.tail _ (.tail _ (.head _)))))))))))))), a _ (.tail _ (.tail _ (.tail _ (.tail _ (.tail _ (.tail _ (.tail _ (.tail _ (.tail _ (.tail _ (.tail _ (.tail _ (.tail _ (.tail _ (.head _))))))))))))))), a _ (.tail _ (.tail _ (.tail _ (.tail _ (.tail _ (.tail _ (.tail _ (.tail _ (.tail _ (.tail _ (.tail _ (.tail _ (.tail _ (.tail _ (.tail _ (.head _)))))))))))))))), a _ (.tail _ (.tail _ (.tail _ (.tail _ (.tail _ (.tail _ (.tail _ (.tail _ (.tail _ (.tail _ (.tail _ (.tail _ (.tail _ (.tail _ (.tail _ (.tail _ (.head _))))))))))))))))), a _ (.tail _ (.tail _ (.tail _ (.tail _ (.tail _ (.tail _ (.tail _ (.tail _ (.tail _ (.tail _ (.tail _ (.tail _ (.tail _ (.tail _ (.tail _ (.tail _ (.tail _ (.head _)))))))))))))))))), a _ (.tail _ (.tail _ (.tail _ (.tail _ (.tail _ (.tail _ (.tail _ (.tail _ (.tail _ (.tail _ (.tail _ (.tail _ (.tail _ (.tail _ (.tail _ (.tail _ (.tail _ (.tail _ (.head _)))))))))))))))))))⟩
end
/-! ### the law's end -/
theorem walk_ofZ {l : PySem.W.OpenLaw} {n k : Nat} {q : Program} {loose : List Str} {XP : (Str → Option Value) → Heap → Prop} {YP : World → Heap → Prop} {d : DefRec} {x : Str}
    (hn : l.most = some n) (hn2 : n ≤ sizeLine) (hdf : d.params.defaults = []) (hr : Room k callerA)
    (F : ∀ (w : World) (mg : Str → Option Value) (fa : Addr) (h : Heap), YP w h → h.Ns mainGlobals mg → mg d.name = some (.ref fa) → ∃ (K : PySem.W.Frag) (fd : FuncData) (sp : Sp), K.In h ∧ (∀ (s : Shared) (u : Value), BindsTo s fd ⟨[u], []⟩ [(x, u)]) ∧
      (∀ (H : Hp) (a : Addr) (ns : List Int), ns.length ≤ n → SqL K H a (ns.map V.int) → sp [.ref a] H (fun v _ => v = .bl true) E0) ∧
      ∀ base : Heap, K.In base → base.Ns mainGlobals mg → FnG l.prog w K mg base k fa fd [x] sp) :
    PySem.W.WalkO q loose XP YP l.row.toRowW d [] (fun f vs => PySem.call f vs) := by
  refine Att.attach_call hn hdf fun w s0 s1 mg mb fa o pm cd doc a vs ns G Y ho hd hcd hmg hobj hints hlen hg => ?_
  obtain ⟨K, fd, sp, KX, hb, hsp, hF⟩ := F w mg fa _ Y G.T.g hmg
  exact law_callG KX G.T.g G.T.b G.T.builtins G.T.nolimit hg hobj hints (Nat.le_trans hlen hn2) hr hF hb fun H hS => hsp H a ns hlen hS
end SS

set_option maxRecDepth 100000
set_option maxHeartbeats 4000000
/-! the head of a law of which one def makes lambdas: that def's table of code objects is empty at the head and not among what is known -/
namespace Hz
open PySem PySem.W PySem.Calls PyProof.Rows He5
def tabZ (g : Addr → Option Obj) (p : He.Defn) (K : Frag) : Bool := codeHdIn K (He.cT K p).1 (He.cT K p).2 && ((K.lookup (He.cT K p).2).isNone && (match g (He.cT K p).2 with
  | some o => He.emptyTab o
  | none => false))
structure SaysY (fs : List (Frag → Bool)) (fn : List DefA) (p : He.Defn) (h : Heap) (K : Frag) : Prop where
  z : SaysZ fs fn K
  hd : codeHdIn K (He.cT K p).1 (He.cT K p).2 = true
  out : K.lookup (He.cT K p).2 = none
  empty : h.get? (He.cT K p).2 = some { cls := .none, data := .fields #[] }
def obsY (fs : List (Frag → Bool)) (fn : List DefA) (p : He.Defn) (g : Addr → Option Obj) : He.AlD × Bool := (obsZ fs fn (He.frG g (asZ g)), tabZ g p (He.frG g (asZ g)))
theorem saysY_of {fs : List (Frag → Bool)} {fn : List DefA} {p : He.Defn} {h : Heap} (e : obsY fs fn p h.get? = (valZ fn, true)) : SaysY fs fn p h (He.frG h.get? (asZ h.get?)) := by
  have e1 : obsZ fs fn (He.frG h.get? (asZ h.get?)) = valZ fn := congrArg Prod.fst e
  have e2 : tabZ h.get? p (He.frG h.get? (asZ h.get?)) = true := congrArg Prod.snd e
  obtain ⟨h1, h2⟩ := He.ba e2
  obtain ⟨h3, h4⟩ := He.ba h2
  refine ⟨e1, h1, Option.isNone_iff_eq_none.mp h3, ?_⟩
  split at h4
  · rename_i o q
    rw [q, He.emptyTab_eq h4]
  · cases h4
def hookY (fs : List (Frag → Bool)) (fn : List DefA) (p : He.Defn) : PySem.W.Hook where
  α := He.AlD × Bool
  obs := fun s => obsY fs fn p s.heap.get?
  val := fun _ => (valZ fn, true)
  says := fun _ h => ∃ K : Frag, K.In h ∧ SaysY fs fn p h K
  of := fun _ _ e => ⟨_, He.frG_in, saysY_of e⟩
  keeps := fun _ _ _ ⟨K, hK, c⟩ k => ⟨K, Frag.In.keeps hK k, ⟨c.z, c.hd, c.out, k _ _ c.empty⟩⟩
def obY (fs : List (Frag → Bool)) (fn : List DefA) (p : He.Defn) (s : SharedT) : He.AlD × Bool := obsY fs fn p (HandSHeadRun.getT s)
theorem obY_eq {fs : List (Frag → Bool)} {fn : List DefA} {p : He.Defn} (s : SharedT) : obY fs fn p s = (hookY fs fn p).obs s.abs := by
  have e : HandSHeadRun.getT s = s.abs.heap.get? := funext (HandSHeadRun.getT_eq s)
  unfold obY
  rw [e] <;> rfl
end Hz
namespace SS
open PySem L2 SR LamX PyProof.Rows
/-- a def's code object is the one whose table is looked at -/
theorem code_z {K : PySem.W.Frag} {x qual : Str} {st : Stmt} {f : Addr} {fd : FuncData} (F : Fun K x qual st f fd) (e : f = He.ga K x) : fd.code = .ref (He.cT K (x, none)).1 := by
  obtain ⟨oc, od, kV, doc, pm, an, cdv, ct, osl, rfl, lk, hcd⟩ := F.ex
  obtain ⟨c, rfl⟩ := He.codeIn_ref hcd
  have h : He.codeOf K (x, none) = c := He.codeOf_eq (p := (x, none)) (show K.lookup (He.ga K x) = _ from e ▸ lk) rfl
  show Value.ref c = Value.ref (He.codeOf K (x, none))
  rw [h]
theorem law_callGT {P : Program} {w : World} {K : PySem.W.Frag} {mg mb : Str → Option Value} {k : Nat} {fa a c T : Addr} {fd : FuncData} {x : Str} {sp : Sp} {s1 : Shared} {vs : List Value} {ns : List Int}
    (KX : K.In s1.heap) (gns : s1.heap.Ns mainGlobals mg) (bns : s1.heap.Ns builtinsNs mb) (bis : ∀ x : Str, x ≠ "__name__" → mb x = bootBuiltins x) (lim : s1.heap.NoLimit) (g0 : s1.gens = #[])
    (hT : s1.heap.get? T = some { cls := .none, data := .fields #[] }) (nT : K.lookup T = none) (hC : PySem.W.CodeHd s1.heap c T)
    (hbm : ∃ (bm : Addr) (ob : Obj), mg "__builtins__" = some (.ref bm) ∧ bm ≠ builtinsNs ∧ s1.heap.get? bm = some ob ∧ ob.cls = .type "module" ∧ ob.dict = some builtinsNs ∧ ob.data = .plain)
    (ha : s1.heap.get? a = some { cls := .type "list", data := .seq vs.toArray }) (hi : IntsAre vs ns) (hl : ns.length ≤ sizeLine) (hr : Room k callerA)
    (F : ∀ base : Heap, K.In base → base.Ns mainGlobals mg → TabB base mg c T → FnG P w K mg base k fa fd [x] sp) (hbind : ∀ (s : Shared) (u : Value), BindsTo s fd ⟨[u], []⟩ [(x, u)])
    (hsp : ∀ H : Hp, H T = some (.tbl #[]) → SqL K H a (ns.map V.int) → sp [.ref a] H (fun v _ => v = .bl true) E0) :
    codeAny (model P w) callerA (.call (.ref fa) ⟨[.ref a], []⟩) (fun r s' => r = .ok (.ret (.bool true)) ∧ OldK s1.heap s'.heap ∧ s'.os = s1.os ∧ AllBare s'.gens) s1 := by
  have aT : a ≠ T := fun z => by
    rw [z, hT] at ha
    have q : Value.none = Value.type "list" := congrArg Obj.cls (Option.some.inj ha)
    cases q
  have core : ∀ H : Hp, SqL K H a (ns.map V.int) → HOk P w H s1.heap → H T = some (.tbl #[]) → (∀ b u, H b = some u → (b = a ∧ K.lookup a = none ∧ ∃ ob xs, u = .frz ob (.lst xs)) ∨ b = T) →
      codeAny (model P w) callerA (.call (.ref fa) ⟨[.ref a], []⟩) (fun r s' => r = .ok (.ret (.bool true)) ∧ OldK s1.heap s'.heap ∧ s'.os = s1.os ∧ AllBare s'.gens) s1 := by
    intro H hS ok hHT only
    have free : ∀ {b : Addr} {o : Obj}, s1.heap.get? b = some o → b ≠ a → b ≠ T → (hidT s1.heap H).get? b = some o := fun {b o} e n1 n2 => hidT_get e (by
      cases z : H b with
      | none => rfl
      | some u => exact ((only b u z).elim (fun q => n1 q.1) n2).elim)
    have notA : ∀ {b : Addr} {o : Obj}, s1.heap.get? b = some o → o.cls ≠ .type "list" → b ≠ a := fun {b o} e n z => by
      rw [z, ha] at e
      exact n (by rw [← Option.some.inj e])
    have notT : ∀ {b : Addr} {o : Obj}, s1.heap.get? b = some o → (∀ us, o.data ≠ .fields us) → b ≠ T := fun {b o} e n z => by
      rw [z, hT] at e
      exact n #[] (by rw [← Option.some.inj e])
    have ns' : ∀ {b : Addr} {m : Str → Option Value}, s1.heap.Ns b m → (hidT s1.heap H).Ns b m := fun {b m} ⟨o, es, ep, e, d, r⟩ => ⟨o, es, ep, free e (fun z => by
      rw [z, ha] at e
      rw [← Option.some.inj e] at d
      cases d) (notT e fun us z => by rw [d] at z; cases z), d, r⟩
    have kin : K.In (hidT s1.heap H) := fun b o e => hidT_get (KX b o e) (by
      cases z : H b with
      | none => rfl
      | some u =>
        rcases only b u z with ⟨z1, z2, _⟩ | z1
        · rw [z1, z2] at e
          cases e
        · rw [z1, nT] at e
          cases e)
    have md : Mod K mg (hidT s1.heap H) := ⟨kin, ns' gns, ⟨mb, ns' bns, bis⟩, let ⟨mc, h1, h2⟩ := lim; ⟨mc, ns' h1, h2⟩⟩
    have en : Env0 P w K mg (hidT s1.heap H) callerA [] s1 H := ⟨rfl, md, fun b o e => of_hidT e, Nat.le_of_eq (hidT_size _ _), trivial, fun b hb => absurd (show b ∈ ([] : List Addr) from hb) (by simp), ok, .of_eq g0⟩
    have gT : mainGlobals ≠ T := fun z => by
      obtain ⟨o, es, ep, e, d, _⟩ := gns
      rw [z, hT] at e
      rw [← Option.some.inj e] at d
      cases d
    have tb : TabB (hidT s1.heap H) mg c T := by
      refine ⟨?_, ?_, gT⟩
      · obtain ⟨o, us, file, tf, flags, tg, inF, text, tt, e1, r1, r⟩ := hC
        exact ⟨o, us, file, tf, flags, tg, inF, text, tt, free e1 (notA e1 fun z => by rw [r1] at z; exact absurd (Value.type.inj z) (by decide)) r.2.2.2.2.2.2.2, r1, r⟩
      · obtain ⟨bm, ob, b1, b2, b3, b4, b5, b6⟩ := hbm
        refine ⟨bm, ob, b1, b2, fun q => ?_, fun q => ?_, free b3 (notA b3 fun z => by rw [b4] at z; exact absurd (Value.type.inj z) (by decide)) (notT b3 fun us z => by rw [b6] at z; cases z), b4, b5, b6⟩
        · obtain ⟨o, es, ep, e, d, _⟩ := gns
          rw [q, e] at b3
          rw [← Option.some.inj b3, d] at b6
          cases b6
        · rw [q, hT] at b3
          rw [← Option.some.inj b3] at b6
          cases b6
    refine codeAny_mono ((F _ kin (ns' gns) tb).run callerA [] s1 H ⟨[.ref a], []⟩ [.ref a] [.ref a] _ _ hr rfl en (hbind s1 (.ref a)) (.cons rfl .nil) (hsp H hHT hS)) fun r s' h => ?_
    cases r with
    | error e => exact False.elim h
    | ok fl =>
      cases fl with
      | next => exact False.elim h
      | brk => exact False.elim h
      | cont => exact False.elim h
      | ret u =>
        obtain ⟨v, H', os, bare, un, ok', rel, q⟩ := h
        obtain rfl : v = .bl true := q
        obtain rfl : u = Value.bool true := rel
        have same : ∀ b o, b ≠ T → s1.heap.get? b = some o → s'.heap.get? b = some o := fun b o nb e => by
          cases z : H b with
          | none => exact un.keep b o e z (by intro z; exact absurd (show b ∈ ([] : List Addr) from z) (by simp)) (by simp)
          | some u =>
            rcases only b u z with ⟨_, _, ob, xs, rfl⟩ | z1
            · obtain ⟨e1, _⟩ := ok b _ z
              obtain ⟨e2, _⟩ := ok' b _ (un.frzs b ob _ z)
              rw [e] at e1
              cases e1
              exact e2
            · exact (nb z1).elim
        obtain ⟨more, z⟩ := un.tbls T #[] hHT
        have hm : s'.heap.get? T = some { cls := .none, data := .fields (#[] ++ more) } := ok' T _ z
        refine ⟨rfl, ⟨fun b o e => ?_, fun b o e => ?_⟩, os, bare⟩
        · by_cases hb : b = T
          · subst hb
            rw [hT] at e
            cases e
            exact .inr (.inl ⟨(hC.tab hT).isCodeTable, rfl, #[], more, rfl, hm⟩)
          · exact .inl (same b o hb e)
        · by_cases hb : b = T
          · subst hb
            exact ⟨_, hm⟩
          · exact ⟨o, same b o hb e⟩
  have rv := vals_ints hi
  cases hk : K.lookup a with
  | some o =>
    have e := KX a o hk
    rw [ha] at e
    cases e
    refine core (fun b => if b = T then some (.tbl #[]) else none) (.inr ⟨_, vs.toArray, _, hk, rfl, rfl, rfl, by rw [List.size_toArray, hi.length]; exact hl, by simpa using rv⟩) (fun b u z => ?_) (if_pos rfl) (fun b u z => ?_)
    · revert z
      show (if b = T then some _ else none) = some u → _
      split
      · rename_i hb
        subst hb
        rintro ⟨⟩
        exact hT
      · rintro ⟨⟩
    · revert z
      show (if b = T then some _ else none) = some u → _
      split
      · rename_i hb
        exact fun _ => .inr hb
      · rintro ⟨⟩
  | none =>
    refine core (fun b => if b = a then some (.frz { cls := .type "list", data := .seq vs.toArray } (.lst (ns.map V.int))) else if b = T then some (.tbl #[]) else none) (.inl (.inr ⟨_, if_pos rfl⟩)) (fun b u z => ?_) ((if_neg (Ne.symm aT)).trans (if_pos rfl)) (fun b u z => ?_)
    · revert z
      show (if b = a then some _ else if b = T then some _ else none) = some u → _
      split
      · rename_i hb
        subst hb
        rintro ⟨⟩
        exact ⟨ha, by rw [List.length_map]; exact hl, vs, _, rv, ha⟩
      · split
        · rename_i hb
          subst hb
          rintro ⟨⟩
          exact hT
        · rintro ⟨⟩
    · revert z
      show (if b = a then some _ else if b = T then some _ else none) = some u → _
      split
      · rename_i hb
        rintro ⟨⟩
        exact .inl ⟨hb, hk, _, _, rfl⟩
      · split
        · rename_i hb
          exact fun _ => .inr hb
        · rintro ⟨⟩
theorem walk_ofY {l : PySem.W.OpenLaw} {n k : Nat} {q : Program} {loose : List Str} {XP : (Str → Option Value) → Heap → Prop} {YP : World → Heap → Prop} {d : DefRec} {x : Str}
    (hn : l.most = some n) (hn2 : n ≤ sizeLine) (hdf : d.params.defaults = []) (hr : Room k callerA)
    (F : ∀ (w : World) (mg : Str → Option Value) (fa : Addr) (h : Heap), YP w h → h.Ns mainGlobals mg → mg d.name = some (.ref fa) → ∃ (K : PySem.W.Frag) (fd : FuncData) (sp : Sp) (c T : Addr), K.In h ∧ PySem.W.CodeHd h c T ∧ h.get? T = some { cls := .none, data := .fields #[] } ∧ K.lookup T = none ∧ (∀ (s : Shared) (u : Value), BindsTo s fd ⟨[u], []⟩ [(x, u)]) ∧
      (∀ (H : Hp) (a : Addr) (ns : List Int), ns.length ≤ n → H T = some (.tbl #[]) → SqL K H a (ns.map V.int) → sp [.ref a] H (fun v _ => v = .bl true) E0) ∧
      ∀ base : Heap, K.In base → base.Ns mainGlobals mg → TabB base mg c T → FnG l.prog w K mg base k fa fd [x] sp) :
    PySem.W.WalkO q loose XP YP l.row.toRowW d [] (fun f vs => PySem.call f vs) := by
  refine Att.attach_call hn hdf fun w s0 s1 mg mb fa o pm cd doc a vs ns G Y ho hd hcd hmg hobj hints hlen hg => ?_
  obtain ⟨K, fd, sp, c, T, KX, hC, hT, nT, hb, hsp, hF⟩ := F w mg fa _ Y G.T.g hmg
  exact law_callGT KX G.T.g G.T.b G.T.builtins G.T.nolimit hg hT nT hC G.T.bmain hobj hints (Nat.le_trans hlen hn2) hr hF hb fun H hH hS => hsp H a ns hlen hH hS
end SS

set_option maxRecDepth 100000
set_option maxHeartbeats 4000000
namespace SS
open PySem L2 SR TL ClX
/-! ### what the top has written, more -/
theorem ktup_mk {K : PySem.W.Frag} {e : Addr} {o : Obj} {n : Nat} (h : K.lookup e = some o) (c : o.cls = .type "tuple") (d : o.data = .seq #[] n) : KTup K e [] := ⟨o, #[], n, h, c, d, Nat.zero_le _, .nil⟩
/-- __init__(self, states, ends=(), *, start=0) -/
def MDK (K : PySem.W.Frag) (C : Addr) (x qual : Str) (st : Stmt) : Prop := ∃ (f T D e : Addr) (oc : Value) (od an : Option Addr) (sl : Array (Option Value)) (dc pm cd ct u : Value) (o : Obj) (n : Nat), PySem.W.findIn K (.ref C) x = some (some (.ref f)) ∧ PySem.W.isFn K (.ref f) = true ∧
  K.lookup f = some ⟨oc, od, .func (PySem.W.fnOf x qual (defArgs st) (defBody st) (defScope st) (.ref T) (.ref D) dc pm an cd ct), sl⟩ ∧ PySem.W.codeIn K cd qual = true ∧ PySem.W.keepIn K (.ref f) = true ∧ K.lookup T = some o ∧ o.data = .seq #[.ref e] n ∧ PySem.W.nsIn K D "start" = some (some u) ∧ RelV (.int 0) u ∧ KTup K e []
theorem mdk_mk {K : PySem.W.Frag} {C : Addr} {x qual : Str} {st : Stmt} {f T D e : Addr} {oc : Value} {od an : Option Addr} {sl : Array (Option Value)} {dc pm cd ct u : Value} {o oe : Obj} {n ne : Nat} (a : PySem.W.findIn K (.ref C) x = some (some (.ref f))) (i : PySem.W.isFn K (.ref f) = true)
    (l : K.lookup f = some ⟨oc, od, .func (PySem.W.fnOf x qual (defArgs st) (defBody st) (defScope st) (.ref T) (.ref D) dc pm an cd ct), sl⟩) (c : PySem.W.codeIn K cd qual = true) (k : PySem.W.keepIn K (.ref f) = true) (t : K.lookup T = some o) (d : o.data = .seq #[.ref e] n) (s : PySem.W.nsIn K D "start" = some (some u)) (r : RelV (.int 0) u)
    (e1 : K.lookup e = some oe) (e2 : oe.cls = .type "tuple") (e3 : oe.data = .seq #[] ne) : MDK K C x qual st := ⟨f, T, D, e, oc, od, an, sl, dc, pm, cd, ct, u, o, n, a, i, l, c, k, t, d, s, r, ktup_mk e1 e2 e3⟩
theorem MDK.fun {K : PySem.W.Frag} {C : Addr} {x qual : Str} {st : Stmt} (m : MDK K C x qual st) : ∃ (f : Addr) (fd : FuncData) (e : Addr), PySem.W.findIn K (.ref C) x = some (some (.ref f)) ∧ PySem.W.isFn K (.ref f) = true ∧ FunD K x qual (defArgs st) (defBody st) (defScope st) [.ref e] [("start", .int 0)] f fd ∧ KTup K e [] := by
  obtain ⟨f, T, D, e, oc, od, an, sl, dc, pm, cd, ct, u, o, n, a, i, l, c, k, t, d, s, r, kt⟩ := m
  refine ⟨f, _, e, a, i, ⟨⟨oc, od, .ref T, .ref D, dc, pm, an, cd, ct, sl, rfl, l, c, .inr ⟨by simp, T, o, [.ref e], n, rfl, t, d, .cons rfl .nil⟩, .inr ⟨D, rfl, fun q hq => ?_⟩⟩, k⟩, kt⟩
  rw [List.mem_singleton.mp hq]
  exact ⟨u, s, r⟩
theorem mdk_z {K : PySem.W.Frag} {C x qual : Str} {st : Stmt} (h : bMe C x K = true) (h2 : bTup (dfl0 fun K => He.ma K (He.ga K C) x) K = true)
    (F : ∃ fd, FunD K (dD C x qual st [("start", .int 0)]).name (dD C x qual st [("start", .int 0)]).qual (dD C x qual st [("start", .int 0)]).params (dD C x qual st [("start", .int 0)]).body (dD C x qual st [("start", .int 0)]).scope ((dD C x qual st [("start", .int 0)]).dvs K) ((dD C x qual st [("start", .int 0)]).kws K) ((dD C x qual st [("start", .int 0)]).at_ K) fd) : MDK K (He.ga K C) x qual st := by
  obtain ⟨h1, h3⟩ := He.ba h
  obtain ⟨oe, ne, e1, e2, e3⟩ := tup_z h2
  obtain ⟨fd, F⟩ := F
  obtain ⟨oc, od, dV, kV, dc, pm, an, cd, ct, sl, rfl, l, c, hd, hk⟩ := F.ex
  rcases hd with ⟨e, _⟩ | ⟨_, T, o, its, n, rfl, t, d, vs⟩
  · exact nomatch e
  · rcases hk with e | ⟨D, rfl, hk⟩
    · exact nomatch e
    · obtain ⟨u, s, r⟩ := hk ("start", .int 0) List.mem_cons_self
      cases vs with
      | cons q rs => cases rs with
        | nil => cases q; exact ⟨_, T, D, _, oc, od, an, sl, dc, pm, cd, ct, u, o, n, He.eqO_ok h1, h3, l, c, F.kp, t, d, s, r, ktup_mk e1 e2 e3⟩
/-! ### what the top has written of exceptions -/
/-- an own exception's __init__ -/
def MI (K : PySem.W.Frag) (C : Addr) (x qual : Str) (st : Stmt) : Prop := ∃ (f : Addr) (oc : Value) (od an : Option Addr) (sl : Array (Option Value)) (kV dc pm cd ct : Value), PySem.W.findIn K (.ref C) x = some (some (.ref f)) ∧ PySem.W.typeIn K (.ref f) = some (.type "function") ∧
  K.lookup f = some ⟨oc, od, .func (PySem.W.fnOf x qual (defArgs st) (defBody st) (defScope st) .none kV dc pm an cd ct), sl⟩ ∧ PySem.W.codeIn K cd qual = true ∧ PySem.W.keepIn K (.ref f) = true
theorem mi_mk {K : PySem.W.Frag} {C : Addr} {x qual : Str} {st : Stmt} {f : Addr} {oc : Value} {od an : Option Addr} {sl : Array (Option Value)} {kV dc pm cd ct : Value} (a : PySem.W.findIn K (.ref C) x = some (some (.ref f))) (i : PySem.W.typeIn K (.ref f) = some (.type "function"))
    (l : K.lookup f = some ⟨oc, od, .func (PySem.W.fnOf x qual (defArgs st) (defBody st) (defScope st) .none kV dc pm an cd ct), sl⟩) (c : PySem.W.codeIn K cd qual = true) (k : PySem.W.keepIn K (.ref f) = true) : MI K C x qual st := ⟨f, oc, od, an, sl, kV, dc, pm, cd, ct, a, i, l, c, k⟩
theorem MI.fun {K : PySem.W.Frag} {C : Addr} {x qual : Str} {st : Stmt} (g : MI K C x qual st) : ∃ f fd, Fun K x qual st f fd ∧ PySem.W.findIn K (.ref C) x = some (some (.ref f)) ∧ PySem.W.typeIn K (.ref f) = some (.type "function") := by
  obtain ⟨f, oc, od, an, sl, kV, dc, pm, cd, ct, a, i, l, c, kp⟩ := g
  exact ⟨f, _, fun_mk (st := st) l c kp, a, i⟩
def bMI (x m : Str) (K : PySem.W.Frag) : Bool := He.eqO (PySem.W.findIn K (.ref (He.ga K x)) m) (some (some (.ref (He.ma K (He.ga K x) m)))) && decide (PySem.W.typeIn K (.ref (He.ma K (He.ga K x) m)) = some (.type "function"))
theorem mi_z {K : PySem.W.Frag} {C x qual : Str} {st : Stmt} (h : bMI C x K = true) (F : ∃ fd, FunD K (dM C x qual st).name (dM C x qual st).qual (dM C x qual st).params (dM C x qual st).body (dM C x qual st).scope ((dM C x qual st).dvs K) ((dM C x qual st).kws K) ((dM C x qual st).at_ K) fd) : MI K (He.ga K C) x qual st := by
  obtain ⟨h1, h2⟩ := He.ba h
  obtain ⟨fd, F⟩ := F
  obtain ⟨oc, od, dV, kV, dc, pm, an, cd, ct, sl, rfl, l, c, hd, _⟩ := F.ex
  rcases hd with ⟨_, rfl⟩ | ⟨e, _⟩
  · exact ⟨_, oc, od, an, sl, kV, dc, pm, cd, ct, He.eqO_ok h1, of_decide_eq_true h2, l, c, F.kp⟩
  · exact absurd rfl e
/-- an exception's class; T: the built-in classes behind it -/
structure EY (K : PySem.W.Frag) (D : Addr) (T : List Value) (nw : String) : Prop where
  ox : OexB nw T K D
  xf : XfC K D
  exc : ExcC K D
  own : PySem.W.subIn K (.ref D) (.ref D) = some true
theorem EY.exm {K : PySem.W.Frag} {D : Addr} {T : List Value} {nw : String} (s : EY K D T nw) {E : Addr} {b : Bool} (h : PySem.W.subIn K (.ref E) (.ref D) = some b) : PySem.W.exmOne K (.ref E) (.ref D) = some b := PySem.W.exm_ref s.ox.exC s.xf.hdC s.ox.tyC h
theorem EY.ne {K : PySem.W.Frag} {D E : Addr} {T : List Value} {nw : String} (s : EY K D T nw) (h : PySem.W.subIn K (.ref D) (.ref E) = some false) : D ≠ E := fun z => by
  have h1 := s.own
  rw [z] at h1
  rw [z, h1] at h
  cases h
def abvB (T : List Value) : List Value → Bool
  | [] => decide (([] : List Value) = T)
  | v :: r => decide (v :: r = T) || (match v with
    | .ref _ => abvB T r
    | _ => false)
theorem abvB_ok {T : List Value} : ∀ {l : List Value}, abvB T l = true → Abv T l
  | [], h => by
    have e : [] = T := of_decide_eq_true h
    rw [← e]
    exact .base
  | v :: r, h => by
    rcases (Bool.or_eq_true _ _).mp h with h | h
    · have e : v :: r = T := of_decide_eq_true h
      rw [← e]
      exact .base
    · cases v with
      | ref a => exact .up (abvB_ok h)
      | _ => cases h
def exB (K : PySem.W.Frag) (D : Addr) (T : List Value) (nw : String) : Bool := match K.lookup D with
  | some ⟨.type c, _, .cls cd, sl⟩ => (match cd.mro, sl.toList with
    | .ref C' :: bm, [_, _, _, _, some (.builtin n), _] => decide (c = "type") && (decide (C' = D) && (decide (n = nw) && (!cd.hasDel && (cd.hasDict && abvB T bm))))
    | _, _ => false)
  | _ => false
theorem exB_ok {K : PySem.W.Frag} {D : Addr} {T : List Value} {nw : String} (h : exB K D T nw = true) : ∃ nm q N bs bm sn sub ab col dd k0 k1 k2 k3 k5, K.lookup D = some (excClassObj nm q D N bs bm true sn sub ab col dd k0 k1 k2 k3 k5 nw) ∧ Abv T bm := by
  unfold exB at h
  split at h
  · rename_i c dd cd sl e
    split at h
    · rename_i C' bm k0 k1 k2 k3 n k5 e1 e2
      obtain ⟨h0, h⟩ := He.ba h
      obtain ⟨h1, h⟩ := He.ba h
      obtain ⟨h2, h⟩ := He.ba h
      obtain ⟨h3, h⟩ := He.ba h
      obtain ⟨h4, h5⟩ := He.ba h
      have z0 := of_decide_eq_true h0
      have z1 := of_decide_eq_true h1
      have z2 := of_decide_eq_true h2
      subst z0 z1 z2
      obtain ⟨nm, bs, mr, N, q, hdc, sn, sub, ab, col, hdl⟩ := cd
      dsimp only at e1 h3 h4
      subst e1 h4
      have z3 : hdl = false := by cases hdl <;> simp_all
      subst z3
      obtain ⟨sl⟩ := sl
      have e2' : sl = _ := e2
      subst e2'
      exact ⟨nm, q, N, bs, bm, sn, sub, ab, col, dd, k0, k1, k2, k3, k5, e, abvB_ok h5⟩
    · cases h
  · cases h
def bEX (x : Str) (T : List Value) (nw : String) (K : PySem.W.Frag) : Bool :=
  exB K (He.ga K x) T nw && (
  He.eqO (PySem.W.findIn K (.ref (He.ga K x)) "__setattr__") (some (some (.builtin "object.__setattr__"))) && (
  He.eqO (PySem.W.findIn K (.ref (He.ga K x)) "__getattribute__") (some (some (.builtin "BaseException.__getattribute__"))) && (
  He.eqO (PySem.W.findIn K (.ref (He.ga K x)) "__getattr__") (some none) && (
  decide (PySem.W.subIn K (.ref (He.ga K x)) (.type "BaseException") = some true) && (
  decide (PySem.W.typeIn K (.ref (He.ga K x)) = some (.type "type")) && (
  PySem.W.keepIn K (.ref (He.ga K x)) && (
  PySem.W.hasDictIn K (He.ga K x) && (
  He.eqO (PySem.W.findIn K (.ref (He.ga K x)) "__class__") (some (some (.builtin "object.__class__"))) && (
  He.eqO (PySem.W.specialIn K (.builtin "object.__class__") "__get__") (some (some (.builtin "getset_descriptor.__get__"))) && (
  decide (PySem.W.takesIn K (.builtin "object.__class__") = some true) && (
  decide (PySem.W.mroIn K (He.ga K x) (.type "object") = some true) &&
  decide (PySem.W.subIn K (.ref (He.ga K x)) (.ref (He.ga K x)) = some true))))))))))))
theorem ey_z {K : PySem.W.Frag} {x : Str} {T : List Value} {nw : String} (h : bEX x T nw K = true) : EY K (He.ga K x) T nw := by
  obtain ⟨a1, h⟩ := He.ba h
  obtain ⟨a2, h⟩ := He.ba h
  obtain ⟨a3, h⟩ := He.ba h
  obtain ⟨a4, h⟩ := He.ba h
  obtain ⟨a5, h⟩ := He.ba h
  obtain ⟨a6, h⟩ := He.ba h
  obtain ⟨a7, h⟩ := He.ba h
  obtain ⟨a8, h⟩ := He.ba h
  obtain ⟨a9, h⟩ := He.ba h
  obtain ⟨b1, h⟩ := He.ba h
  obtain ⟨b2, h⟩ := He.ba h
  obtain ⟨b3, b4⟩ := He.ba h
  exact ⟨⟨exB_ok a1, He.eqO_ok a2, of_decide_eq_true a5, of_decide_eq_true a6, a7⟩, ⟨He.eqO_ok a3, He.eqO_ok a4, of_decide_eq_true a5, a8⟩, ⟨He.eqO_ok a3, He.eqO_ok a4, of_decide_eq_true a5, a8, He.eqO_ok a9, He.eqO_ok b1, of_decide_eq_true b2, of_decide_eq_true b3⟩, of_decide_eq_true b4⟩
def bSub (x y : Str) (b : Bool) (K : PySem.W.Frag) : Bool := decide (PySem.W.subIn K (.ref (He.ga K x)) (.ref (He.ga K y)) = some b)
def bSubT (x : Str) (t : String) (b : Bool) (K : PySem.W.Frag) : Bool := decide (PySem.W.subIn K (.ref (He.ga K x)) (.type t) = some b)
def bIc (x : Str) (K : PySem.W.Frag) : Bool := PySem.W.isClsIn K (He.ga K x)
def bTt (x : Str) (K : PySem.W.Frag) : Bool := decide (PySem.W.typeIn K (.ref (He.ga K x)) = some (.type "type"))
def bFC (x m : Str) (v : Value) (K : PySem.W.Frag) : Bool := match PySem.W.findCls K (.ref (He.ga K x)) (.type "type") m with
  | some (.val u) => decide (u = v)
  | _ => false
section
variable {K : PySem.W.Frag} {x y m : Str} {b : Bool}
theorem sub_z (h : bSub x y b K = true) : PySem.W.subIn K (.ref (He.ga K x)) (.ref (He.ga K y)) = some b := of_decide_eq_true h
theorem subT_z {t : String} (h : bSubT x t b K = true) : PySem.W.subIn K (.ref (He.ga K x)) (.type t) = some b := of_decide_eq_true h
theorem ic_z (h : bIc x K = true) : PySem.W.isClsIn K (He.ga K x) = true := h
theorem tt_z (h : bTt x K = true) : PySem.W.typeIn K (.ref (He.ga K x)) = some (.type "type") := of_decide_eq_true h
theorem fc_z {v : Value} (h : bFC x m v K = true) : PySem.W.findCls K (.ref (He.ga K x)) (.type "type") m = some (.val v) := by
  unfold bFC at h
  split at h
  · rename_i u e
    rw [e, of_decide_eq_true h]
  · cases h
end
theorem kit_ref {K : PySem.W.Frag} {D Z : Addr} {b : Bool} (iZ : PySem.W.isClsIn K Z = true) (tZ : PySem.W.typeIn K (.ref Z) = some (.type "type")) (ne : D ≠ Z) (h : PySem.W.subIn K (.ref D) (.ref Z) = some b) : PySem.W.kitOne K (.ref D) (.ref Z) = some b := by
  have h1 : (PySem.W.clsIn K Z).isSome = true := iZ
  unfold PySem.W.kitOne
  rw [if_neg (fun q => ne (Value.ref.inj (beq_iff_eq.mp q)))]
  unfold PySem.W.kitCls
  show (if ((PySem.W.clsIn K Z).isSome && PySem.W.typeIn K (.ref Z) == some (.type "type")) = true then PySem.W.subIn K (.ref D) (.ref Z) else none) = some b
  rw [if_pos (by rw [h1, tZ] <;> rfl)]
  exact h
theorem kit_tyD {K : PySem.W.Frag} {D : Addr} {X : String} {b : Bool} (km : PySem.W.kitMeta X = true) (h : PySem.W.subIn K (.ref D) (.type X) = some b) : PySem.W.kitOne K (.ref D) (.type X) = some b := by
  unfold PySem.W.kitOne
  rw [if_neg (fun q => by
    have z : Value.ref D = Value.type X := beq_iff_eq.mp q
    cases z)]
  show (if PySem.W.kitMeta X = true then PySem.W.subIn K (.ref D) (.type X) else none) = some b
  rw [if_pos km]
  exact h
end SS

set_option maxRecDepth 100000
set_option maxHeartbeats 4000000
namespace SS
open PySem L2 SR TL ClX
theorem all_mk {l : PySem.W.OpenLaw} {w : World} {K : PySem.W.Frag} {h : Heap} {mg : Str → Option Value} {fa C D W Z : Addr} (X : K.In h) (G : h.Ns mainGlobals mg) (hfa : mg "law" = some (.ref fa))
    (aC : PySem.W.nsIn K mainGlobals "Reader" = some (some (.ref C)))
    (aD : PySem.W.nsIn K mainGlobals "InvalidState" = some (some (.ref D)))
    (aW : PySem.W.nsIn K mainGlobals "InvalidWord" = some (some (.ref W)))
    (aZ : PySem.W.nsIn K mainGlobals "SlotsError" = some (some (.ref Z)))
    (clC : CL K C)
    (nC_rows : PySem.W.findIn K (.ref C) "rows" = some none)
    (nC_end_list : PySem.W.findIn K (.ref C) "end_list" = some none)
    (nC_own_start : PySem.W.findIn K (.ref C) "own_start" = some none)
    (rdC : PySem.W.readsIn K C (.type "type") = true)
    (gaC : PySem.W.specialIn K (.ref C) "__getattribute__" = some (some (.builtin "type.__getattribute__")))
    (mC_len : ME K C "__len__" "Reader.__len__" sRLen)
    (mC_contains : ME K C "__contains__" "Reader.__contains__" sRCon)
    (mC_move : ME K C "move" "Reader.move" sMov)
    (mC_moves : ME K C "moves" "Reader.moves" sMvs)
    (vC_MAX_STATES : CV K C "MAX_STATES" (.int 12))
    (nD_value : PySem.W.findIn K (.ref D) "value" = some none)
    (nW_value : PySem.W.findIn K (.ref W) "value" = some none)
    (rdZ : PySem.W.readsIn K Z (.type "type") = true)
    (gaZ : PySem.W.specialIn K (.ref Z) "__getattribute__" = some (some (.builtin "type.__getattribute__")))
    (iC : MDK K C "__init__" "Reader.__init__" sIni)
    (eD : EY K D tlV "ValueError.__new__")
    (iD : MI K D "__init__" "InvalidState.__init__" sIsi)
    (sZD : PySem.W.subIn K (.ref D) (.ref Z) = some true)
    (sDZ : PySem.W.subIn K (.ref Z) (.ref D) = some false)
    (sSD : PySem.W.subIn K (.ref D) (.type "StopIteration") = some false)
    (eW : EY K W tlV "ValueError.__new__")
    (iW : MI K W "__init__" "InvalidWord.__init__" sIwi)
    (sZW : PySem.W.subIn K (.ref W) (.ref Z) = some true)
    (sWZ : PySem.W.subIn K (.ref Z) (.ref W) = some false)
    (sSW : PySem.W.subIn K (.ref W) (.type "StopIteration") = some false)
    (sDW : PySem.W.subIn K (.ref W) (.ref D) = some false)
    (icZ : PySem.W.isClsIn K Z = true)
    (ttZ : PySem.W.typeIn K (.ref Z) = some (.type "type"))
    (vIZ : PySem.W.findCls K (.ref Z) (.type "type") "__init__" = some (.val (.builtin "ValueError.__init__")))
    (zpN : PySem.W.nsIn K mainGlobals "zip" = some none)
    (gR : PySem.W.nsIn K mainGlobals "_law_refused" = some (some (.ref (He.ga K "_law_refused"))))
    (fr : FR K)
    (g_is_word : GF K "is_word" sWord)
    (g_is_sign : GF K "is_sign" sSign)
    (g_is_mark : GF K "is_mark" sMark)
    (g_is_name : GF K "is_name" sName)
    (g_is_below : GF K "is_below" sNum)
    (g_are_different : GF K "are_different" sSta)
    (g_is_move : GF K "is_move" sMove)
    (g_is_state_dict : GF K "is_state_dict" sSdi)
    (g_told_in : GF K "told_in" sTol)
    (g_signs_in : GF K "signs_in" sSgi)
    (g_reader_problem : GF K "reader_problem" sPrb)
    (g_require_state : GF K "require_state" sRqs)
    (g_require_word : GF K "require_word" sRqw)
    (g_walked : GF K "walked" sWlk)
    (g_passed : GF K "passed" sPas)
    (g_steps : GF K "steps" sStp)
    (g__law_rng : GF K "_law_rng" sRng)
    (g__law_draw : GF K "_law_draw" sDraw)
    (g__law_choice : GF K "_law_choice" sChoice)
    (g__law_letters : GF K "_law_letters" sLetters)
    (g__law_marks : GF K "_law_marks" sMarks)
    (g__law_any_format : GF K "_law_any_format" sAny)
    (g__law_family : GF K "_law_family" sFam)
    (g__law_bent : GF K "_law_bent" sBent)
    (g__law_format : GF K "_law_format" sFmt)
    (g__law_walked : GF K "_law_walked" sLWk)
    (g__law_due : GF K "_law_due" sLDu)
    (g__law_error : GF K "_law_error" sErr)
    (g__law_words : GF K "_law_words" sLWd)
    (g__law_refused : GF K "_law_refused" sRef)
    (g__law_right : GF K "_law_right" sRight)
    (g_law : GF K "law" sLaw)
    (c_LETTERS : CS K "LETTERS" (.str (Str.ofString "abcdefghijklmnopqrstuvwxyz")))
    (c_LONGEST_NAME : CS K "LONGEST_NAME" (.int 8))
    (c_MOST_PAGE_SIGNS : CS K "MOST_PAGE_SIGNS" (.int 6))
    (c_MOST_TEXT_SIGNS : CS K "MOST_TEXT_SIGNS" (.int 4))
    (c_MOST_MARKS : CS K "MOST_MARKS" (.int 6))
    : ∃ fd : FuncData, (∀ (s : Shared) (v : Value), BindsTo s fd ⟨[v], []⟩ [("_law_script", v)]) ∧ ∀ base : Heap, K.In base → base.Ns mainGlobals mg → LamX.TabB base mg (He.cT K ("_law_refused", none)).1 (He.cT K ("_law_refused", none)).2 → FnG l.prog w K mg base 12 fa fd ["_law_script"] (spLaw K (He.cT K ("_law_refused", none)).2) := by
  obtain ⟨fL, ocL, odL, anL, slL, kVL, dcL, pmL, cdL, ctL, aL, lL, cL, kL⟩ := g_law
  have e := hfa.symm.trans (PySem.W.mg_of X G aL)
  cases e
  have FL := fun_mk (st := sLaw) lL cL kL
  refine ⟨PySem.W.fnOf "law" "law" (defArgs sLaw) (defBody sLaw) (defScope sLaw) .none kVL dcL pmL anL cdL ctL, fun s v => .of_eq rfl, fun base _ _ TB => ?_⟩
  have B : Bl mg := fr.bl X G
  have Bz : mg "zip" = none := PySem.W.mg_none_of X G zpN
  have Cc : SS.Cn mg := by
    obtain ⟨_, h1, t1, rfl⟩ := c_LETTERS
    obtain ⟨_, h2, t2, rfl⟩ := c_LONGEST_NAME
    obtain ⟨_, h3, t3, rfl⟩ := c_MOST_PAGE_SIGNS
    obtain ⟨_, h4, t4, rfl⟩ := c_MOST_TEXT_SIGNS
    obtain ⟨_, h5, t5, rfl⟩ := c_MOST_MARKS
    exact ⟨⟨t1, PySem.W.mg_of X G h1⟩, ⟨t2, PySem.W.mg_of X G h2⟩, ⟨t3, PySem.W.mg_of X G h3⟩, ⟨t4, PySem.W.mg_of X G h4⟩, ⟨t5, PySem.W.mg_of X G h5⟩⟩
  have mC := PySem.W.mg_of X G aC
  have mD := PySem.W.mg_of X G aD
  have mW := PySem.W.mg_of X G aW
  have mZ := PySem.W.mg_of X G aZ
  have T : RTx K mg C := ⟨⟨clC.pg, clC.hd, clC.po, clC.sa⟩, nC_rows, nC_end_list, nC_own_start, mC⟩
  have Gm : RdM K mg C := by
    obtain ⟨u, h6, h7⟩ := vC_MAX_STATES
    exact ⟨mC, .type "type", u, ⟨rdC, gaC⟩, ⟨h6, h7⟩⟩
  have Wd : Cal l.prog w K mg base "is_word" 1 ["value"] spWord := g_is_word.cal X G (fun _ _ _ _ _ _ us hl => match us, hl with | [_], _ => rfl) fun f fd F => ok_word F B Cc
  have Sg : Cal l.prog w K mg base "is_sign" 2 ["value"] spSign := g_is_sign.cal X G (fun _ _ _ _ _ _ us hl => match us, hl with | [_], _ => rfl) fun f fd F => ok_sign F B Wd
  have Mk : Cal l.prog w K mg base "is_mark" 2 ["value"] spMark := g_is_mark.cal X G (fun _ _ _ _ _ _ us hl => match us, hl with | [_], _ => rfl) fun f fd F => ok_mark F B Cc Wd
  have Nm : Cal l.prog w K mg base "is_name" 3 ["value"] spName := g_is_name.cal X G (fun _ _ _ _ _ _ us hl => match us, hl with | [_], _ => rfl) fun f fd F => ok_name F Sg Mk
  have Nu : Cal l.prog w K mg base "is_below" 1 ["value", "limit"] spNum := g_is_below.cal X G (fun _ _ _ _ _ _ us hl => match us, hl with | [_, _], _ => rfl) fun f fd F => ok_num F B
  have NuV : Cal l.prog w K mg base "is_below" 1 ["value", "limit"] spNumV := g_is_below.cal X G (fun _ _ _ _ _ _ us hl => match us, hl with | [_, _], _ => rfl) fun f fd F => ok_numV F B
  have Sa : Cal l.prog w K mg base "are_different" 2 ["value", "limit"] (spSta K) := g_are_different.cal X G (fun _ _ _ _ _ _ us hl => match us, hl with | [_, _], _ => rfl) fun f fd F => ok_sta F B Nu
  have Mo : Cal l.prog w K mg base "is_move" 4 ["value", "many"] spMove := g_is_move.cal X G (fun _ _ _ _ _ _ us hl => match us, hl with | [_, _], _ => rfl) fun f fd F => ok_move F B Nu Nm
  have Sd : Cal l.prog w K mg base "is_state_dict" 5 ["value", "many"] spSdi := g_is_state_dict.cal X G (fun _ _ _ _ _ _ us hl => match us, hl with | [_, _], _ => rfl) fun f fd F => ok_sdi F B Sg Mo
  have To : Cal l.prog w K mg base "told_in" 1 ["rows"] spTol := g_told_in.cal X G (fun _ _ _ _ _ _ us hl => match us, hl with | [_], _ => rfl) fun f fd F => ok_tol F B
  have Si : Cal l.prog w K mg base "signs_in" 1 ["rows"] spSgi := g_signs_in.cal X G (fun _ _ _ _ _ _ us hl => match us, hl with | [_], _ => rfl) fun f fd F => ok_sgi F B
  have Pb : Cal l.prog w K mg base "reader_problem" 6 ["states", "ends", "start"] (spPrb K) := g_reader_problem.cal X G (fun _ _ _ _ _ _ us hl => match us, hl with | [_, _, _], _ => rfl) fun f fd F => ok_prb F B Cc Gm Sd Sa Nu Si To Sg Mk
  obtain ⟨fI, fdI, eI, aI, iI, FI, em⟩ := iC.fun
  have I : RdK l.prog w K mg base C fI fdI eI := rdK_of FI ⟨clC.ma, aI, iI, clC.kc⟩ mC (ok_ini FI B T Pb) em
  obtain ⟨f1, fd1, F1, a1, i1, _⟩ := mC_len.fun
  obtain ⟨f2, fd2, F2, a2, i2, _⟩ := mC_contains.fun
  obtain ⟨f4, fd4, F4, a4, i4, k4⟩ := mC_move.fun
  obtain ⟨f5, fd5, F5, a5, i5, k5⟩ := mC_moves.fun
  have zv : ZinV K mg "SlotsError" Z := ⟨mZ, ⟨rdZ, gaZ⟩, vIZ⟩
  have TD : IsT K mg D Z := ⟨eD.ox, nD_value, mD, zv⟩
  have TW : IwT K mg W Z := ⟨eW.ox, nW_value, mW, zv⟩
  obtain ⟨fD, dD', FD, aD', tD⟩ := iD.fun
  obtain ⟨fW, dW', FW, aW', tW⟩ := iW.fun
  have IS : Is l.prog w K mg base D Z := ⟨TD, fD, dD', aD', tD, ok_isi FD TD, FD.binds (fun _ _ _ _ _ _ us hl => match us, hl with | [_, _], _ => rfl)⟩
  have IW : Iw l.prog w K mg base W Z := ⟨TW, fW, dW', aW', tW, ok_iwi FW TW, FW.binds (fun _ _ _ _ _ _ us hl => match us, hl with | [_, _], _ => rfl)⟩
  have CV : ConV l.prog w K mg base C := ⟨⟨f2, _, ok_rconV F2 B T NuV, a2, i2, F2.binds (fun _ _ _ _ _ _ us hl => match us, hl with | [_, _], _ => rfl)⟩⟩
  have Rs : CalX l.prog w K mg base "require_state" 3 psRqs (spRqS C D K) := by
    obtain ⟨f, fd, F, m, kp⟩ := g_require_state.fun X G
    exact ⟨⟨f, fd, ok_rqS F IS CV, m, kp, F.binds (fun _ _ _ _ _ _ us hl => match us, hl with | [_, _], _ => rfl)⟩⟩
  have Rw : CalX l.prog w K mg base "require_word" 3 psRqw (spRqX K W) := by
    obtain ⟨f, fd, F, m, kp⟩ := g_require_word.fun X G
    exact ⟨⟨f, fd, ok_rqX F IW Wd, m, kp, F.binds (fun _ _ _ _ _ _ us hl => match us, hl with | [_], _ => rfl)⟩⟩
  have Wl : Cal l.prog w K mg base "walked" 1 ["reader", "state", "word"] (spWlk C) := g_walked.cal X G (fun _ _ _ _ _ _ us hl => match us, hl with | [_, _, _], _ => rfl) fun f fd F => ok_wlk F B T
  have Pa : CalX l.prog w K mg base "passed" 4 psPas (spPas C D W K) := by
    obtain ⟨f, fd, F, m, kp⟩ := g_passed.fun X G
    exact ⟨⟨f, fd, ok_pas F Rs Rw Wl, m, kp, F.binds (fun _ _ _ _ _ _ us hl => match us, hl with | [_, _, _], _ => rfl)⟩⟩
  have Pk : ∃ f fd g, FnOk l.prog w K mg base (L2.CX l.prog w) 4 f fd psPas (spPas C D W K) ∧ mg "passed" = some (.ref f) ∧ PySem.W.keepIn K (.ref f) = true ∧ KBn K fd psPas 0 ["word", "state", "reader"] g gW3 := by
    obtain ⟨f, fd, F, m, kp⟩ := g_passed.fun X G
    exact ⟨f, fd, _, ok_pas F Rs Rw Wl, m, kp, SR.Fun.kb3 F rfl fun _ _ _ _ _ _ _ _ _ => rfl⟩
  have St : CalGn l.prog w K mg base "steps" 4 psStp (spStp C W K) := by
    obtain ⟨f, fd, F, m, kp⟩ := g_steps.fun X G
    exact ⟨⟨f, fd, ok_stp F T Rw, m, kp, F.binds (fun _ _ _ _ _ _ us hl => match us, hl with | [_, _], _ => rfl)⟩⟩
  have Sk : ∃ f fd g, GFn l.prog w K mg base 4 f fd psStp (spStp C W K) ∧ mg "steps" = some (.ref f) ∧ PySem.W.keepIn K (.ref f) = true ∧ KBn K fd psStp 0 ["page", "reader"] g gW2 := by
    obtain ⟨f, fd, F, m, kp⟩ := g_steps.fun X G
    exact ⟨f, fd, _, ok_stp F T Rw, m, kp, SR.Fun.kb2 F rfl fun _ _ _ _ _ _ _ _ => rfl⟩
  have ER : ErrS K mg D W Z := ⟨eW.xf, eW.exc, eD.xf, eD.exc, nD_value, nW_value, mD, mW, mZ, kit_ref icZ ttZ (fun z => by rw [← z, eD.own] at sDZ; cases sDZ) sZD, kit_ref icZ ttZ (fun z => by rw [← z, eW.own] at sWZ; cases sWZ) sZW, eD.exm eD.own, eD.exm sDW, eW.exm eW.own⟩
  have Er : ∃ g fdg, Fun K "_law_error" "_law_error" sErr g fdg ∧ mg "_law_error" = some (.ref g) ∧ PySem.W.keepIn K (.ref g) = true ∧ Binds K fdg ["_law_call"] [] := by
    obtain ⟨f, fd, F, m, kp⟩ := g__law_error.fun X G
    exact ⟨f, fd, F, m, kp, F.binds (fun _ _ _ _ _ _ us hl => match us, hl with | [_], _ => rfl)⟩
  have Rn : Cal l.prog w K mg base "_law_rng" 1 ["_law_script", "_law_k"] (spRng K) := g__law_rng.cal X G (fun _ _ _ _ _ _ us hl => match us, hl with | [_, _], _ => rfl) fun f fd F => ok_rng (ok_rng1 F B) rfl
  have Dr : Cal l.prog w K mg base "_law_draw" 1 ["_law_rng_here", "_law_many"] spDraw := g__law_draw.cal X G (fun _ _ _ _ _ _ us hl => match us, hl with | [_, _], _ => rfl) fun f fd F => ok_draw (ok_draw1 F B) rfl
  have Ch : Cal l.prog w K mg base "_law_choice" 2 ["_law_rng_here", "_law_some"] (spChoice K) := g__law_choice.cal X G (fun _ _ _ _ _ _ us hl => match us, hl with | [_, _], _ => rfl) fun f fd F => ok_choice F B Dr
  have Le : Cal l.prog w K mg base "_law_letters" 2 ["_law_rng_here", "_law_many"] spLetters := g__law_letters.cal X G (fun _ _ _ _ _ _ us hl => match us, hl with | [_, _], _ => rfl) fun f fd F => ok_letters F B Dr
  have Ma : Cal l.prog w K mg base "_law_marks" 2 ["_law_rng_here", "_law_many"] spMarks := g__law_marks.cal X G (fun _ _ _ _ _ _ us hl => match us, hl with | [_, _], _ => rfl) fun f fd F => ok_marks F B Dr
  have An : Cal l.prog w K mg base "_law_any_format" 3 ["_law_rng_here", "_law_cap", "_law_paper", "_law_tells", "_law_marks_here"] spAny := g__law_any_format.cal X G (fun _ _ _ _ _ _ us hl => match us, hl with | [_, _, _, _, _], _ => rfl) fun f fd F => ok_any F B Dr Ch
  have Fa : Cal l.prog w K mg base "_law_family" 1 ["_law_way", "_law_paper", "_law_tells", "_law_marks_here"] spFam := g__law_family.cal X G (fun _ _ _ _ _ _ us hl => match us, hl with | [_, _, _, _], _ => rfl) fun f fd F => ok_fam F B
  have Bt : Cal l.prog w K mg base "_law_bent" 3 ["_law_rng_here", "_law_model", "_law_paper", "_law_tells", "_law_marks_here"] spBent := g__law_bent.cal X G (fun _ _ _ _ _ _ us hl => match us, hl with | [_, _, _, _, _], _ => rfl) fun f fd F => ok_bent F B Dr Ch
  have Fo : Cal l.prog w K mg base "_law_format" 4 ["_law_rng_here", "_law_cap", "_law_paper", "_law_tells", "_law_marks_here"] spFmt := g__law_format.cal X G (fun _ _ _ _ _ _ us hl => match us, hl with | [_, _, _, _, _], _ => rfl) fun f fd F => ok_fmt F Dr An Fa Bt
  have Wk : Cal l.prog w K mg base "_law_walked" 1 ["_law_rows", "_law_spot", "_law_letters_here"] spLWk := g__law_walked.cal X G (fun _ _ _ _ _ _ us hl => match us, hl with | [_, _, _], _ => rfl) fun f fd F => ok_lwk F B
  have Du : Cal l.prog w K mg base "_law_due" 2 ["_law_rows", "_law_spot", "_law_letters_here"] spLDu := g__law_due.cal X G (fun _ _ _ _ _ _ us hl => match us, hl with | [_, _, _], _ => rfl) fun f fd F => ok_ldu F B Wk
  have Wo : Cal l.prog w K mg base "_law_words" 3 ["_law_rng_here", "_law_abc", "_law_other"] spLWd := g__law_words.cal X G (fun _ _ _ _ _ _ us hl => match us, hl with | [_, _, _], _ => rfl) fun f fd F => ok_lwd F B Dr Ch
  have RM : RefM l.prog w K mg base C D W Z := ⟨Ch, Pa, ⟨f4, _, ok_movS F4 Rs, ⟨a4, i4, k4⟩, F4.binds (fun _ _ _ _ _ _ us hl => match us, hl with | [_, _, _], _ => rfl)⟩, ⟨f5, _, ok_mvsS F5 Rs, ⟨a5, i5, k5⟩, F5.binds (fun _ _ _ _ _ _ us hl => match us, hl with | [_, _], _ => rfl)⟩, St, ⟨f1, _, ok_rlen F1 B T, a1, i1, F1.binds (fun _ _ _ _ _ _ us hl => match us, hl with | [_], _ => rfl)⟩, T.cl, sSD, sSW, Er, ER⟩
  have Rf : CalG l.prog w K mg base "_law_refused" 10 psRef (spRef C (He.cT K ("_law_refused", none)).2) := by
    obtain ⟨f, fd, F, m, kp⟩ := g__law_refused.fun X G
    have e : f = He.ga K "_law_refused" := by
      have z := m.symm.trans (PySem.W.mg_of X G gR)
      cases z
      rfl
    exact ⟨⟨f, fd, ok_ref F (code_z F e) TB B Bz RM, m, kp, F.binds (fun _ _ _ _ _ _ us hl => match us, hl with | [_, _], _ => rfl)⟩⟩
  have LR : LawR l.prog w K mg base C D W (He.cT K ("_law_refused", none)).2 := ⟨Le, Ma, Fo, An, Dr, Wo, Wk, Du, St, Sk, Pa, Pk, Rf⟩
  have Ri : CalG l.prog w K mg base "_law_right" 11 ["_law_rng_here"] (spRight (He.cT K ("_law_refused", none)).2) := g__law_right.calG X G (fun _ _ _ _ _ _ us hl => match us, hl with | [_], _ => rfl) fun f fd F => ok_right F B I LR
  exact ok_law FL B Rn Ri
end SS

set_option maxRecDepth 100000
set_option maxHeartbeats 0
namespace SS
open PySem L2 SR TL
/-! ### the head: facts by names, the run -/
def zFs0 : List (PySem.W.Frag → Bool) := [bGlo "Reader", bGlo "InvalidState", bGlo "InvalidWord", bGlo "SlotsError", bCL "Reader", bNo "Reader" "rows", bNo "Reader" "end_list", bNo "Reader" "own_start", bRd "Reader", bGa "Reader", bMe "Reader" "__len__", bMe "Reader" "__contains__", bMe "Reader" "move", bMe "Reader" "moves", bCV "Reader" "MAX_STATES" (.int 12), bNo "InvalidState" "value", bNo "InvalidWord" "value", bRd "SlotsError", bGa "SlotsError", bMe "Reader" "__init__", bTup (dfl0 fun K => He.ma K (He.ga K "Reader") "__init__"), bEX "InvalidState" tlV "ValueError.__new__", bMI "InvalidState" "__init__", bSub "InvalidState" "SlotsError" true, bSub "SlotsError" "InvalidState" false]
def zFs1 : List (PySem.W.Frag → Bool) := [bSubT "InvalidState" "StopIteration" false, bEX "InvalidWord" tlV "ValueError.__new__", bMI "InvalidWord" "__init__", bSub "InvalidWord" "SlotsError" true, bSub "SlotsError" "InvalidWord" false, bSubT "InvalidWord" "StopIteration" false, bSub "InvalidWord" "InvalidState" false, bIc "SlotsError", bTt "SlotsError", bFC "SlotsError" "__init__" (.builtin "ValueError.__init__"), bFree "zip", bGlo "_law_refused", bFR, bGlo "is_word", bGlo "is_sign", bGlo "is_mark", bGlo "is_name", bGlo "is_below", bGlo "are_different", bGlo "is_move", bGlo "is_state_dict", bGlo "told_in", bGlo "signs_in", bGlo "reader_problem", bGlo "require_state"]
def zFs2 : List (PySem.W.Frag → Bool) := [bGlo "require_word", bGlo "walked", bGlo "passed", bGlo "steps", bGlo "_law_rng", bGlo "_law_draw", bGlo "_law_choice", bGlo "_law_letters", bGlo "_law_marks", bGlo "_law_any_format", bGlo "_law_family", bGlo "_law_bent", bGlo "_law_format", bGlo "_law_walked", bGlo "_law_due", bGlo "_law_error", bGlo "_law_words", bGlo "_law_right", bGlo "law", bCS "LETTERS" (.str (Str.ofString "abcdefghijklmnopqrstuvwxyz")), bCS "LONGEST_NAME" (.int 8), bCS "MOST_PAGE_SIGNS" (.int 6), bCS "MOST_TEXT_SIGNS" (.int 4), bCS "MOST_MARKS" (.int 6)]
def zFs : List (PySem.W.Frag → Bool) := zFs0 ++ zFs1 ++ zFs2
def zFn0 : List (He5.DefA) := [dM "Reader" "__len__" "Reader.__len__" sRLen, dM "Reader" "__contains__" "Reader.__contains__" sRCon, dM "Reader" "move" "Reader.move" sMov, dM "Reader" "moves" "Reader.moves" sMvs, dD "Reader" "__init__" "Reader.__init__" sIni [("start", .int 0)], dM "InvalidState" "__init__" "InvalidState.__init__" sIsi, dM "InvalidWord" "__init__" "InvalidWord.__init__" sIwi, dG "is_word" sWord, dG "is_sign" sSign, dG "is_mark" sMark, dG "is_name" sName, dG "is_below" sNum, dG "are_different" sSta, dG "is_move" sMove, dG "is_state_dict" sSdi, dG "told_in" sTol, dG "signs_in" sSgi, dG "reader_problem" sPrb, dG "require_state" sRqs, dG "require_word" sRqw, dG "walked" sWlk, dG "passed" sPas, dG "steps" sStp, dG "_law_rng" sRng, dG "_law_draw" sDraw]
def zFn1 : List (He5.DefA) := [dG "_law_choice" sChoice, dG "_law_letters" sLetters, dG "_law_marks" sMarks, dG "_law_any_format" sAny, dG "_law_family" sFam, dG "_law_bent" sBent, dG "_law_format" sFmt, dG "_law_walked" sLWk, dG "_law_due" sLDu, dG "_law_error" sErr, dG "_law_words" sLWd, dG "_law_refused" sRef, dG "_law_right" sRight, dG "law" sLaw]
def zFn : List (He5.DefA) := zFn0 ++ zFn1
def zNames0 : List (PySem.Str) := ["_wall", "SlotsError", "InvalidReader", "InvalidState", "InvalidWord", "LETTERS", "LONGEST_NAME", "MOST_PAGE_SIGNS", "MOST_TEXT_SIGNS", "MOST_MARKS", "is_word", "is_sign", "is_mark", "is_name", "is_below", "are_different", "is_move", "is_state_dict", "told_in", "signs_in", "reader_problem", "Reader", "require_state", "require_word", "walked"]
def zNames1 : List (PySem.Str) := ["passed", "steps", "_law_rng", "_law_draw", "_law_choice", "_law_letters", "_law_marks", "_law_any_format", "_law_family", "_law_bent", "_law_format", "_law_walked", "_law_due", "_law_error", "_law_words", "_law_refused", "_law_right"]
def zNames : List (PySem.Str) := zNames0 ++ zNames1
theorem zRun (w : World) : HandSHeadRun.RunEq (PySem.W.OpenLaw.row PySem.Challenge.rw_sealedslots_k14_steps_and_passed) (PySem.W.view (PySem.W.OpenLaw.row PySem.Challenge.rw_sealedslots_k14_steps_and_passed).prog [46]) (Hz.hookY zFs zFn ("_law_refused", none)) (Hz.obY zFs zFn ("_law_refused", none)) 20000 zNames w := by
  intro os
  kernel_rfl
theorem zFacts {l : PySem.W.OpenLaw} {w : World} {K : PySem.W.Frag} {h : Heap} {mg : Str → Option Value} {fa : Addr} (X : K.In h) (G : h.Ns mainGlobals mg) (hfa : mg "law" = some (.ref fa)) (c : Hz.SaysZ zFs zFn K) :
    ∃ fd : FuncData, (∀ (s : Shared) (v : Value), BindsTo s fd ⟨[v], []⟩ [("_law_script", v)]) ∧ ∀ base : Heap, K.In base → base.Ns mainGlobals mg → LamX.TabB base mg (He.cT K ("_law_refused", none)).1 (He.cT K ("_law_refused", none)).2 → FnG l.prog w K mg base 12 fa fd ["_law_script"] (spLaw K (He.cT K ("_law_refused", none)).2) :=
  all_mk (l := l) (w := w) (h := h) (mg := mg) (fa := fa) (C := He.ga K "Reader") (D := He.ga K "InvalidState") (W := He.ga K "InvalidWord") (Z := He.ga K "SlotsError") X G hfa
    -- aC
    (glo_z (c.fact 0 (f := bGlo "Reader") rfl))
    -- aD
    (glo_z (c.fact 1 (f := bGlo "InvalidState") rfl))
    -- aW
    (glo_z (c.fact 2 (f := bGlo "InvalidWord") rfl))
    -- aZ
    (glo_z (c.fact 3 (f := bGlo "SlotsError") rfl))
    -- clC
    (cl_z (c.fact 4 (f := bCL "Reader") rfl))
    -- no
    (no_z (c.fact 5 (f := bNo "Reader" "rows") rfl))
    -- no
    (no_z (c.fact 6 (f := bNo "Reader" "end_list") rfl))
    -- no
    (no_z (c.fact 7 (f := bNo "Reader" "own_start") rfl))
    -- rd
    (rd_z (c.fact 8 (f := bRd "Reader") rfl))
    -- ga
    (ga_z (c.fact 9 (f := bGa "Reader") rfl))
    -- m
    (me_z (qual := "Reader.__len__") (st := sRLen) (c.fact 10 (f := bMe "Reader" "__len__") rfl) (c.def_ 0 (d := dM "Reader" "__len__" "Reader.__len__" sRLen) rfl))
    -- m
    (me_z (qual := "Reader.__contains__") (st := sRCon) (c.fact 11 (f := bMe "Reader" "__contains__") rfl) (c.def_ 1 (d := dM "Reader" "__contains__" "Reader.__contains__" sRCon) rfl))
    -- m
    (me_z (qual := "Reader.move") (st := sMov) (c.fact 12 (f := bMe "Reader" "move") rfl) (c.def_ 2 (d := dM "Reader" "move" "Reader.move" sMov) rfl))
    -- m
    (me_z (qual := "Reader.moves") (st := sMvs) (c.fact 13 (f := bMe "Reader" "moves") rfl) (c.def_ 3 (d := dM "Reader" "moves" "Reader.moves" sMvs) rfl))
    -- v
    (cv_z (c.fact 14 (f := bCV "Reader" "MAX_STATES" (.int 12)) rfl))
    -- no
    (no_z (c.fact 15 (f := bNo "InvalidState" "value") rfl))
    -- no
    (no_z (c.fact 16 (f := bNo "InvalidWord" "value") rfl))
    -- rd
    (rd_z (c.fact 17 (f := bRd "SlotsError") rfl))
    -- ga
    (ga_z (c.fact 18 (f := bGa "SlotsError") rfl))
    -- iC
    (mdk_z (qual := "Reader.__init__") (st := sIni) (c.fact 19 (f := bMe "Reader" "__init__") rfl) (c.fact 20 (f := bTup (dfl0 fun K => He.ma K (He.ga K "Reader") "__init__")) rfl) (c.def_ 4 (d := dD "Reader" "__init__" "Reader.__init__" sIni [("start", .int 0)]) rfl))
    -- eD
    (ey_z (c.fact 21 (f := bEX "InvalidState" tlV "ValueError.__new__") rfl))
    -- iD
    (mi_z (qual := "InvalidState.__init__") (st := sIsi) (c.fact 22 (f := bMI "InvalidState" "__init__") rfl) (c.def_ 5 (d := dM "InvalidState" "__init__" "InvalidState.__init__" sIsi) rfl))
    -- sZD
    (sub_z (c.fact 23 (f := bSub "InvalidState" "SlotsError" true) rfl))
    -- sDZ
    (sub_z (c.fact 24 (f := bSub "SlotsError" "InvalidState" false) rfl))
    -- sSD
    (subT_z (c.fact 25 (f := bSubT "InvalidState" "StopIteration" false) rfl))
    -- eW
    (ey_z (c.fact 26 (f := bEX "InvalidWord" tlV "ValueError.__new__") rfl))
    -- iW
    (mi_z (qual := "InvalidWord.__init__") (st := sIwi) (c.fact 27 (f := bMI "InvalidWord" "__init__") rfl) (c.def_ 6 (d := dM "InvalidWord" "__init__" "InvalidWord.__init__" sIwi) rfl))
    -- sZW
    (sub_z (c.fact 28 (f := bSub "InvalidWord" "SlotsError" true) rfl))
    -- sWZ
    (sub_z (c.fact 29 (f := bSub "SlotsError" "InvalidWord" false) rfl))
    -- sSW
    (subT_z (c.fact 30 (f := bSubT "InvalidWord" "StopIteration" false) rfl))
    -- sDW
    (sub_z (c.fact 31 (f := bSub "InvalidWord" "InvalidState" false) rfl))
    -- icZ
    (ic_z (c.fact 32 (f := bIc "SlotsError") rfl))
    -- ttZ
    (tt_z (c.fact 33 (f := bTt "SlotsError") rfl))
    -- vIZ
    (fc_z (c.fact 34 (f := bFC "SlotsError" "__init__" (.builtin "ValueError.__init__")) rfl))
    -- zpN
    (free_z (c.fact 35 (f := bFree "zip") rfl))
    -- gR
    (glo_z (c.fact 36 (f := bGlo "_law_refused") rfl))
    -- fr
    (fr_z (c.fact 37 (f := bFR) rfl))
    -- g_is_word
    (gf_z (st := sWord) (c.fact 38 (f := bGlo "is_word") rfl) (c.def_ 7 (d := dG "is_word" sWord) rfl))
    -- g_is_sign
    (gf_z (st := sSign) (c.fact 39 (f := bGlo "is_sign") rfl) (c.def_ 8 (d := dG "is_sign" sSign) rfl))
    -- g_is_mark
    (gf_z (st := sMark) (c.fact 40 (f := bGlo "is_mark") rfl) (c.def_ 9 (d := dG "is_mark" sMark) rfl))
    -- g_is_name
    (gf_z (st := sName) (c.fact 41 (f := bGlo "is_name") rfl) (c.def_ 10 (d := dG "is_name" sName) rfl))
    -- g_is_below
    (gf_z (st := sNum) (c.fact 42 (f := bGlo "is_below") rfl) (c.def_ 11 (d := dG "is_below" sNum) rfl))
    -- g_are_different
    (gf_z (st := sSta) (c.fact 43 (f := bGlo "are_different") rfl) (c.def_ 12 (d := dG "are_different" sSta) rfl))
    -- g_is_move
    (gf_z (st := sMove) (c.fact 44 (f := bGlo "is_move") rfl) (c.def_ 13 (d := dG "is_move" sMove) rfl))
    -- g_is_state_dict
    (gf_z (st := sSdi) (c.fact 45 (f := bGlo "is_state_dict") rfl) (c.def_ 14 (d := dG "is_state_dict" sSdi) rfl))
    -- g_told_in
    (gf_z (st := sTol) (c.fact 46 (f := bGlo "told_in") rfl) (c.def_ 15 (d := dG "told_in" sTol) rfl))
    -- g_signs_in
    (gf_z (st := sSgi) (c.fact 47 (f := bGlo "signs_in") rfl) (c.def_ 16 (d := dG "signs_in" sSgi) rfl))
    -- g_reader_problem
    (gf_z (st := sPrb) (c.fact 48 (f := bGlo "reader_problem") rfl) (c.def_ 17 (d := dG "reader_problem" sPrb) rfl))
    -- g_require_state
    (gf_z (st := sRqs) (c.fact 49 (f := bGlo "require_state") rfl) (c.def_ 18 (d := dG "require_state" sRqs) rfl))
    -- g_require_word
    (gf_z (st := sRqw) (c.fact 50 (f := bGlo "require_word") rfl) (c.def_ 19 (d := dG "require_word" sRqw) rfl))
    -- g_walked
    (gf_z (st := sWlk) (c.fact 51 (f := bGlo "walked") rfl) (c.def_ 20 (d := dG "walked" sWlk) rfl))
    -- g_passed
    (gf_z (st := sPas) (c.fact 52 (f := bGlo "passed") rfl) (c.def_ 21 (d := dG "passed" sPas) rfl))
    -- g_steps
    (gf_z (st := sStp) (c.fact 53 (f := bGlo "steps") rfl) (c.def_ 22 (d := dG "steps" sStp) rfl))
    -- g__law_rng
    (gf_z (st := sRng) (c.fact 54 (f := bGlo "_law_rng") rfl) (c.def_ 23 (d := dG "_law_rng" sRng) rfl))
    -- g__law_draw
    (gf_z (st := sDraw) (c.fact 55 (f := bGlo "_law_draw") rfl) (c.def_ 24 (d := dG "_law_draw" sDraw) rfl))
    -- g__law_choice
    (gf_z (st := sChoice) (c.fact 56 (f := bGlo "_law_choice") rfl) (c.def_ 25 (d := dG "_law_choice" sChoice) rfl))
    -- g__law_letters
    (gf_z (st := sLetters) (c.fact 57 (f := bGlo "_law_letters") rfl) (c.def_ 26 (d := dG "_law_letters" sLetters) rfl))
    -- g__law_marks
    (gf_z (st := sMarks) (c.fact 58 (f := bGlo "_law_marks") rfl) (c.def_ 27 (d := dG "_law_marks" sMarks) rfl))
    -- g__law_any_format
    (gf_z (st := sAny) (c.fact 59 (f := bGlo "_law_any_format") rfl) (c.def_ 28 (d := dG "_law_any_format" sAny) rfl))
    -- g__law_family
    (gf_z (st := sFam) (c.fact 60 (f := bGlo "_law_family") rfl) (c.def_ 29 (d := dG "_law_family" sFam) rfl))
    -- g__law_bent
    (gf_z (st := sBent) (c.fact 61 (f := bGlo "_law_bent") rfl) (c.def_ 30 (d := dG "_law_bent" sBent) rfl))
    -- g__law_format
    (gf_z (st := sFmt) (c.fact 62 (f := bGlo "_law_format") rfl) (c.def_ 31 (d := dG "_law_format" sFmt) rfl))
    -- g__law_walked
    (gf_z (st := sLWk) (c.fact 63 (f := bGlo "_law_walked") rfl) (c.def_ 32 (d := dG "_law_walked" sLWk) rfl))
    -- g__law_due
    (gf_z (st := sLDu) (c.fact 64 (f := bGlo "_law_due") rfl) (c.def_ 33 (d := dG "_law_due" sLDu) rfl))
    -- g__law_error
    (gf_z (st := sErr) (c.fact 65 (f := bGlo "_law_error") rfl) (c.def_ 34 (d := dG "_law_error" sErr) rfl))
    -- g__law_words
    (gf_z (st := sLWd) (c.fact 66 (f := bGlo "_law_words") rfl) (c.def_ 35 (d := dG "_law_words" sLWd) rfl))
    -- g__law_refused
    (gf_z (st := sRef) (c.fact 36 (f := bGlo "_law_refused") rfl) (c.def_ 36 (d := dG "_law_refused" sRef) rfl))
    -- g__law_right
    (gf_z (st := sRight) (c.fact 67 (f := bGlo "_law_right") rfl) (c.def_ 37 (d := dG "_law_right" sRight) rfl))
    -- g_law
    (gf_z (st := sLaw) (c.fact 68 (f := bGlo "law") rfl) (c.def_ 38 (d := dG "law" sLaw) rfl))
    -- c_LETTERS
    (cs_z (c.fact 69 (f := bCS "LETTERS" (.str (Str.ofString "abcdefghijklmnopqrstuvwxyz"))) rfl))
    -- c_LONGEST_NAME
    (cs_z (c.fact 70 (f := bCS "LONGEST_NAME" (.int 8)) rfl))
    -- c_MOST_PAGE_SIGNS
    (cs_z (c.fact 71 (f := bCS "MOST_PAGE_SIGNS" (.int 6)) rfl))
    -- c_MOST_TEXT_SIGNS
    (cs_z (c.fact 72 (f := bCS "MOST_TEXT_SIGNS" (.int 4)) rfl))
    -- c_MOST_MARKS
    (cs_z (c.fact 73 (f := bCS "MOST_MARKS" (.int 6)) rfl))
end SS
open PySem PySem.W PySem.Calls PyProof.Rows
theorem PySem.Challenge.cw_sealedslots_k14_steps_and_passed_holds : PySem.Challenge.rw_sealedslots_k14_steps_and_passed.Holds := by
  w_on; o_law
  refine HandSHeadRun.head_any (r := OpenLaw.row PySem.Challenge.rw_sealedslots_k14_steps_and_passed) (q := view (OpenLaw.row PySem.Challenge.rw_sealedslots_k14_steps_and_passed).prog [46]) (H := Hz.hookY SS.zFs SS.zFn ("_law_refused", none)) (ob := Hz.obY SS.zFs SS.zFn ("_law_refused", none)) (M := 20000) (loose := SS.zNames) (d := HandSHeadRun.topDef (OpenLaw.row PySem.Challenge.rw_sealedslots_k14_steps_and_passed).prog 46) (kwd := []) Hz.obY_eq
    (by kernel_rfl) (fun s => by kernel_rfl) SS.zRun (by kernel_rfl) (by kernel_rfl) (by kernel_rfl) (by rfl) (by first | assumption | decide +kernel) (by decide +kernel) ⟨rfl, rfl, rfl, rfl, rfl, by decide +kernel⟩ ?hw ?hc
  case hw => w_witness2
  case hc =>
    refine SS.walk_ofY (l := PySem.Challenge.rw_sealedslots_k14_steps_and_passed) (n := 63) (k := 12) (x := "_law_script") rfl (by decide) (by kernel_rfl) ⟨rfl, by decide, by decide⟩ ?F
    intro w mg fa h Y G hmg0
    obtain ⟨K, KX, c⟩ := Y
    have hmg : mg ("law" : PySem.Str) = some (.ref fa) := by
      have e : (HandSHeadRun.topDef (OpenLaw.row PySem.Challenge.rw_sealedslots_k14_steps_and_passed).prog 46).name = ("law" : PySem.Str) := by kernel_rfl
      rw [← e]
      exact hmg0
    obtain ⟨fd, hb, hF⟩ := SS.zFacts (l := PySem.Challenge.rw_sealedslots_k14_steps_and_passed) (w := w) KX G hmg c.z
    exact ⟨K, fd, SS.spLaw K (He.cT K ("_law_refused", none)).2, (He.cT K ("_law_refused", none)).1, (He.cT K ("_law_refused", none)).2, KX, PySem.W.codeHd_of_K KX c.hd, c.empty, c.out, hb, fun H a ns hl hH hS => ⟨a, ns, rfl, hS, hl, fun p hp => by rw [List.mem_singleton.mp hp]; exact LamX.TabS.nil hH, fun _ => rfl⟩, hF⟩

