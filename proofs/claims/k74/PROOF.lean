import PyProof.Rows.All
import Wide.All
import OpenK.AllK
import Wide.FinOn
import HandS.List
import HandS.SetFor
import HandS.SortInts
import HandS.Strs
import HandS.Base
import HandS.Call
import HandS.Comp
import HandS.Dict
import HandS.Iter
import HandS.Text
import HandS.Ends
import HandS.Words
import HandS.NoneIn
import HandS.Zip
import HandS.Defaults
import HandS.Property
import HandS.ClsMeth
import HandS.Deep
import HandS.OwnEq
import HandS.Star
import HandS.RaiseMore
import KE.KCallOwn
import KE.GoesEnum
import HandS.IsInst
import HandS.FStr
import HandS.StrSplit
import HandS.TupAny
import HandS.Conv
import HandS.MapJoin
import HandS.SetKeys
import HandS.DictComp
import PyProof.RulesMatch
import HandS.Exc
import HandS.Flow
import HandS.HeadHook2
import HandS.Head0
import HandS.Head1
import HandS.Head2
import HandS.HeadEnd
import KE.KStateDown
import PySem.Challenge.RW_meltback_k74_arguments_by_names
set_option Elab.async false
set_option linter.all false
set_option maxRecDepth 100000
set_option maxRecDepth 200000
set_option maxHeartbeats 8000000
namespace Mi.TS
open PySem PySem.Spec L2
open PyProof.Rows hiding St strKind

def tx (e : Int × Value) : Str := match e.2 with
  | .str x _ => x
  | _ => Str.empty
def GoodT (w : World) (e : Int × Value) : Prop := ∃ x u, e.2 = Value.str x u ∧ e.1 = hashStr w x
/-- the set of texts at a -/
def SetT (w : World) (h : Heap) (a : Addr) (l : List Str) : Prop :=
  ∃ o es ep t, h.get? a = some o ∧ o.ExactSet ∧ o.data = .set es ep t ∧ (∀ e ∈ es.toList, GoodT w e) ∧ (es.toList.map tx).Perm l ∧ l.Nodup ∧
    es.size < scanBound ∧ t.fits es.size = true ∧ Ris t.place.toList ∧ (w.params.followText "set-order" = true ∨ t.led = true)
section
variable {P : Program} {w : World} {h h' : Heap} {a : Addr} {l : List Str}
theorem SetT.keep (R : SetT w h a l) (k : ∀ o, h.get? a = some o → h'.get? a = some o) : SetT w h' a l := by
  obtain ⟨o, es, ep, t, e, r⟩ := R
  exact ⟨o, es, ep, t, k o e, r⟩
theorem good_el {m : List (Int × Value)} (g : ∀ e ∈ m, GoodT w e) : ElemsOf (PySem.strKind P w) m := by
  intro e he
  obtain ⟨x, u, h1, h2⟩ := g e he
  exact ⟨⟨x, (by rw [h1]; exact strKind_is P w x u), h2⟩, by rw [h1] <;> rfl⟩
theorem good_key {e : Int × Value} (g : GoodT w e) (x : Str) : (PySem.strKind P w).is x e.2 = true ↔ tx e = x := by
  obtain ⟨y, u, h1, _⟩ := g
  unfold tx
  rw [h1]
  show ((y == x) = true) ↔ y = x
  exact beq_iff_eq
theorem good_has {m : List (Int × Value)} (g : ∀ e ∈ m, GoodT w e) (x : Str) : x ∈ m.map tx ↔ ∃ e ∈ m, (PySem.strKind P w).is x e.2 = true :=
  List.mem_map.trans ⟨fun ⟨e, he, q⟩ => ⟨e, he, (good_key (g e he) x).2 q⟩, fun ⟨e, he, q⟩ => ⟨e, he, (good_key (g e he) x).1 q⟩⟩
end
/-- one more, at the end if it is new -/
def addT (l : List Str) (x : Str) : List Str := if x ∈ l then l else l ++ [x]
theorem addT_nodup {l : List Str} {x : Str} (h : l.Nodup) : (addT l x).Nodup := by
  unfold addT
  split
  · exact h
  · rename_i n
    exact List.nodup_append.mpr ⟨h, List.nodup_cons.mpr ⟨by simp, List.nodup_nil⟩, fun y hy z hz e => by
      rw [List.mem_singleton.mp hz] at e
      exact n (e ▸ hy)⟩
section
variable {P : Program} {w : World} {A : Around} {E : Value → Shared → Prop} {s : Shared} {a : Addr} {l : List Str}
theorem tail_T {g : Bool → Sem Unit} (hg : ∀ (b : Bool) (s₁ : Shared) (Q' : Unit → Shared → Prop), Q' () s₁ → wpAny (model P w) A (g b) Q' E s₁)
    {o : Obj} {es : Array (Int × Value)} {ep : Nat} {t : SetTable} (ho : s.heap.get? a = some o) (hex : o.ExactSet) (hd : o.data = .set es ep t) {fs : Array (Int × Value)} {u : SetTable} {l' : List Str}
    (gg : ∀ e ∈ fs.toList, GoodT w e) (pp : (fs.toList.map tx).Perm l') (nn : l'.Nodup) (bb : fs.size < scanBound) (ff : u.fits fs.size = true) (rr : Ris u.place.toList) (ll : w.params.followText "set-order" = true ∨ u.led = true)
    {dm : Bool} {R : Option Bool → Shared → Prop} (hR : ∀ h', Heap.SameBut a s.heap h' → SetT w h' a l' → R (some true) { s with heap := h' }) :
    wpAny (model P w) A (do
        storeSet a fs u
        if (!dm && u.tooFull) = true then do
            g (relayAll u fs (SetTable.grown fs.size)).2.2
            storeSet a (relayAll u fs (SetTable.grown fs.size)).1 (relayAll u fs (SetTable.grown fs.size)).2.1
            pure (some true)
          else pure (some true)) R E s := by
  have at1 := store_at (es' := fs) (t' := u) ho hd
  have same1 := Heap.SameBut.update s.heap a (Obj.putSet fs u)
  refine wpAny_bind (wpAny_storeSet_of ho hd ?_ (fits_of_scanBound bb))
  by_cases c : (!dm && u.tooFull) = true
  · rw [if_pos c]
    have q1 := relayAll_perm u fs (SetTable.grown fs.size)
    have q2 := relayAll_fits u fs (SetTable.grown fs.size)
    have q3 := relayAll_ris u fs (SetTable.grown fs.size)
    have q4 := relayAll_led u fs (SetTable.grown fs.size)
    generalize relayAll u fs (SetTable.grown fs.size) = Z at q1 q2 q3 q4 ⊢
    obtain ⟨gs, v, z⟩ := Z
    have q1 : gs.toList.Perm fs.toList := q1
    have q2 : v.fits gs.size = true := by
      have e : gs.size = fs.size := by rw [← Array.length_toList, q1.length_eq, Array.length_toList]
      first
        | exact q2
        | (rw [e]; exact q2)
    have b2 : gs.size < scanBound := by
      have e : gs.size = fs.size := by rw [← Array.length_toList, q1.length_eq, Array.length_toList]
      omega
    refine wpAny_bind (hg z _ _ ?_)
    refine wpAny_bind (wpAny_storeSet_of at1 rfl ?_ (fits_of_scanBound b2))
    have at2 := store_at (es' := gs) (t' := v) at1 rfl
    refine wpAny_pure (hR _ (same1.trans (Heap.SameBut.update _ a _)) ⟨_, gs, _, v, at2, hex, rfl, fun e he => gg e (q1.mem_iff.mp he), (q1.map tx).trans pp, nn, b2, q2, q3, ?_⟩)
    rcases ll with z | z
    · exact .inl z
    · exact .inr (by rw [show v.led = u.led from q4]; exact z)
  · rw [if_neg c]
    exact wpAny_pure (hR _ same1 ⟨_, fs, _, u, at1, hex, rfl, gg, pp, nn, bb, ff, rr, ll⟩)

theorem add_T {x : Str} {u : Tok} {Q : Bool → Shared → Prop} (R : SetT w s.heap a l) (room : l.length + 1 < scanBound) (hQ : ∀ h', Heap.SameBut a s.heap h' → SetT w h' a (addT l x) → Q (!decide (x ∈ l)) { s with heap := h' }) :
    wpAny (model P w) A (setAddHashed a (.str x u) ((PySem.strKind P w).hash x)) Q E s := by
  obtain ⟨o, es, ep, t, ho, hex, hd, g, pm0, nd, hb, hf, hr, hl⟩ := R
  have kis : (PySem.strKind P w).is x (.str x u) = true := strKind_is P w x u
  have hsc : (Value.str x u).scannable = true := rfl
  have hel : ElemsOf (PySem.strKind P w) es.toList := good_el g
  unfold setAddHashed setAddHashedIn
  refine wpAny_holding (wpAny_bind (wpAny_setState_of ho hd hf ?_)); dsimp only
  rw [byScan_of hsc hb hel]; simp only [↓reduceIte]
  unfold setAddByScan
  refine wpAny_bind (wpAny_bind (wpAny_rule (wpAny_bind (wpAny_setScan_of kis ho hd hf hel ?_))))
  cases hfi : List.findIdx? (fun e => (PySem.strKind P w).is x e.2) es.toList with
  | some j =>
    dsimp only
    obtain ⟨hj, pj, _⟩ := List.findIdx?_eq_some_iff_getElem.mp hfi
    have xin : x ∈ l := pm0.mem_iff.mp ((good_has (P := P) g x).2 ⟨es.toList[j], List.getElem_mem hj, pj⟩)
    have e1 : addT l x = l := if_pos xin
    have q := hQ s.heap (Heap.SameBut.refl a s.heap) ⟨o, es, ep, t, ho, hex, hd, g, by rw [e1]; exact pm0, by rw [e1]; exact nd, hb, hf, hr, hl⟩
    rw [decide_eq_true xin] at q
    exact wpAny_pure (wpAny_pure q)
  | none =>
    dsimp only
    have xno : x ∉ l := fun z => by
      obtain ⟨e, he, q⟩ := (good_has (P := P) g x).1 (pm0.mem_iff.mpr z)
      have c := List.findIdx?_eq_none_iff.mp hfi e he
      rw [q] at c; cases c
    have e1 : addT l x = l ++ [x] := if_neg xno
    have way : ∀ (b : Bool) {s₁ : Shared} {Q' : Unit → Shared → Prop}, Q' () s₁ → wpAny (model P w) A (match b with | true => rule "set.scan.the-table-gave-way" | false => pure ()) Q' E s₁ := by
      intro b s₁ Q' q
      cases b
      · first
          | exact wpAny_pure q
          | exact wpAny_rule q
      · first
          | exact wpAny_pure q
          | exact wpAny_rule q
    have z1 := layNew_perm t es ((PySem.strKind P w).hash x) (.str x u)
    have z2 := layNew_fits t es ((PySem.strKind P w).hash x) (.str x u)
    have z3 := layNew_ris t es ((PySem.strKind P w).hash x) (.str x u) hr
    have z4 := layNew_led t es ((PySem.strKind P w).hash x) (.str x u)
    generalize layNew t es ((PySem.strKind P w).hash x) (.str x u) = Z at z1 z2 z3 z4 ⊢
    obtain ⟨fs, v, dm, gave⟩ := Z
    dsimp only at z1 z2 z3 z4 ⊢
    rw [Array.toList_push] at z1
    have pc : fs.toList.Perm (es.toList ++ [((PySem.strKind P w).hash x, Value.str x u)]) := z1
    have pl : (fs.toList.map tx).Perm (addT l x) := by
      rw [e1]
      have q := pc.map tx
      rw [List.map_append] at q
      exact q.trans (pm0.append_right _)
    have gg : ∀ e ∈ fs.toList, GoodT w e := fun e he => by
      rcases List.mem_append.mp (pc.mem_iff.mp he) with z | z
      · exact g e z
      · rw [List.mem_singleton.mp z]; exact ⟨x, u, rfl, rfl⟩
    have nn : (addT l x).Nodup := addT_nodup nd
    have bb : fs.size < scanBound := by
      have q := pl.length_eq
      rw [List.length_map, Array.length_toList, e1, List.length_append] at q
      have : [x].length = 1 := rfl
      omega
    have ll : w.params.followText "set-order" = true ∨ v.led = true := by
      rcases hl with z | z
      · exact .inl z
      · exact .inr (by rw [z4]; exact z)
    have fin : ∀ h', Heap.SameBut a s.heap h' → SetT w h' a (addT l x) → Q true { s with heap := h' } := fun h' sb r => by
      have q := hQ h' sb r
      rw [decide_eq_false xno] at q
      exact q
    refine wpAny_bind (way _ ?_)
    split
    · refine wpAny_bind ?_
      rw [hashByValue_scannable 8 hsc]
      refine wpAny_pure (tail_T ?_ ho hex hd gg pl nn bb ?_ ?_ ?_ ?_)
      · intro b s₁ Q' q
        cases b
        · first
            | exact wpAny_pure q
            | exact wpAny_rule q
        · first
            | exact wpAny_pure q
            | exact wpAny_rule q
      · first
          | (split <;> first | exact z2 | exact SetTable.fits_plain_off z2)
          | exact z2
      · first
          | (split <;> exact z3)
          | exact z3
      · first
          | (split <;> exact ll)
          | exact ll
      · intro h' sb r
        dsimp only
        exact wpAny_pure (fin h' sb r)
    · refine wpAny_bind (wpAny_pure ?_)
      simp only [↓reduceIte]
      refine tail_T ?_ ho hex hd gg pl nn bb z2 z3 ll ?_
      · intro b s₁ Q' q
        cases b
        · first
            | exact wpAny_pure q
            | exact wpAny_rule q
        · first
            | exact wpAny_pure q
            | exact wpAny_rule q
      · intro h' sb r
        dsimp only
        exact wpAny_pure (fin h' sb r)
end
end Mi.TS
namespace Mi.TS
open PySem PySem.Spec L2
open PyProof.Rows hiding St strKind
/-- the distinct ones, in the order in which they come -/
def dis (xs : List Str) : List Str := xs.foldl addT []
theorem dis_snoc {xs : List Str} {x : Str} : dis (xs ++ [x]) = addT (dis xs) x := by
  unfold dis
  rw [List.foldl_append]
  rfl
theorem addT_len {l : List Str} {x : Str} : (addT l x).length ≤ l.length + 1 := by
  unfold addT
  split
  · omega
  · simp
theorem fold_len : ∀ (xs l : List Str), (xs.foldl addT l).length ≤ l.length + xs.length
  | [], l => by simp
  | x :: xs, l => by
    have := fold_len xs (addT l x)
    have := addT_len (l := l) (x := x)
    simp only [List.foldl_cons, List.length_cons]
    omega
theorem dis_len (xs : List Str) : (dis xs).length ≤ xs.length := by
  have := fold_len xs []
  simpa [dis] using this
/-- the empty set as it is made -/
abbrev newSet (w : World) : Obj := { cls := .type "set", dict := none, data := .set #[] 0 (.fresh 0 0 (!w.params.followText "set-order")) }
theorem setT_new {w : World} {h : Heap} {a : Addr} (ho : h.get? a = some (newSet w)) : SetT w h a [] := by
  refine ⟨_, #[], 0, _, ho, ⟨rfl, rfl, rfl⟩, rfl, fun e he => (by simp at he), List.Perm.refl _, List.nodup_nil, (by decide), (by rfl), List.Pairwise.nil, ?_⟩
  show _ ∨ (!w.params.followText "set-order") = true
  cases w.params.followText "set-order" <;> simp
section
variable {P : Program} {w : World} {A : Around} {E : Value → Shared → Prop} {s : Shared}
theorem loop_T {I : Addr} {fp wr : List Addr} {G : Array GenState → Array GenState → Prop} {n : Nat} {Pv : Nat → Value → Prop} {St : Nat → Shared → Prop} {R : Result → Shared → Prop} (W : WalksS P w A.in1 I fp wr G n Pv St) (S : Addr) (out : S ∉ fp)
    (xs : List Str) (hn : n = xs.length) (hb : xs.length + 1 < scanBound) (hval : ∀ i v, Pv i v → ∃ x u, xs[i]? = some x ∧ v = .str x u) :
    ∀ (k i : Nat) (s : Shared), n - i = k → i ≤ n → St i s → SetT w s.heap S (dis (xs.take i)) → (∀ s', Moved (S :: wr) G s s' → SetT w s'.heap S (dis xs) → R (.ok (.ret .none)) s') →
      codeAny (model P w) A (.builtin "set.update.loop" ⟨[.ref S, .ref I], []⟩) R s := by
  have outw : S ∉ wr := fun h => out (W.sub _ h)
  have grow : ∀ b ∈ wr, b ∈ S :: wr := fun b hb => List.mem_cons_of_mem _ hb
  intro k
  induction k with
  | zero =>
    intro i s hk hi st hS hR
    have hin : xs.take i = xs := List.take_of_length_le (by omega)
    have hi : i = n := by omega
    subst hi
    rw [hin] at hS
    refine codeAny_builtin F.entry_set_update_loop ?_; rw [Around.under_plainId F.plain_set_update_loop _]
    show wpAny _ A.in1 (pyNext (Value.ref I) >>= _) _ _ s
    refine wpAny_bind (W.done s _ _ st fun s' hm => ?_)
    exact wpAny_pure (hR s' (hm.mono grow) (hS.keep fun o e => hm.heap S o outw e))
  | succ k ih =>
    intro i s hk hi st hS hR
    have hlt : i < n := by omega
    refine codeAny_builtin F.entry_set_update_loop ?_; rw [Around.under_plainId F.plain_set_update_loop _]
    show wpAny _ A.in1 (pyNext (Value.ref I) >>= _) _ _ s
    refine wpAny_bind (W.item i s _ _ hlt st fun v s' hP st' hm => ?_)
    obtain ⟨x, u, hx, rfl⟩ := hval i v hP
    have hS2 : SetT w s'.heap S (dis (xs.take i)) := hS.keep fun o e => hm.heap S o outw e
    show wpAny _ A.in1 (holding [Value.str x u] (setAdd S (.str x u)) >>= _) _ _ s'
    refine wpAny_bind (wpAny_holding ?_)
    unfold setAdd
    refine wpAny_holding (wpAny_bind ((PySem.strKind P w).pyHash (k := x) (strKind_is _ _ _ _) ?_))
    have room : (dis (xs.take i)).length + 1 < scanBound := by
      have := dis_len (xs.take i)
      rw [List.length_take] at this
      omega
    refine add_T (s := { s' with toks := s'.toks + 1 }) hS2 room fun h' same hS3 => ?_
    have e : dis (xs.take (i + 1)) = addT (dis (xs.take i)) x := by
      rw [List.take_add_one, hx]
      exact dis_snoc
    rw [← e] at hS3
    refine wpAny_pure ⟨plainId_quiet F.plain_set_update_loop _, ih (i + 1) _ (by omega) hlt (W.frame _ s' _ _ st' (Nat.le_succ _) fun b hb o eb => ?_) hS3 fun s2 hm2 hS4 => ?_⟩
    · rw [same.2 b (fun z : b = S => out (by rw [← z]; exact hb))]
      exact eb
    · refine hR s2 (Moved.trans W.gtrans ((hm.mono grow).then_heap (Nat.le_succ _) fun b o hb eb => ?_) hm2) hS4
      rw [same.2 b (fun z : b = S => hb (by rw [z]; exact List.mem_cons_self))]
      exact eb
end
end Mi.TS
namespace Mi.TS
open PySem PySem.Spec L2
open PyProof.Rows hiding St strKind
section
variable {P : Program} {w : World} {A : Around} {E : Value → Shared → Prop} {s : Shared}

theorem set_of_list {L : Addr} {items : Array Value} (xs : List Str) {Q : Value → Shared → Prop} (hh : A.handled = none) (hl : s.heap.IsList L items) (hit : StrsAre items.toList xs) (hb : xs.length + 1 < scanBound)
    (h : ∀ (h' : Heap) (tk : Nat), SetT w h' s.heap.objs.size (dis xs) → (∀ b o, s.heap.get? b = some o → h'.get? b = some o) → Q (.ref s.heap.objs.size) { s with heap := h', toks := tk }) :
    wpAny (model P w) A (call (.type "set") [.ref L]) Q E s := by
  have isz : items.size = xs.length := by rw [← StrsAre.len_eq hit, Array.length_toList]
  obtain ⟨c, tl, hmro⟩ := F.called_set.mro; have hmade := F.called_set.made; have hsub := F.called_set.sub
  refine wpAny_call (codeAny_of_tree ?_)  ; show wpAny _ _ (callAny (.type "set") _) _ _ _
  refine wpAny_pure ⟨Code.quiet_builtin _ (by decide +kernel), codeAny_builtin F.entry_type_call ?_⟩ ; rw [Around.under_plain (weight_type_call_type "set" [.ref L] []) rfl]
  have h1 := F.called_set.notType ; have h2 := F.called_set.canCreate ; have hct := F.typeCall_set_1 (.ref L)
  repeat (any_goals (first | assumption | wp_step))
  refine codeAny_mono (code_set_led1 (.ref L) (E := E) (Q₁ := fun obj s₁ => obj = .ref s.heap.objs.size ∧ s₁ = { s with heap := s.heap.push (newSet w) }) ⟨rfl, rfl⟩) fun r s₁ hr => ?_
  cases r with
  | error e => exact hr
  | ok fl =>
    cases fl with
    | ret obj =>
      obtain ⟨rfl, rfl⟩ := hr
      have hS : (s.heap.push (newSet w)).get? s.heap.objs.size = some (newSet w) := Heap.get?_push_size _ rfl
      have hT : Shared.TypeIs { s with heap := s.heap.push (newSet w) } (.ref s.heap.objs.size) "set" := ⟨_, hS, rfl⟩
      have hli := F.called_set.init.lookup ; have hbi := F.called_set.init.bind (.ref s.heap.objs.size)
      repeat (any_goals (first | assumption | wp_step))
      refine codeAny_mono (codeAny_call_builtin (R := wants (fun r s₂ => r = .none ∧ ∃ h' tk, s₂ = { s with heap := h', toks := tk } ∧ SetT w h' s.heap.objs.size (dis xs) ∧ (∀ b o, s.heap.get? b = some o → h'.get? b = some o)) E)
        F.called_set.init.plain F.entry_set_init (check_set_init_1 hT ?_)) fun r₂ s₂ hr₂ => ?_
      · obtain ⟨ol, hol, hcl, nl, hdl⟩ := hl
        obtain ⟨ocls, odict, odata, oslots⟩ := ol
        simp only at hcl hdl
        subst hcl; subst hdl
        have hol' : (s.heap.push (newSet w)).get? L = some { cls := .type "list", dict := odict, data := .seq items nl, slots := oslots } := Heap.get?_push_of_some _ hol
        have hsls := F.sub_list_set ; have hslf := F.sub_list_frozenset
        have hne : (Value.type "list" == Value.type "dict") = false := by decide
        have hl1 : (s.heap.push (newSet w)).IsList L items := ⟨_, hol', rfl, nl, rfl⟩
        unfold Builtin.«set.__init__» noKeywords Builtin.Frozenset.updateFrom ; generalize hPI : pyIter = PI
        wp_walk
        subst hPI
        refine wpAny_pyIter_list hl1 (wpAny_bind (wpAny_runValue ?_))
        have ltS : L < s.heap.objs.size := Heap.lt_size hol
        have hh3 : A.in1.in1.in1.handled = none := by simp [hh]
        have hz : (s.heap.push (newSet w)).objs.size = s.heap.objs.size + 1 := Heap.size_push ..
        have neI : L ≠ (s.heap.push (newSet w)).objs.size := by rw [hz]; exact Nat.ne_of_lt (Nat.lt_succ_of_lt ltS)
        have outS : s.heap.objs.size ∉ [(s.heap.push (newSet w)).objs.size, L] := by
          rw [hz]
          intro z
          rcases List.mem_cons.mp z with z | z
          · exact absurd z (Nat.ne_of_lt (Nat.lt_succ_self _))
          · exact absurd (List.mem_singleton.mp z) (Nat.ne_of_gt ltS)
        have hval : ∀ (i : Nat) (v : Value), items[i]? = some v → ∃ x u, xs[i]? = some x ∧ v = .str x u := fun i v hv => by
          have hi : i < xs.length := by rw [← isz]; exact (Array.getElem?_eq_some_iff.mp hv).1
          obtain ⟨u, e⟩ := SS.strs_at hit i v (by rw [Array.getElem?_toList]; exact hv)
          refine ⟨xs[i], u, List.getElem?_eq_getElem hi, ?_⟩
          rw [e, List.getD_eq_getElem?_getD, List.getElem?_eq_getElem hi] <;> rfl
        refine loop_T ((Walks.list hh3 _ L neI items).toS) s.heap.objs.size outS xs isz hb hval (items.size - 0) 0 _ (by omega) (Nat.zero_le _) ⟨⟨_, Heap.get?_push_size _ rfl, rfl, rfl⟩, (hl1.push _)⟩ (setT_new (Heap.get?_push_of_some _ hS)) fun s' hm hS' => ?_
        obtain ⟨h', g2, d', tk', os'⟩ := s'
        have eg : g2 = s.gens := hm.gens
        have ed : d' = s.drawn := hm.drawn
        have eo : os' = s.os := hm.os
        subst eg ed eo
        show wpAny _ _ _ _ _ _
        refine wpAny_pure (wpAny_pure ⟨rfl, h', tk', rfl, hS', fun b o e => ?_⟩)
        have lb : b < s.heap.objs.size := Heap.lt_size e
        refine hm.heap b o (fun z => ?_) (Heap.get?_push_of_some _ (Heap.get?_push_of_some _ e))
        rcases List.mem_cons.mp z with z | z
        · exact absurd z (Nat.ne_of_lt lb)
        · have z := List.mem_singleton.mp z
          rw [hz] at z
          exact absurd z (Nat.ne_of_lt (Nat.lt_succ_of_lt lb))
      · cases r₂ with
        | error e => exact hr₂
        | ok fl₂ =>
          cases fl₂ with
          | ret r =>
            obtain ⟨rfl, h', tk, rfl, hS', hk'⟩ := hr₂
            repeat (any_goals (first | assumption | wp_step))
            exact h _ _ hS' hk'
          | _ => exact hr₂.elim
    | _ => exact hr.elim


theorem set_of_tuple {L : Addr} {items : Array Value} (xs : List Str) {Q : Value → Shared → Prop} (hh : A.handled = none) (hl : s.heap.IsTuple L items) (hit : StrsAre items.toList xs) (hb : xs.length + 1 < scanBound)
    (h : ∀ (h' : Heap) (tk : Nat), SetT w h' s.heap.objs.size (dis xs) → (∀ b o, s.heap.get? b = some o → h'.get? b = some o) → Q (.ref s.heap.objs.size) { s with heap := h', toks := tk }) :
    wpAny (model P w) A (call (.type "set") [.ref L]) Q E s := by
  have isz : items.size = xs.length := by rw [← StrsAre.len_eq hit, Array.length_toList]
  obtain ⟨c, tl, hmro⟩ := F.called_set.mro; have hmade := F.called_set.made; have hsub := F.called_set.sub
  refine wpAny_call (codeAny_of_tree ?_)  ; show wpAny _ _ (callAny (.type "set") _) _ _ _
  refine wpAny_pure ⟨Code.quiet_builtin _ (by decide +kernel), codeAny_builtin F.entry_type_call ?_⟩ ; rw [Around.under_plain (weight_type_call_type "set" [.ref L] []) rfl]
  have h1 := F.called_set.notType ; have h2 := F.called_set.canCreate ; have hct := F.typeCall_set_1 (.ref L)
  repeat (any_goals (first | assumption | wp_step))
  refine codeAny_mono (code_set_led1 (.ref L) (E := E) (Q₁ := fun obj s₁ => obj = .ref s.heap.objs.size ∧ s₁ = { s with heap := s.heap.push (newSet w) }) ⟨rfl, rfl⟩) fun r s₁ hr => ?_
  cases r with
  | error e => exact hr
  | ok fl =>
    cases fl with
    | ret obj =>
      obtain ⟨rfl, rfl⟩ := hr
      have hS : (s.heap.push (newSet w)).get? s.heap.objs.size = some (newSet w) := Heap.get?_push_size _ rfl
      have hT : Shared.TypeIs { s with heap := s.heap.push (newSet w) } (.ref s.heap.objs.size) "set" := ⟨_, hS, rfl⟩
      have hli := F.called_set.init.lookup ; have hbi := F.called_set.init.bind (.ref s.heap.objs.size)
      repeat (any_goals (first | assumption | wp_step))
      refine codeAny_mono (codeAny_call_builtin (R := wants (fun r s₂ => r = .none ∧ ∃ h' tk, s₂ = { s with heap := h', toks := tk } ∧ SetT w h' s.heap.objs.size (dis xs) ∧ (∀ b o, s.heap.get? b = some o → h'.get? b = some o)) E)
        F.called_set.init.plain F.entry_set_init (check_set_init_1 hT ?_)) fun r₂ s₂ hr₂ => ?_
      · obtain ⟨ol, hol, hcl, nl, hdl⟩ := hl
        obtain ⟨ocls, odict, odata, oslots⟩ := ol
        simp only at hcl hdl
        subst hcl; subst hdl
        have hol' : (s.heap.push (newSet w)).get? L = some { cls := .type "tuple", dict := odict, data := .seq items nl, slots := oslots } := Heap.get?_push_of_some _ hol
        have hsls := F.sub_tuple_set ; have hslf := F.sub_tuple_frozenset
        have hne : (Value.type "tuple" == Value.type "dict") = false := by decide
        have hl1 : (s.heap.push (newSet w)).IsTuple L items := ⟨_, hol', rfl, nl, rfl⟩
        unfold Builtin.«set.__init__» noKeywords Builtin.Frozenset.updateFrom ; generalize hPI : pyIter = PI
        wp_walk
        subst hPI
        refine wpAny_pyIter_tuple hl1 (wpAny_bind (wpAny_runValue ?_))
        have ltS : L < s.heap.objs.size := Heap.lt_size hol
        have hh3 : A.in1.in1.in1.handled = none := by simp [hh]
        have hz : (s.heap.push (newSet w)).objs.size = s.heap.objs.size + 1 := Heap.size_push ..
        have neI : L ≠ (s.heap.push (newSet w)).objs.size := by rw [hz]; exact Nat.ne_of_lt (Nat.lt_succ_of_lt ltS)
        have outS : s.heap.objs.size ∉ [(s.heap.push (newSet w)).objs.size, L] := by
          rw [hz]
          intro z
          rcases List.mem_cons.mp z with z | z
          · exact absurd z (Nat.ne_of_lt (Nat.lt_succ_self _))
          · exact absurd (List.mem_singleton.mp z) (Nat.ne_of_gt ltS)
        have hval : ∀ (i : Nat) (v : Value), items[i]? = some v → ∃ x u, xs[i]? = some x ∧ v = .str x u := fun i v hv => by
          have hi : i < xs.length := by rw [← isz]; exact (Array.getElem?_eq_some_iff.mp hv).1
          obtain ⟨u, e⟩ := SS.strs_at hit i v (by rw [Array.getElem?_toList]; exact hv)
          refine ⟨xs[i], u, List.getElem?_eq_getElem hi, ?_⟩
          rw [e, List.getD_eq_getElem?_getD, List.getElem?_eq_getElem hi] <;> rfl
        refine loop_T ((Walks.tuple hh3 _ L neI items).toS) s.heap.objs.size outS xs isz hb hval (items.size - 0) 0 _ (by omega) (Nat.zero_le _) ⟨⟨_, Heap.get?_push_size _ rfl, rfl, rfl⟩, (hl1.push _)⟩ (setT_new (Heap.get?_push_of_some _ hS)) fun s' hm hS' => ?_
        obtain ⟨h', g2, d', tk', os'⟩ := s'
        have eg : g2 = s.gens := hm.gens
        have ed : d' = s.drawn := hm.drawn
        have eo : os' = s.os := hm.os
        subst eg ed eo
        show wpAny _ _ _ _ _ _
        refine wpAny_pure (wpAny_pure ⟨rfl, h', tk', rfl, hS', fun b o e => ?_⟩)
        have lb : b < s.heap.objs.size := Heap.lt_size e
        refine hm.heap b o (fun z => ?_) (Heap.get?_push_of_some _ (Heap.get?_push_of_some _ e))
        rcases List.mem_cons.mp z with z | z
        · exact absurd z (Nat.ne_of_lt lb)
        · have z := List.mem_singleton.mp z
          rw [hz] at z
          exact absurd z (Nat.ne_of_lt (Nat.lt_succ_of_lt lb))
      · cases r₂ with
        | error e => exact hr₂
        | ok fl₂ =>
          cases fl₂ with
          | ret r =>
            obtain ⟨rfl, h', tk, rfl, hS', hk'⟩ := hr₂
            repeat (any_goals (first | assumption | wp_step))
            exact h _ _ hS' hk'
          | _ => exact hr₂.elim
    | _ => exact hr.elim

end
end Mi.TS
set_option maxRecDepth 100000
set_option maxHeartbeats 4000000
namespace Mi
open PySem PySem.Spec L2
open PyProof.Rows hiding St

/-- data: Python values without a heap -/
inductive D where
  | non | bl (b : Bool) | int (i : Int) | str (x : Str)
  | lst (l : List D) | tup (l : List D) | tuq (l : List D) | lok (l : List D) | dic (l : List (D × D)) | ins (c : Nat) (fs : List (Str × D)) | cls (c : Nat)
instance : Inhabited D := ⟨.non⟩

/-- where classes and functions stand -/
structure Tab where
  cls : Nat → Addr
  fn : Nat → Addr

/-- a key of a dict, as data -/
def keyD : Key → D
  | .inl i => .int i
  | .inr x => .str x

/-- a tuple that has no dict of its own -/
def TupN (K : PySem.W.Frag) (G : Hp) (a : Addr) (xs : List V) : Prop := (∃ ob : Obj, G a = some (.frz ob (.tup xs)) ∧ ob.dict = none) ∨
  ∃ (o : Obj) (its : Array Value) (n : Nat), K.lookup a = some o ∧ o.cls = .type "tuple" ∧ o.dict = none ∧ o.data = .seq its n ∧ its.size ≤ sizeLine ∧ Vals xs its.toList
theorem TupN.sqT {K : PySem.W.Frag} {G : Hp} {a : Addr} {xs : List V} (h : TupN K G a xs) : SqT K G a xs := by
  rcases h with ⟨ob, z, _⟩ | ⟨o, its, n, h1, h2, _, h3⟩
  · exact .inl (.inr ⟨ob, z⟩)
  · exact .inr ⟨o, its, n, h1, h2, h3⟩
theorem TupN.of {K : PySem.W.Frag} {G : Hp} {a : Addr} {xs : List V} {ob : Obj} (h : G a = some (.frz ob (.tup xs))) (n : ob.dict = none) : TupN K G a xs := .inl ⟨ob, h, n⟩
mutual
/-- v stands for d in the heap G -/
inductive Rep (T : Tab) (K : PySem.W.Frag) (G : Hp) : V → D → Prop
  | non : Rep T K G .non .non
  | bl (b : Bool) : Rep T K G (.bl b) (.bl b)
  | int (i : Int) : Rep T K G (.int i) (.int i)
  | str (x : Str) : Rep T K G (.str x) (.str x)
  | cls (c : Nat) : Rep T K G (.ref (T.cls c)) (.cls c)
  | lst {a : Addr} {xs : List V} {l : List D} : G a = some (.lst xs) → Reps T K G xs l → Rep T K G (.ref a) (.lst l)
  | lok {a : Addr} {xs : List V} {l : List D} : SqL K G a xs → Reps T K G xs l → Rep T K G (.ref a) (.lok l)
  | tup {a : Addr} {xs : List V} {l : List D} : TupN K G a xs → Reps T K G xs l → Rep T K G (.ref a) (.tup l)
  | tuq {a : Addr} {xs : List V} {l : List D} : SqT K G a xs → Reps T K G xs l → Rep T K G (.ref a) (.tuq l)
  | ins {a dx : Addr} {c : Nat} {vs : List (Str × V)} {fs : List (Str × D)} : G a = some (.ins (T.cls c) dx vs) → RepF T K G vs fs → Rep T K G (.ref a) (.ins c fs)
  | dK {a : Addr} {ob : Obj} {kvs : List (Key × V)} {l : List (D × D)} : G a = some (.frz ob (.dK kvs)) → RepK T K G kvs l → Rep T K G (.ref a) (.dic l)
inductive Reps (T : Tab) (K : PySem.W.Frag) (G : Hp) : List V → List D → Prop
  | nil : Reps T K G [] []
  | cons {v : V} {d : D} {vs : List V} {ds : List D} : Rep T K G v d → Reps T K G vs ds → Reps T K G (v :: vs) (d :: ds)
inductive RepF (T : Tab) (K : PySem.W.Frag) (G : Hp) : List (Str × V) → List (Str × D) → Prop
  | nil : RepF T K G [] []
  | cons {f : Str} {v : V} {d : D} {vs : List (Str × V)} {ds : List (Str × D)} : Rep T K G v d → RepF T K G vs ds → RepF T K G ((f, v) :: vs) ((f, d) :: ds)
inductive RepK (T : Tab) (K : PySem.W.Frag) (G : Hp) : List (Key × V) → List (D × D) → Prop
  | nil : RepK T K G [] []
  | cons {k : Key} {v : V} {d : D} {vs : List (Key × V)} {ds : List (D × D)} : Rep T K G v d → RepK T K G vs ds → RepK T K G ((k, v) :: vs) ((keyD k, d) :: ds)
end

/-- what may be read in G may be read in G' -/
def noDict : HO → Bool
  | .dK _ => false
  | .dT _ => false
  | _ => true
structure Up (G G' : Hp) : Prop where
  at_ : ∀ a o, Rd G a o → Rd G' a o
  keep : ∀ a o, noDict o = true → G a = some o → G' a = some o
theorem Up.refl (G : Hp) : Up G G := ⟨fun _ _ h => h, fun _ _ _ h => h⟩
theorem Up.trans {G G1 G2 : Hp} (a : Up G G1) (b : Up G1 G2) : Up G G2 := ⟨fun x o h => b.at_ x o (a.at_ x o h), fun x o n h => b.keep x o n (a.keep x o n h)⟩
/-- kept whole -/
def Le (G G' : Hp) : Prop := ∀ a o, G a = some o → G' a = some o
theorem Le.refl (G : Hp) : Le G G := fun _ _ h => h
theorem Le.trans {G G1 G2 : Hp} (a : Le G G1) (b : Le G1 G2) : Le G G2 := fun x o h => b x o (a x o h)
theorem Le.up {G G' : Hp} (h : Le G G') : Up G G' := ⟨fun a o r => r.elim (fun z => .inl (h a o z)) fun ⟨ob, z⟩ => .inr ⟨ob, h a _ z⟩, fun a o _ z => h a _ z⟩
section
variable {T : Tab} {K : PySem.W.Frag} {G G' : Hp}
theorem Up.sqL (u : Up G G') {a : Addr} {xs : List V} (h : SqL K G a xs) : SqL K G' a xs := h.elim (fun z => .inl (u.at_ _ _ z)) .inr
theorem Up.tupN (u : Up G G') {a : Addr} {xs : List V} (h : TupN K G a xs) : TupN K G' a xs := by
  rcases h with ⟨ob, z, n⟩ | h
  · exact .inl ⟨ob, u.keep _ _ rfl z, n⟩
  · exact .inr h
theorem Up.sqT (u : Up G G') {a : Addr} {xs : List V} (h : SqT K G a xs) : SqT K G' a xs := h.elim (fun z => .inl (u.at_ _ _ z)) .inr
mutual
theorem Rep.up (u : Up G G') : ∀ {v : V} {d : D}, Rep T K G v d → Rep T K G' v d
  | _, _, .non => .non
  | _, _, .bl b => .bl b
  | _, _, .int i => .int i
  | _, _, .str x => .str x
  | _, _, .cls c => .cls c
  | _, _, .lst h r => .lst (u.keep _ _ rfl h) (Reps.up u r)
  | _, _, .lok h r => .lok (u.sqL h) (Reps.up u r)
  | _, _, .tup h r => .tup (u.tupN h) (Reps.up u r)
  | _, _, .tuq h r => .tuq (u.sqT h) (Reps.up u r)
  | _, _, .ins h r => .ins (u.keep _ _ rfl h) (RepF.up u r)
  | _, _, .dK h r => .dK (u.keep _ _ rfl h) (RepK.up u r)
theorem Reps.up (u : Up G G') : ∀ {v : List V} {d : List D}, Reps T K G v d → Reps T K G' v d
  | _, _, .nil => .nil
  | _, _, .cons a b => .cons (Rep.up u a) (Reps.up u b)
theorem RepF.up (u : Up G G') : ∀ {v : List (Str × V)} {d : List (Str × D)}, RepF T K G v d → RepF T K G' v d
  | _, _, .nil => .nil
  | _, _, .cons a b => .cons (Rep.up u a) (RepF.up u b)
theorem RepK.up (u : Up G G') : ∀ {v : List (Key × V)} {d : List (D × D)}, RepK T K G v d → RepK T K G' v d
  | _, _, .nil => .nil
  | _, _, .cons a b => .cons (Rep.up u a) (RepK.up u b)
end
theorem Reps.length : ∀ {vs : List V} {ds : List D}, Reps T K G vs ds → vs.length = ds.length
  | _, _, .nil => rfl
  | _, _, .cons _ t => congrArg Nat.succ (Reps.length t)
theorem Reps.get : ∀ {vs : List V} {ds : List D} {i : Nat} {d : D}, Reps T K G vs ds → ds[i]? = some d → ∃ v, vs[i]? = some v ∧ Rep T K G v d
  | _, _, _, _, .nil, e => by simp at e
  | _, _, 0, _, .cons r _, e => by simp at e; subst e; exact ⟨_, rfl, r⟩
  | _, _, i + 1, d, .cons _ t, e => by
    obtain ⟨v, h1, h2⟩ := Reps.get (i := i) (d := d) t (by simpa using e)
    exact ⟨v, by simpa using h1, h2⟩
theorem Reps.get' : ∀ {vs : List V} {ds : List D} {i : Nat} {v : V}, Reps T K G vs ds → vs[i]? = some v → ∃ d, ds[i]? = some d ∧ Rep T K G v d
  | _, _, _, _, .nil, e => by simp at e
  | _, _, 0, _, .cons r _, e => by simp at e; subst e; exact ⟨_, rfl, r⟩
  | _, _, i + 1, d, .cons _ t, e => by
    obtain ⟨v, h1, h2⟩ := Reps.get' (i := i) (v := d) t (by simpa using e)
    exact ⟨v, by simpa using h1, h2⟩
theorem Reps.append : ∀ {xs ys : List V} {l m : List D}, Reps T K G xs l → Reps T K G ys m → Reps T K G (xs ++ ys) (l ++ m)
  | _, _, _, _, .nil, s => s
  | _, _, _, _, .cons r t, s => .cons r (Reps.append t s)
theorem RepF.lookup {f : Str} : ∀ {vs : List (Str × V)} {fs : List (Str × D)}, RepF T K G vs fs → (∀ d, fs.lookup f = some d → ∃ v, vs.lookup f = some v ∧ Rep T K G v d) ∧ (fs.lookup f = none → vs.lookup f = none)
  | _, _, .nil => ⟨fun d h => by simp at h, fun _ => rfl⟩
  | _, _, .cons (f := g) (vs := vs) (ds := ds) r t => by
    obtain ⟨h1, h2⟩ := RepF.lookup (f := f) t
    by_cases e : f = g
    · have hb : (f == g) = true := beq_iff_eq.mpr e
      constructor
      · intro d h
        simp only [List.lookup, hb] at h ⊢
        cases h
        exact ⟨_, rfl, r⟩
      · intro h
        simp only [List.lookup, hb] at h
        cases h
    · have hb : (f == g) = false := beq_eq_false_iff_ne.mpr e
      constructor
      · intro d h
        simp only [List.lookup, hb] at h ⊢
        exact h1 d h
      · intro h
        simp only [List.lookup, hb] at h ⊢
        exact h2 h
end

/-- what a name holds: nothing that is known; a thing that stands still; a thing of its own, to be changed in place -/
inductive Slot where
  | un | fz (d : D) | ow (d : D)
  deriving Inhabited
/-- a state: the names' slots, and the world's part -/
structure S (W : Type) where
  sl : List Slot
  w : W

/-- the heap without some addresses -/
def without (H : Hp) (F : List Addr) : Hp := fun a => if a ∈ F then none else H a
theorem without_some {H : Hp} {F : List Addr} {a : Addr} {o : HO} (h : without H F a = some o) : a ∉ F ∧ H a = some o := by
  unfold without at h
  split at h
  · cases h
  · exact ⟨by assumption, h⟩
theorem without_of {H : Hp} {F : List Addr} {a : Addr} {o : HO} (n : a ∉ F) (h : H a = some o) : without H F a = some o := by
  unfold without
  rw [if_neg n]
  exact h
theorem without_le {H : Hp} {F F' : List Addr} (h : ∀ a ∈ F', a ∈ F) : Le (without H F) (without H F') := fun a o e => by
  obtain ⟨n, e⟩ := without_some e
  exact without_of (fun z => n (h a z)) e
theorem without_sub {H : Hp} {F : List Addr} : Le (without H F) H := fun a o e => (without_some e).2
theorem without_nil (H : Hp) : without H [] = H := by
  funext a
  unfold without
  rw [if_neg (by simp)]

/-- a thing of its own, at a -/
inductive Own (T : Tab) (K : PySem.W.Frag) (H G : Hp) (a : Addr) : D → Prop
  | lst {xs : List V} {l : List D} : H a = some (.lst xs) → Reps T K G xs l → Own T K H G a (.lst l)
  | dK {kvs : List (Key × V)} {l : List (D × D)} : H a = some (.dK kvs) → RepK T K G kvs l → Own T K H G a (.dic l)
  | ins {dx : Addr} {c : Nat} {vs : List (Str × V)} {fs : List (Str × D)} : H a = some (.ins (T.cls c) dx vs) → RepF T K G vs fs → Own T K H G a (.ins c fs)
theorem Own.there {T : Tab} {K : PySem.W.Frag} {H G : Hp} {a : Addr} {d : D} (h : Own T K H G a d) : ∃ o, H a = some o := by
  cases h <;> exact ⟨_, by assumption⟩
theorem Own.up {T : Tab} {K : PySem.W.Frag} {H H' G G' : Hp} {a : Addr} {d : D} (h : Own T K H G a d) (e : H' a = H a) (u : Up G G') : Own T K H' G' a d := by
  cases h with
  | lst x r => exact .lst (e.trans x) (r.up u)
  | dK x r => exact .dK (e.trans x) (r.up u)
  | ins x r => exact .ins (e.trans x) (r.up u)
/-- what stands at a as it stands still: a dict is locked -/
def Frzd (H H' : Hp) (a : Addr) : Prop := (H' a = H a ∧ ∀ u, H a = some u → noDict u = true) ∨ ∃ u, H a = some u ∧ noDict u = false ∧ ∃ ob, H' a = some (.frz ob u)
/-- it stands still from here on -/
theorem Own.rep {T : Tab} {K : PySem.W.Frag} {H H' G G' : Hp} {a : Addr} {d : D} (h : Own T K H G a d) (u : Up G G') (f : Frzd H H' a) (e : G' a = H' a) : Rep T K G' (.ref a) d := by
  cases h with
  | lst x r =>
    rcases f with ⟨f, _⟩ | ⟨v, f, n, _⟩
    · exact .lst (e.trans (f.trans x)) (r.up u)
    · rw [x] at f; cases f; cases n
  | dK x r =>
    rcases f with ⟨_, f⟩ | ⟨v, f, n, ob, g⟩
    · exact absurd (f _ x) (by simp [noDict])
    · rw [x] at f; cases f; exact .dK (e.trans g) (r.up u)
  | ins x r =>
    rcases f with ⟨f, _⟩ | ⟨v, f, n, _⟩
    · exact .ins (e.trans (f.trans x)) (r.up u)
    · rw [x] at f; cases f; cases n
/-- either it stands still as it is, or it is to be locked -/
theorem Own.how {T : Tab} {K : PySem.W.Frag} {H G : Hp} {a : Addr} {d : D} (h : Own T K H G a d) : Frzd H H a ∨ ∃ u, H a = some u ∧ Mut (some u) ∧ ∀ ob, Frzd H (upd H a (.frz ob u)) a := by
  cases h with
  | lst x r => exact .inl (.inl ⟨rfl, fun u e => by rw [x] at e; cases e; rfl⟩)
  | ins x r => exact .inl (.inl ⟨rfl, fun u e => by rw [x] at e; cases e; rfl⟩)
  | dK x r => exact .inr ⟨_, x, trivial, fun ob => .inr ⟨_, x, rfl, ob, upd_same⟩⟩

/-- the addresses of the things of their own -/
def ownA : List Slot → St → List Addr
  | .ow _ :: ss, some (.ref a) :: σ => a :: ownA ss σ
  | _ :: ss, _ :: σ => ownA ss σ
  | _, _ => []
def SlotR (T : Tab) (K : PySem.W.Frag) (H G : Hp) : Slot → Option V → Prop
  | .un, _ => True
  | .fz d, some v => Rep T K G v d
  | .ow d, some (.ref a) => Own T K H G a d
  | _, _ => False
inductive SlotsR (T : Tab) (K : PySem.W.Frag) (H G : Hp) : List Slot → St → Prop
  | nil : SlotsR T K H G [] []
  | cons {s : Slot} {v : Option V} {ss : List Slot} {σ : St} : SlotR T K H G s v → SlotsR T K H G ss σ → SlotsR T K H G (s :: ss) (v :: σ)

/-- the world's part: what of the heap bears it; it leans on these addresses alone -/
structure WR (W : Type) where
  ok : W → Hp → List Addr → Prop
  there : ∀ w H F, ok w H F → ∀ a ∈ F, ∃ o, H a = some o
  at_ : ∀ w H H' F, ok w H F → (∀ a ∈ F, H' a = H a) → ok w H' F

/-- what is hidden, and stands as it is; what of the world's part stays -/
structure Hid where
  h : Hp
  f0 : List Addr
  me : Option Addr
/-- what stands still: but the things of their own, the world's part and what is hidden -/
def still {W : Type} (hd : Hid) (st : S W) (σ : St) (H : Hp) (fp : List Addr) : Hp := fun a => if a ∈ ownA st.sl σ ∨ a ∈ fp ∨ (hd.h a).isSome = true then none else H a
structure SR {W : Type} (T : Tab) (K : PySem.W.Frag) (R : WR W) (hd : Hid) (st : S W) (σ : St) (H : Hp) (fp : List Addr) : Prop where
  sl : SlotsR T K H (still hd st σ H fp) st.sl σ
  w : R.ok st.w H fp
  nd : (ownA st.sl σ).Nodup
  ap : ∀ a ∈ ownA st.sl σ, a ∉ fp ∧ hd.h a = none
  hid : ∀ a o, hd.h a = some o → H a = some o
  hap : ∀ a ∈ fp, hd.h a = none
  f0 : ∀ a ∈ hd.f0, a ∈ fp
  me : ∀ (i : Nat) c fs, st.sl[i]? = some (.ow (.ins c fs)) → ∃ a, hd.me = some a ∧ σ[i]? = some (some (.ref a))
section
variable {W : Type} {hd : Hid} {st : S W} {σ : St} {H : Hp} {fp : List Addr} {a : Addr} {o : HO}
theorem still_some (h : still hd st σ H fp a = some o) : a ∉ ownA st.sl σ ∧ a ∉ fp ∧ hd.h a = none ∧ H a = some o := by
  unfold still at h
  split at h
  · cases h
  · rename_i n
    refine ⟨fun z => n (.inl z), fun z => n (.inr (.inl z)), ?_, h⟩
    cases e : hd.h a with
    | none => rfl
    | some u => exact absurd (.inr (.inr (by rw [e]; rfl))) n
theorem still_of (n1 : a ∉ ownA st.sl σ) (n2 : a ∉ fp) (n3 : hd.h a = none) (h : H a = some o) : still hd st σ H fp a = some o := by
  unfold still
  rw [if_neg (by rintro (z | z | z); exact n1 z; exact n2 z; rw [n3] at z; cases z)]
  exact h
theorem still_none (h : a ∈ ownA st.sl σ ∨ a ∈ fp ∨ (hd.h a).isSome = true) : still hd st σ H fp a = none := by
  unfold still
  rw [if_pos h]
/-- two of them are one -/
theorem still_eq {hd' : Hid} {st' : S W} {σ' : St} {H' : Hp} {fp' : List Addr} (e1 : ∀ b, (b ∈ ownA st'.sl σ' ∨ b ∈ fp' ∨ (hd'.h b).isSome = true) ↔ (b ∈ ownA st.sl σ ∨ b ∈ fp ∨ (hd.h b).isSome = true)) (e2 : ∀ b, ¬ (b ∈ ownA st.sl σ ∨ b ∈ fp ∨ (hd.h b).isSome = true) → H' b = H b) :
    still hd' st' σ' H' fp' = still hd st σ H fp := by
  funext b
  unfold still
  by_cases z : b ∈ ownA st.sl σ ∨ b ∈ fp ∨ (hd.h b).isSome = true
  · rw [if_pos ((e1 b).mpr z), if_pos z]
  · rw [if_neg fun y => z ((e1 b).mp y), if_neg z]
    exact e2 b z
end
end Mi
namespace Mi
open PySem PySem.Spec L2
open PyProof.Rows hiding St

section
variable {T : Tab} {K : PySem.W.Frag} {H H' G G' : Hp}
theorem SlotR.up {s : Slot} {v : Option V} (h : SlotR T K H G s v) (e : ∀ a, s = .ow (match s with | .ow d => d | _ => .non) → v = some (.ref a) → H' a = H a) (u : Up G G') : SlotR T K H' G' s v := by
  cases s with
  | un => trivial
  | fz d => cases v with
    | none => exact h
    | some v => exact Rep.up u h
  | ow d => cases v with
    | none => exact h
    | some v => cases v with
      | ref a => exact Own.up h (e a rfl rfl) u
      | _ => exact h
theorem SlotsR.up : ∀ {sl : List Slot} {σ : L2.St}, SlotsR T K H G sl σ → (∀ a ∈ ownA sl σ, H' a = H a) → Up G G' → SlotsR T K H' G' sl σ
  | _, _, .nil, _, _ => .nil
  | _, _, .cons (s := s) (v := v) (ss := ss) (σ := σ) h t, e, u => by
    refine .cons (h.up (fun a es ev => ?_) u) (SlotsR.up t (fun a ha => e a ?_) u)
    · rw [es, ev] at e
      exact e a (by unfold ownA; exact List.mem_cons_self)
    · unfold ownA
      split
      · rename_i h1 h2
        cases h1; cases h2
        exact List.mem_cons_of_mem _ ha
      · rename_i h1 h2
        cases h1; cases h2
        exact ha
      · rename_i h1 h2 h3
        exact (h3 _ _ _ _ rfl rfl).elim
theorem SlotsR.length : ∀ {sl : List Slot} {σ : L2.St}, SlotsR T K H G sl σ → sl.length = σ.length
  | _, _, .nil => rfl
  | _, _, .cons _ t => congrArg Nat.succ (SlotsR.length t)
theorem SlotsR.get : ∀ {sl : List Slot} {σ : L2.St} {i : Nat} {s : Slot}, SlotsR T K H G sl σ → sl[i]? = some s → ∃ v, σ[i]? = some v ∧ SlotR T K H G s v
  | _, _, _, _, .nil, e => by simp at e
  | _, _, 0, _, .cons r _, e => by simp at e; subst e; exact ⟨_, rfl, r⟩
  | _, _, i + 1, d, .cons _ t, e => by
    obtain ⟨v, h1, h2⟩ := SlotsR.get (i := i) (s := d) t (by simpa using e)
    exact ⟨v, by simpa using h1, h2⟩
theorem SlotsR.set : ∀ {sl : List Slot} {σ : L2.St} {s : Slot} {v : Option V} (i : Nat), SlotsR T K H G sl σ → SlotR T K H G s v → SlotsR T K H G (sl.set i s) (σ.set i v)
  | _, _, _, _, _, .nil, _ => .nil
  | _, _, _, _, 0, .cons _ t, h => .cons h t
  | _, _, _, _, i + 1, .cons r t, h => .cons r (SlotsR.set i t h)
theorem SlotsR.setL : ∀ {sl : List Slot} {σ : L2.St} {s : Slot} {v : Option V} {i : Nat}, SlotsR T K H G sl σ → σ[i]? = some v → SlotR T K H G s v → SlotsR T K H G (sl.set i s) σ
  | _, _, _, _, _, .nil, e, _ => by simp at e
  | _, _, _, _, 0, .cons _ t, e, h => by simp at e; subst e; exact .cons h t
  | _, _, _, _, i + 1, .cons r t, e, h => .cons r (SlotsR.setL (i := i) t (by simpa using e) h)
theorem ownA_there : ∀ {sl : List Slot} {σ : L2.St}, SlotsR T K H G sl σ → ∀ a ∈ ownA sl σ, ∃ o, H a = some o
  | _, _, .nil, a, ha => by simp [ownA] at ha
  | _, _, .cons (s := s) (v := v) (ss := ss) (σ := σ) h t, a, ha => by
    unfold ownA at ha
    split at ha
    · rename_i h1 h2
      cases h1; cases h2
      rcases List.mem_cons.mp ha with e | ha
      · subst e; exact Own.there h
      · exact ownA_there t a ha
    · rename_i h1 h2
      cases h1; cases h2
      exact ownA_there t a ha
    · simp at ha
end
/-- one slot stands still, the others are as they were -/
theorem SlotsR.setAt {T : Tab} {K : PySem.W.Frag} {H H' G G' : Hp} : ∀ {sl : List Slot} {σ : L2.St} {d d0 : D} {v : V} {i : Nat}, sl[i]? = some (.ow d0) → σ[i]? = some (some v) → SlotsR T K H G sl σ → (∀ a ∈ ownA (sl.set i (.fz d)) σ, H' a = H a) → Up G G' → Rep T K G' v d → SlotsR T K H' G' (sl.set i (.fz d)) σ
  | _, _, _, _, _, _, e, _, .nil, _, _, _ => by simp at e
  | s0 :: ss, v0 :: σ, d, d0, v, 0, e1, e2, .cons h t, same, u, r => by
    simp at e2
    subst e2
    exact .cons r (t.up (fun a ha => same a (by show a ∈ ownA (Slot.fz d :: ss) (some v :: σ); exact ha)) u)
  | s0 :: ss, v0 :: σ, d, d0, v, i + 1, e1, e2, .cons h t, same, u, r => by
    have same : ∀ a ∈ ownA (s0 :: ss.set i (.fz d)) (v0 :: σ), H' a = H a := same
    refine .cons (h.up (fun a es ev => same a ?_) u) (SlotsR.setAt (by simpa using e1) (by simpa using e2) t (fun a ha => same a ?_) u r)
    · rw [es, ev]
      unfold ownA
      exact List.mem_cons_self
    · conv => unfold ownA
      split
      · rename_i h1 h2
        cases h1; cases h2
        exact List.mem_cons_of_mem _ ha
      · rename_i h1 h2
        cases h1; cases h2
        exact ha
      · rename_i h1 h2 h3
        exact (h3 _ _ _ _ rfl rfl).elim
/-- a slot that stands still | is forgotten: no address is new -/
def Slot.isOw : Slot → Bool
  | .ow _ => true
  | _ => false
theorem ownA_set_sub : ∀ {sl : List Slot} {σ : L2.St} {s : Slot} (i : Nat) (v : Option V), s.isOw = false → (ownA (sl.set i s) (σ.set i v)).Sublist (ownA sl σ)
  | [], σ, s, i, v, h => by simp [ownA]
  | s0 :: ss, [], s, i, v, h => by cases i <;> cases s0 <;> cases s <;> simp [ownA]
  | s0 :: ss, v0 :: σ, s, 0, v, h => by
    have e : ownA (s :: ss) (v :: σ) = ownA ss σ := by cases s with | ow d => cases h | un => cases v <;> rfl | fz d => cases v <;> rfl
    show (ownA (s :: ss) (v :: σ)).Sublist _
    rw [e]
    conv => rhs; unfold ownA
    split
    · rename_i h1 h2; cases h1; cases h2; exact List.sublist_cons_self _ _
    · rename_i h1 h2; cases h1; cases h2; exact List.Sublist.refl _
    · rename_i h1 h2 h3; exact (h3 _ _ _ _ rfl rfl).elim
  | s0 :: ss, v0 :: σ, s, i + 1, v, h => by
    have ih := ownA_set_sub (sl := ss) (σ := σ) (s := s) i v h
    show (ownA (s0 :: ss.set i s) (v0 :: σ.set i v)).Sublist _
    cases s0 with
    | ow d => cases v0 with
      | none => exact ih
      | some x => cases x with
        | ref a => exact ih.cons_cons a
        | _ => exact ih
    | _ => cases v0 <;> exact ih
theorem ownA_setL_sub {sl : List Slot} {σ : L2.St} {s : Slot} {i : Nat} (h : s.isOw = false) : (ownA (sl.set i s) σ).Sublist (ownA sl σ) := by
  by_cases hi : i < σ.length
  · have e : σ.set i (σ[i]) = σ := List.set_getElem_self hi
    have q := ownA_set_sub (sl := sl) (σ := σ) (s := s) i (σ[i]) h
    rw [e] at q
    exact q
  · have q := ownA_set_sub (sl := sl) (σ := σ) (s := s) i none h
    have e : σ.set i none = σ := List.set_eq_of_length_le (by omega)
    rw [e] at q
    exact q
/-- the address of a thing of its own, pulled out -/
theorem ownA_pull : ∀ {sl : List Slot} {σ : L2.St} {s : Slot} {i : Nat} {d : D} {a : Addr}, sl[i]? = some (.ow d) → σ[i]? = some (some (.ref a)) → s.isOw = false → (ownA sl σ).Perm (a :: ownA (sl.set i s) σ)
  | [], _, _, i, _, _, e, _, _ => by simp at e
  | _ :: _, [], _, i, _, _, _, e, _ => by simp at e
  | s0 :: ss, v0 :: σ, s, 0, d, a, e1, e2, h => by
    simp at e1 e2
    subst e1 e2
    have e : ownA (s :: ss) (some (V.ref a) :: σ) = ownA ss σ := by cases s with | ow d => cases h | un => rfl | fz d => rfl
    show (ownA (Slot.ow d :: ss) (some (V.ref a) :: σ)).Perm (a :: ownA (s :: ss) (some (V.ref a) :: σ))
    rw [e]
    exact List.Perm.refl _
  | s0 :: ss, v0 :: σ, s, i + 1, d, a, e1, e2, h => by
    have ih := ownA_pull (sl := ss) (σ := σ) (s := s) (i := i) (d := d) (a := a) (by simpa using e1) (by simpa using e2) h
    show (ownA (s0 :: ss) (v0 :: σ)).Perm (a :: ownA (s0 :: ss.set i s) (v0 :: σ))
    cases s0 with
    | ow d0 => cases v0 with
      | none => exact ih
      | some x => cases x with
        | ref b => exact (ih.cons b).trans (List.Perm.swap a b _)
        | _ => exact ih
    | _ => cases v0 <;> exact ih
/-- a new one laid into a slot -/
theorem ownA_set_ow : ∀ {sl : List Slot} {σ : L2.St} {i : Nat} {d : D} {a : Addr}, i < sl.length → i < σ.length → (ownA (sl.set i (.ow d)) (σ.set i (some (.ref a)))).Perm (a :: ownA (sl.set i .un) (σ.set i (some (.ref a))))
  | sl, σ, i, d, a, h1, h2 => by
    have := ownA_pull (sl := sl.set i (.ow d)) (σ := σ.set i (some (.ref a))) (s := .un) (i := i) (d := d) (a := a) (by simp [h1]) (by simp [h2]) rfl
    rw [List.set_set] at this
    exact this

section
variable {W : Type} {T : Tab} {K : PySem.W.Frag} {R : WR W} {hd : Hid} {st : S W} {σ : L2.St} {H H' : Hp} {fp : List Addr}
theorem SR.own_there (h : SR T K R hd st σ H fp) : ∀ a ∈ ownA st.sl σ, ∃ o, H a = some o := ownA_there h.sl
theorem SR.fp_there (h : SR T K R hd st σ H fp) : ∀ a ∈ fp, ∃ o, H a = some o := R.there _ _ _ h.w
/-- a new address is none of those that are left out -/
theorem SR.notin {p : Addr} (q : SR T K R hd st σ H fp) (n : H p = none) : p ∉ ownA st.sl σ ∧ p ∉ fp ∧ hd.h p = none := by
  refine ⟨fun z => ?_, fun z => ?_, ?_⟩
  · obtain ⟨u, e⟩ := q.own_there p z
    rw [n] at e; cases e
  · obtain ⟨u, e⟩ := q.fp_there p z
    rw [n] at e; cases e
  · cases e : hd.h p with
    | none => rfl
    | some u => have := q.hid p u e; rw [n] at this; cases this
theorem still_le0 : Le (still hd st σ H fp) H := fun a o e => (still_some e).2.2.2
/-- the tracked things stay, new ones come -/
theorem still_grow (_ : SR T K R hd st σ H fp) (l : Le H H') : Le (still hd st σ H fp) (still hd st σ H' fp) := fun a o e => by
  obtain ⟨n1, n2, n3, e⟩ := still_some e
  exact still_of n1 n2 n3 (l a o e)
theorem same_of {a : Addr} (l : Le H H') (h : ∃ o, H a = some o) : H' a = H a := by
  obtain ⟨o, e⟩ := h
  rw [e, l a o e]
theorem SR.grow (h : SR T K R hd st σ H fp) (l : Le H H') : SR T K R hd st σ H' fp :=
  ⟨h.sl.up (fun a ha => same_of l (h.own_there a ha)) (still_grow h l).up, R.at_ _ _ _ _ h.w fun a ha => same_of l (h.fp_there a ha), h.nd, h.ap, fun a o e => l _ _ (h.hid a o e), h.hap, h.f0, h.me⟩
theorem still_new (h : SR T K R hd st σ H fp) (l : Le H H') {a : Addr} {o : HO} (n : H a = none) (e : H' a = some o) : still hd st σ H' fp a = some o :=
  still_of (h.notin n).1 (h.notin n).2.1 (h.notin n).2.2 e
theorem le_upd {p : Addr} {o : HO} (n : H p = none) : Le H (upd H p o) := fun a u e => by
  rw [upd_ne (ne_of_none e n)]
  exact e
end

abbrev Ex (W : Type) := S W → Option (D × S W)
abbrev Tx (W : Type) := S W → Option (Bool × S W)
abbrev As (W : Type) := S W → Option (List D × S W)
inductive Out where
  | nx | rt (d : D) | bk | ct
abbrev Sm (W : Type) := S W → Option (Out × S W)
/-- the functions: by a number, the arguments, the world -/
abbrev Fn (W : Type) := Nat → List D → W → Option (D × W)

section
variable {W : Type} (T : Tab) (K : PySem.W.Frag) (R : WR W)
def tE (f : Ex W) : TE := fun σ H Q => ∃ st fp hd, SR T K R hd st σ H fp ∧ ∃ d st', f st = some (d, st') ∧
  ∀ v H' fp', SR T K R hd st' σ H' fp' → Le (still hd st σ H fp) (still hd st' σ H' fp') → Rep T K (still hd st' σ H' fp') v d → Q v H'
def tT (f : Tx W) : TT := fun σ H Q => ∃ st fp hd, SR T K R hd st σ H fp ∧ ∃ b st', f st = some (b, st') ∧
  ∀ H' fp', SR T K R hd st' σ H' fp' → Le (still hd st σ H fp) (still hd st' σ H' fp') → Q b H'
def tA (f : As W) : TA := fun σ H Q => ∃ st fp hd, SR T K R hd st σ H fp ∧ ∃ ds st', f st = some (ds, st') ∧
  ∀ vs H' fp', SR T K R hd st' σ H' fp' → Le (still hd st σ H fp) (still hd st' σ H' fp') → Reps T K (still hd st' σ H' fp') vs ds → Q vs H'
def tS (f : Sm W) : TS := fun D σ H => ∃ st fp hd, SR T K R hd st σ H fp ∧ ∃ o st', f st = some (o, st') ∧
  match o with
  | .nx => ∀ σ' H' fp', SR T K R hd st' σ' H' fp' → Le (still hd st σ H fp) (still hd st' σ' H' fp') → D.nx σ' H'
  | .bk => ∀ σ' H' fp', SR T K R hd st' σ' H' fp' → Le (still hd st σ H fp) (still hd st' σ' H' fp') → D.bk σ' H'
  | .ct => ∀ σ' H' fp', SR T K R hd st' σ' H' fp' → Le (still hd st σ H fp) (still hd st' σ' H' fp') → D.ct σ' H'
  | .rt d => ∀ v σ' H' fp', SR T K R hd st' σ' H' fp' → Le (still hd st σ H fp) (still hd st' σ' H' fp') → Rep T K (still hd st' σ' H' fp') v d → D.rt v H'
end
section
variable {X : Cx} {e : Expr} {s : Stmt} {ss : List Stmt} {es : List Expr}
theorem _root_.L2.PE.imp {t u : TE} (h : PE X e t) (i : ∀ σ H Q, u σ H Q → t σ H Q) : PE X e u := ⟨fun pins s σ H Q I q => h.run pins s σ H Q I (i σ H Q q)⟩
theorem _root_.L2.PT.imp {t u : TT} (h : PT X e t) (i : ∀ σ H Q, u σ H Q → t σ H Q) : PT X e u := ⟨fun pins s σ H Q I q => h.run pins s σ H Q I (i σ H Q q)⟩
theorem _root_.L2.PA.imp {t u : TA} (h : PA X es t) (i : ∀ σ H Q, u σ H Q → t σ H Q) : PA X es u := ⟨fun pos pins s σ H Q I q => h.run pos pins s σ H Q I (i σ H Q q)⟩
theorem _root_.L2.PS.imp {t u : TS} (h : PS X s t) (i : ∀ D σ H, u D σ H → t D σ H) : PS X s u := ⟨fun pins s σ H D I q => h.run pins s σ H D I (i D σ H q)⟩
theorem _root_.L2.PSs.imp {t u : TS} (h : PSs X ss t) (i : ∀ D σ H, u D σ H → t D σ H) : PSs X ss u := ⟨fun pins s σ H D I q => h.run pins s σ H D I (i D σ H q)⟩
end
/-- behind an expression a thing may be locked -/
theorem pe_frz {X : Cx} {e : Expr} {t : TE} (h : PE X e t) : PE X e (fun σ H Q => t σ H fun v H1 => Q v H1 ∨ ∃ d u, H1 d = some u ∧ Mut (some u) ∧ ∀ ob, Q v (upd H1 d (.frz ob u))) := ⟨fun pins s σ H Q I q => thn (h.run pins s σ H _ I q) fun v s1 ⟨x, H1, I1, r1, q1⟩ => by
  rcases q1 with q1 | ⟨d, u, e1, mu, q1⟩
  · exact ⟨x, H1, I1, r1, q1⟩
  · obtain ⟨ob, I2⟩ := I1.lock e1 mu
    exact ⟨x, _, I2, r1, q1 ob⟩⟩
section
variable {W : Type} {T : Tab} {K : PySem.W.Frag} {R : WR W} {hd : Hid} {st : S W} {σ : L2.St} {H H' : Hp} {fp : List Addr}
/-- a slot's own thing stands still from here on -/
theorem SR.freeze (q : SR T K R hd st σ H fp) {i : Nat} {d : D} {a : Addr} (hs : st.sl[i]? = some (.ow d)) (hv : σ[i]? = some (some (.ref a))) (f : Frzd H H' a) (same : ∀ b, b ≠ a → H' b = H b) :
    SR T K R hd { st with sl := st.sl.set i (.fz d) } σ H' fp ∧ Le (still hd st σ H fp) (still hd { st with sl := st.sl.set i (.fz d) } σ H' fp) ∧ Rep T K (still hd { st with sl := st.sl.set i (.fz d) } σ H' fp) (.ref a) d := by
  obtain ⟨v, hv', r⟩ := q.sl.get hs
  rw [hv] at hv'
  cases hv'
  have own : Own T K H (still hd st σ H fp) a d := r
  have pl := ownA_pull (s := Slot.fz d) hs hv rfl
  have nd : (a :: ownA (st.sl.set i (.fz d)) σ).Nodup := pl.nodup_iff.mp q.nd
  have sub : ∀ x ∈ ownA (st.sl.set i (.fz d)) σ, x ∈ ownA st.sl σ := fun x hx => pl.mem_iff.mpr (List.mem_cons_of_mem _ hx)
  have ina : a ∈ ownA st.sl σ := pl.mem_iff.mpr List.mem_cons_self
  have na : a ∉ ownA (st.sl.set i (.fz d)) σ := (List.nodup_cons.mp nd).1
  have nf : a ∉ fp ∧ hd.h a = none := q.ap a ina
  have le : Le (still hd st σ H fp) (still hd { st with sl := st.sl.set i (.fz d) } σ H' fp) := fun b o e => by
    obtain ⟨n1, n2, n3, e⟩ := still_some e
    have nb : b ≠ a := fun z => n1 (z ▸ ina)
    exact still_of (fun z => n1 (sub b z)) n2 n3 (by rw [same b nb]; exact e)
  have ex : ∃ o, H' a = some o := by
    rcases f with ⟨f, _⟩ | ⟨u, _, _, ob, g⟩
    · obtain ⟨o, ho⟩ := own.there
      exact ⟨o, by rw [f]; exact ho⟩
    · exact ⟨_, g⟩
  have rep : Rep T K (still hd { st with sl := st.sl.set i (.fz d) } σ H' fp) (.ref a) d := by
    obtain ⟨o, ho⟩ := ex
    refine own.rep le.up f ?_
    rw [ho]
    exact still_of na nf.1 nf.2 ho
  refine ⟨⟨?_, R.at_ _ _ _ _ q.w fun b hb => same b fun z => nf.1 (z ▸ hb), (List.nodup_cons.mp nd).2, fun x hx => q.ap x (sub x hx), fun b o e => ?_, q.hap, q.f0, fun j c fs e => ?_⟩, le, rep⟩
  · by_cases hi : i < st.sl.length
    · -- the other slots, then this one
      refine SlotsR.setAt hs hv q.sl (fun x hx => same x fun z => na (z ▸ hx)) le.up rep
    · rw [List.getElem?_eq_none (by omega)] at hs
      cases hs
  · rw [same b (fun z => by rw [z, nf.2] at e; cases e)]
    exact q.hid b o e
  · have e : (st.sl.set i (.fz d))[j]? = some (.ow (.ins c fs)) := e
    by_cases hj : i = j
    · subst hj
      rw [List.getElem?_set_self (List.getElem?_eq_some_iff.mp hs).1] at e
      cases e
    · rw [List.getElem?_set_ne hj] at e
      exact q.me j c fs e
end
end Mi
namespace Mi
open PySem PySem.Spec L2
open PyProof.Rows hiding St

section
variable (T : Tab) (K : PySem.W.Frag)
/-- new things of H', and what stood in G, are in G' -/
def Sees (G H H' G' : Hp) : Prop := Le G G' ∧ ∀ a o, H a = none → H' a = some o → G' a = some o
/-- the answer of a pure operation -/
def Ans (H G : Hp) (d : D) (Q : VK) : Prop := ∀ v H', Le H H' → (∀ G', Sees G H H' G' → Rep T K G' v d) → Q v H'
def OpS (r : R2) (g : D → D → Option D) : Prop := ∀ x y H G d1 d2 d Q, Le G H → Rep T K G x d1 → Rep T K G y d2 → g d1 d2 = some d → Ans T K H G d Q → r x y H Q
def UnS (r : V → Hp → VK → Prop) (g : D → Option D) : Prop := ∀ x H G d1 d Q, Le G H → Rep T K G x d1 → g d1 = some d → Ans T K H G d Q → r x H Q
def CallS (r : List V → Hp → VK → Prop) (g : List D → Option D) : Prop := ∀ xs H G ds d Q, Le G H → Reps T K G xs ds → g ds = some d → Ans T K H G d Q → r xs H Q
end
section
variable {T : Tab} {K : PySem.W.Frag} {H G : Hp} {d : D} {Q : VK}
/-- an answer that makes nothing -/
theorem Ans.plain (h : Ans T K H G d Q) {v : V} (r : Rep T K G v d) : Q v H := h v H (Le.refl H) fun G' s => r.up s.1.up
theorem Ans.scal (h : Ans T K H G d Q) {v : V} (r : ∀ G', Rep T K G' v d) : Q v H := h v H (Le.refl H) fun G' _ => r G'
/-- an answer that makes one thing -/
theorem Ans.new (h : Ans T K H G d Q) {p : Addr} {o : HO} (n : H p = none) (r : ∀ G', Le G G' → G' p = some o → Rep T K G' (.ref p) d) : Q (.ref p) (upd H p o) :=
  h _ _ (le_upd n) fun G' s => r G' s.1 (s.2 p o n upd_same)
end

section
variable {W : Type} {T : Tab} {K : PySem.W.Frag} {R : WR W} {hd : Hid} {st st' : S W} {σ : L2.St} {H H' : Hp} {fp : List Addr}
/-- from a pure operation back to states -/
theorem ans_of {d : D} {Q : VK} (h : SR T K R hd st σ H fp) (k : ∀ v H' fp', SR T K R hd st σ H' fp' → Le (still hd st σ H fp) (still hd st σ H' fp') → Rep T K (still hd st σ H' fp') v d → Q v H') : Ans T K H (still hd st σ H fp) d Q := fun v H' l r =>
  k v H' fp (h.grow l) (still_grow h l) (r _ ⟨still_grow h l, fun a o n e => still_new h l n e⟩)
theorem still_le {hd : Hid} {st : S W} : Le (still hd st σ H fp) H := still_le0
end

/-- a tuple's display: the new tuple has no dict -/
theorem pe_tupN {X : Cx} {es : List Expr} {t : TA} {pos : Pos} {x1 : Nat} (h : PA X es t) : PE X (.Tuple es x1 pos) (fun σ H Q => t σ H fun xs H1 => xs.length ≤ sizeLine ∧ ∀ p ob, H1 p = none → ob.dict = none → Q (.ref p) (upd H1 p (.frz ob (.tup xs)))) := by
  refine ⟨fun pins s σ H Q I hq => ?_⟩
  refine wpAny_Tuple_spliced (thn (h.run pos pins s σ H _ I hq) fun us s1 ⟨xs, H1, I1, r, z, q⟩ => ⟨by rw [← r.length] ; exact z, ?_⟩)
  have hf : H1 s1.heap.objs.size = none := I1.hok.fresh (Nat.le_refl _)
  have new := Heap.get?_push_size s1.heap (o := { cls := .type "tuple", data := .seq us.toArray }) rfl
  exact ⟨.ref s1.heap.objs.size, upd H1 s1.heap.objs.size (.frz { cls := .type "tuple", data := .seq us.toArray } (.tup xs)), I1.laid (t' := s1.toks) (fun b u e => Heap.get?_push_of_some _ e) (Nat.le_refl _) ⟨new, z, us, r, ⟨_, new, rfl, _, rfl⟩⟩, rfl, q _ _ hf rfl⟩

section
variable {W : Type}
def eC (d : D) : Ex W := fun st => some (d, st)
def eVar (i : Nat) : Ex W := fun st => match st.sl[i]? with
  | some (.fz d) => some (d, st)
  | some (.ow d) => some (d, { st with sl := st.sl.set i (.fz d) })
  | _ => none
def eFail : Ex W := fun _ => none
def eUn (g : D → Option D) (a : Ex W) : Ex W := fun st => match a st with
  | some (x, st1) => (match g x with
    | some d => some (d, st1)
    | none => none)
  | none => none
def eBin (g : D → D → Option D) (a b : Ex W) : Ex W := fun st => match a st with
  | some (x, st1) => (match b st1 with
    | some (y, st2) => (match g x y with
      | some d => some (d, st2)
      | none => none)
    | none => none)
  | none => none
def aNil : As W := fun st => some ([], st)
def aCons (a : Ex W) (b : As W) : As W := fun st => match a st with
  | some (x, st1) => (match b st1 with
    | some (xs, st2) => some (x :: xs, st2)
    | none => none)
  | none => none
/-- the items of a list, of a tuple -/
def items : D → Option (List D)
  | .lst l => some l
  | .tup l => some l
  | .tuq l => some l
  | _ => none
def aStar (a : Ex W) (b : As W) : As W := fun st => match a st with
  | some (x, st1) => (match items x with
    | some xs => (match b st1 with
      | some (ys, st2) => some (xs ++ ys, st2)
      | none => none)
    | none => none)
  | none => none
/-- a call of something pure -/
def ePure (g : List D → Option D) (a : As W) : Ex W := fun st => match a st with
  | some (xs, st1) => (match g xs with
    | some d => some (d, st1)
    | none => none)
  | none => none
def gTupD (xs : List D) : Option D := if xs.length ≤ sizeLine then some (.tup xs) else none
def gLstD (xs : List D) : Option D := if xs.length ≤ sizeLine then some (.lst xs) else none
def eIf (c : Tx W) (a b : Ex W) : Ex W := fun st => match c st with
  | some (true, st1) => a st1
  | some (false, st1) => b st1
  | none => none
/-- bools: and, or, not as values -/
def eAnd (a b : Ex W) : Ex W := fun st => match a st with
  | some (.bl true, st1) => b st1
  | some (.bl false, st1) => some (.bl false, st1)
  | _ => none
def eOr (a b : Ex W) : Ex W := fun st => match a st with
  | some (.bl true, st1) => some (.bl true, st1)
  | some (.bl false, st1) => b st1
  | _ => none
def gNotD : D → Option D
  | .bl b => some (.bl (!b))
  | _ => none
def xFail : Tx W := fun _ => none
def xAnd (a b : Tx W) : Tx W := fun st => match a st with
  | some (true, st1) => b st1
  | some (false, st1) => some (false, st1)
  | none => none
def xOr (a b : Tx W) : Tx W := fun st => match a st with
  | some (true, st1) => some (true, st1)
  | some (false, st1) => b st1
  | none => none
def xNot (a : Tx W) : Tx W := fun st => match a st with
  | some (b, st1) => some (!b, st1)
  | none => none
def truD : D → Option Bool
  | .non => some false
  | .bl b => some b
  | .int i => some (i != 0)
  | .str x => if x.length ≤ sizeLine then some ((x.length : Int) != 0) else none
  | .lst l => some (!l.isEmpty)
  | .tup l => some (!l.isEmpty)
  | _ => none
def xOf (a : Ex W) : Tx W := fun st => match a st with
  | some (d, st1) => (match truD d with
    | some b => some (b, st1)
    | none => none)
  | none => none
/-- a test by a bool -/
def xBl (a : Ex W) : Tx W := fun st => match a st with
  | some (.bl b, st1) => some (b, st1)
  | _ => none
end

section
variable {W : Type} {T : Tab} {R : WR W} {X : Cx} {e a b c : Expr} {es : List Expr} {pos p : Pos}
theorem te_fail {f : Ex W} (h : ∀ st, f st = none) : PE X e (tE T X.K R f) := ⟨fun pins s σ H Q I ⟨st, fp, hd, _, d, st', h', _⟩ => by rw [h st] at h'; cases h'⟩
theorem tt_fail {f : Tx W} (h : ∀ st, f st = none) : PT X e (tT T X.K R f) := ⟨fun pins s σ H Q I ⟨st, fp, hd, _, d, st', h', _⟩ => by rw [h st] at h'; cases h'⟩
theorem ta_fail {f : As W} (h : ∀ st, f st = none) : PA X es (tA T X.K R f) := ⟨fun pos pins s σ H Q I ⟨st, fp, hd, _, d, st', h', _⟩ => by rw [h st] at h'; cases h'⟩
theorem ts_fail {f : Sm W} {st0 : Stmt} (h : ∀ st, f st = none) : PS X st0 (tS T X.K R f) := ⟨fun pins s σ H Q I ⟨st, fp, hd, _, d, st', h', _⟩ => by rw [h st] at h'; cases h'⟩
/-- a constant -/
theorem te_c {v : V} {d : D} (h : PE X e (tC v)) (r : ∀ G, Rep T X.K G v d) : PE X e (tE T X.K R (eC d)) := h.imp fun σ H Q ⟨st, fp, hd, q, d', st', h', k⟩ => by
  cases h'
  exact k v H fp q (Le.refl _) (r _)
/-- a name -/
theorem te_var {i : Nat} (h : PE X e (tVar i)) : PE X e (tE T X.K R (eVar i)) := (pe_frz h).imp fun σ H Q ⟨st, fp, hd, q, d, st', h', k⟩ => by
  unfold eVar at h'
  split at h'
  · rename_i d' hs
    cases h'
    obtain ⟨v, hv, r⟩ := q.sl.get hs
    cases v with
    | none => exact r.elim
    | some v => exact ⟨v, hv, .inl (k v H fp q (Le.refl _) r)⟩
  · rename_i d' hs
    cases h'
    obtain ⟨v, hv, r⟩ := q.sl.get hs
    cases v with
    | none => exact r.elim
    | some v =>
      cases v with
      | ref a =>
        have own : Own T X.K H (still hd st σ H fp) a d := r
        rcases own.how with f | ⟨u, eu, mu, f⟩
        · obtain ⟨q1, l1, r1⟩ := q.freeze hs hv f fun _ _ => rfl
          exact ⟨_, hv, .inl (k _ H fp q1 l1 r1)⟩
        · refine ⟨_, hv, .inr ⟨a, u, eu, mu, fun ob => ?_⟩⟩
          obtain ⟨q1, l1, r1⟩ := q.freeze hs hv (f ob) fun b nb => upd_ne nb
          exact k _ _ fp q1 l1 r1
      | _ => exact r.elim
  · cases h'
/-- one expression, then something pure -/
theorem te_un {f : Ex W} {r : V → Hp → VK → Prop} {g : D → Option D} {ta : TE} (ha : PE X a (tE T X.K R f)) (hg : UnS T X.K r g) (h : ∀ t : TE, PE X a t → PE X e (fun σ H Q => t σ H fun x H1 => r x H1 Q)) : PE X e (tE T X.K R (eUn g f)) := (h _ ha).imp fun σ H Q ⟨st, fp, hd, q, d, st', h', k⟩ => by
  unfold eUn at h'
  split at h'
  · rename_i x st1 hx
    split at h'
    · rename_i d' hdd
      cases h'
      refine ⟨st, fp, hd, q, x, _, hx, fun v H1 fp1 q1 l1 r1 => ?_⟩
      exact hg v H1 _ x d Q still_le r1 hdd (ans_of q1 fun v2 H2 fp2 q2 l2 r2 => k v2 H2 fp2 q2 (l1.trans l2) r2)
    · cases h'
  · cases h'
/-- two expressions, then something pure -/
theorem te_bin {f1 f2 : Ex W} {r : R2} {g : D → D → Option D} (ha : PE X a (tE T X.K R f1)) (hb : PE X b (tE T X.K R f2)) (hg : OpS T X.K r g) (h : ∀ ta tb : TE, PE X a ta → PE X b tb → PE X e (tOp r ta tb)) : PE X e (tE T X.K R (eBin g f1 f2)) := (h _ _ ha hb).imp fun σ H Q ⟨st, fp, hd, q, d, st', h', k⟩ => by
  unfold eBin at h'
  split at h'
  · rename_i x st1 hx
    split at h'
    · rename_i y st2 hy
      split at h'
      · rename_i d' hdd
        cases h'
        refine ⟨st, fp, hd, q, x, _, hx, fun v H1 fp1 q1 l1 r1 => ⟨st1, fp1, hd, q1, y, _, hy, fun v2 H2 fp2 q2 l2 r2 => ?_⟩⟩
        exact hg v v2 H2 _ x y d Q still_le (r1.up l2.up) r2 hdd (ans_of q2 fun v3 H3 fp3 q3 l3 r3 => k v3 H3 fp3 q3 ((l1.trans l2).trans l3) r3)
      · cases h'
    · cases h'
  · cases h'
theorem ta_nil : PA X [] (tA T X.K R (aNil (W := W))) := pa_nil.imp fun σ H Q ⟨st, fp, hd, q, ds, st', h', k⟩ => by
  cases h'
  exact k [] H fp q (Le.refl _) .nil
theorem ta_cons {f : Ex W} {g : As W} (ha : PE X a (tE T X.K R f)) (hr : PA X es (tA T X.K R g)) (hs : starEach (a :: es) X.env = (false, eval a X.env) :: starEach es X.env) : PA X (a :: es) (tA T X.K R (aCons f g)) := (pa_cons ha hr hs).imp fun σ H Q ⟨st, fp, hd, q, ds, st', h', k⟩ => by
  unfold aCons at h'
  split at h'
  · rename_i x st1 hx
    split at h'
    · rename_i xs st2 hy
      cases h'
      exact ⟨st, fp, hd, q, x, _, hx, fun v H1 fp1 q1 l1 r1 => ⟨st1, fp1, hd, q1, xs, _, hy, fun vs H2 fp2 q2 l2 r2 => k _ H2 fp2 q2 (l1.trans l2) (.cons (r1.up l2.up) r2)⟩⟩
    · cases h'
  · cases h'
/-- call of something pure -/
theorem te_pure {f : As W} {r : List V → Hp → VK → Prop} {g : List D → Option D} (ha : PA X es (tA T X.K R f)) (hg : CallS T X.K r g) (h : ∀ t : TA, PA X es t → PE X e (fun σ H Q => t σ H fun xs H1 => r xs H1 Q)) : PE X e (tE T X.K R (ePure g f)) := (h _ ha).imp fun σ H Q ⟨st, fp, hd, q, d, st', h', k⟩ => by
  unfold ePure at h'
  split at h'
  · rename_i xs st1 hx
    split at h'
    · rename_i d' hdd
      cases h'
      refine ⟨st, fp, hd, q, xs, _, hx, fun vs H1 fp1 q1 l1 r1 => ?_⟩
      exact hg vs H1 _ xs d Q still_le r1 hdd (ans_of q1 fun v2 H2 fp2 q2 l2 r2 => k v2 H2 fp2 q2 (l1.trans l2) r2)
    · cases h'
  · cases h'
theorem tup_s {T : Tab} {K : PySem.W.Frag} : CallS T K (fun xs H1 Q => xs.length ≤ sizeLine ∧ ∀ p ob, H1 p = none → ob.dict = none → Q (.ref p) (upd H1 p (.frz ob (.tup xs)))) gTupD := fun xs H G ds d Q _ r e k => by
  unfold gTupD at e
  split at e
  · rename_i hl
    cases e
    exact ⟨by rw [r.length]; exact hl, fun p ob n nd => k.new n fun G' l z => .tup (TupN.of z nd) (r.up l.up)⟩
  · cases e
theorem lst_s {T : Tab} {K : PySem.W.Frag} : CallS T K (fun xs H1 Q => xs.length ≤ sizeLine ∧ ∀ p, H1 p = none → Q (.ref p) (upd H1 p (.lst xs))) gLstD := fun xs H G ds d Q _ r e k => by
  unfold gLstD at e
  split at e
  · rename_i hl
    cases e
    exact ⟨by rw [r.length]; exact hl, fun p n => k.new n fun G' l z => .lst z (r.up l.up)⟩
  · cases e
theorem te_tup {f : As W} {x1} (ha : PA X es (tA T X.K R f)) : PE X (.Tuple es x1 pos) (tE T X.K R (ePure gTupD f)) := te_pure ha tup_s fun t h => pe_tupN h
theorem te_lst {f : As W} (ha : PA X es (tA T X.K R f)) : PE X (.List es pos) (tE T X.K R (ePure gLstD f)) := te_pure ha lst_s fun t h => pe_lst h
theorem te_if {fc : Tx W} {f1 f2 : Ex W} (hc : PT X c (tT T X.K R fc)) (ha : PE X a (tE T X.K R f1)) (hb : PE X b (tE T X.K R f2)) : PE X (.IfExp c a b pos) (tE T X.K R (eIf fc f1 f2)) := (pe_ifExp hc ha hb).imp fun σ H Q ⟨st, fp, hd, q, d, st', h', k⟩ => by
  unfold eIf at h'
  split at h'
  · rename_i st1 hc1
    exact ⟨st, fp, hd, q, true, st1, hc1, fun H1 fp1 q1 l1 => iteT (⟨st1, fp1, hd, q1, d, st', h', fun v H2 fp2 q2 l2 r2 => k v H2 fp2 q2 (l1.trans l2) r2⟩)⟩
  · rename_i st1 hc1
    exact ⟨st, fp, hd, q, false, st1, hc1, fun H1 fp1 q1 l1 => iteF (⟨st1, fp1, hd, q1, d, st', h', fun v H2 fp2 q2 l2 r2 => k v H2 fp2 q2 (l1.trans l2) r2⟩)⟩
  · cases h'
theorem rep_bl {T : Tab} {K : PySem.W.Frag} {G : Hp} {v : V} {b : Bool} (r : Rep T K G v (.bl b)) : v = .bl b := by cases r; rfl
theorem te_and {f1 f2 : Ex W} {rest : List Expr} (ha : PE X a (tE T X.K R f1)) (hb : PE X (.BoolOp .And (b :: rest) pos) (tE T X.K R f2)) : PE X (.BoolOp .And (a :: b :: rest) pos) (tE T X.K R (eAnd f1 f2)) := (pe_and ha hb).imp fun σ H Q ⟨st, fp, hd, q, d, st', h', k⟩ => by
  unfold eAnd at h'
  split at h'
  · rename_i st1 hc1
    exact ⟨st, fp, hd, q, _, st1, hc1, fun v H1 fp1 q1 l1 r1 => ⟨true, rep_bl r1, iteT (⟨st1, fp1, hd, q1, d, st', h', fun v H2 fp2 q2 l2 r2 => k v H2 fp2 q2 (l1.trans l2) r2⟩)⟩⟩
  · rename_i st1 hc1
    cases h'
    exact ⟨st, fp, hd, q, _, _, hc1, fun v H1 fp1 q1 l1 r1 => ⟨false, rep_bl r1, iteF (k _ H1 fp1 q1 l1 (.bl false))⟩⟩
  · cases h'
theorem te_or {f1 f2 : Ex W} {rest : List Expr} (ha : PE X a (tE T X.K R f1)) (hb : PE X (.BoolOp .Or (b :: rest) pos) (tE T X.K R f2)) : PE X (.BoolOp .Or (a :: b :: rest) pos) (tE T X.K R (eOr f1 f2)) := (pe_or ha hb).imp fun σ H Q ⟨st, fp, hd, q, d, st', h', k⟩ => by
  unfold eOr at h'
  split at h'
  · rename_i st1 hc1
    cases h'
    exact ⟨st, fp, hd, q, _, _, hc1, fun v H1 fp1 q1 l1 r1 => ⟨true, rep_bl r1, iteT (k _ H1 fp1 q1 l1 (.bl true))⟩⟩
  · rename_i st1 hc1
    exact ⟨st, fp, hd, q, _, st1, hc1, fun v H1 fp1 q1 l1 r1 => ⟨false, rep_bl r1, iteF (⟨st1, fp1, hd, q1, d, st', h', fun v H2 fp2 q2 l2 r2 => k v H2 fp2 q2 (l1.trans l2) r2⟩)⟩⟩
  · cases h'
theorem te_one {op} {f : Ex W} (h : PE X a (tE T X.K R f)) : PE X (.BoolOp op [a] pos) (tE T X.K R f) := pe_one h
/-- not a (any value by its test) -/
theorem te_not {f : Ex W} (ha : PE X a (tE T X.K R f)) : PE X (.UnaryOp .Not a pos) (tE T X.K R (eUn gNotD f)) := (pe_not ha).imp fun σ H Q ⟨st, fp, hd, q, d, st', h', k⟩ => by
  unfold eUn at h'
  split at h'
  · rename_i x st1 hx
    split at h'
    · rename_i d' hdd
      cases h'
      unfold gNotD at hdd
      split at hdd
      · rename_i b
        cases hdd
        exact ⟨st, fp, hd, q, _, _, hx, fun v H1 fp1 q1 l1 r1 => ⟨b, rep_bl r1, k _ H1 fp1 q1 l1 (.bl _)⟩⟩
      · cases hdd
    · cases h'
  · cases h'
theorem tt_bl {f : Ex W} {t : TE} (ha : PE X a (tE T X.K R f)) (h : ∀ t : TE, PE X a t → PT X a (tB t)) : PT X a (tT T X.K R (xBl f)) := (h _ ha).imp fun σ H Q ⟨st, fp, hd, q, b, st', h', k⟩ => by
  unfold xBl at h'
  split at h'
  · rename_i b' st1 hx
    cases h'
    exact ⟨st, fp, hd, q, _, _, hx, fun v H1 fp1 q1 l1 r1 => ⟨b, rep_bl r1, k H1 fp1 q1 l1⟩⟩
  · cases h'
theorem sql_of {T : Tab} {K : PySem.W.Frag} {G H : Hp} {v : V} {l : List D} (h : Rep T K G v (.lst l)) (le : Le G H) : ∃ a xs, v = .ref a ∧ SqL K H a xs ∧ Reps T K G xs l := by
  cases h with
  | lst z r => exact ⟨_, _, rfl, SqL.of (le _ _ z), r⟩
theorem sqt_of {T : Tab} {K : PySem.W.Frag} {G H : Hp} {v : V} {l : List D} (h : Rep T K G v (.tup l)) (le : Le G H) : ∃ a xs, v = .ref a ∧ SqT K H a xs ∧ Reps T K G xs l := by
  cases h with
  | tup z r => exact ⟨_, _, rfl, le.up.sqT z.sqT, r⟩
theorem sqq_of {T : Tab} {K : PySem.W.Frag} {G H : Hp} {v : V} {l : List D} (h : Rep T K G v (.tuq l)) (le : Le G H) : ∃ a xs, v = .ref a ∧ SqT K H a xs ∧ Reps T K G xs l := by
  cases h with
  | tuq z r => exact ⟨_, _, rfl, le.up.sqT z, r⟩
theorem isEmpty_reps {T : Tab} {K : PySem.W.Frag} {G : Hp} {xs : List V} {l : List D} (r : Reps T K G xs l) : (!xs.isEmpty) = !l.isEmpty := by cases r <;> rfl
theorem tru_of {T : Tab} {K : PySem.W.Frag} {G H : Hp} {v : V} {d : D} {b : Bool} (r : Rep T K G v d) (le : Le G H) (e : truD d = some b) : TruV K v H b := by
  cases d with
  | non => cases r; cases e; rfl
  | bl b' => cases r; cases e; rfl
  | int i => cases r; cases e; rfl
  | str x =>
    cases r
    by_cases hl : x.length ≤ sizeLine
    · simp only [truD, if_pos hl] at e
      cases e
      exact ⟨hl, rfl⟩
    · simp only [truD, if_neg hl] at e
      cases e
  | lst l =>
    obtain ⟨a, xs, rfl, h, r⟩ := sql_of r le
    cases e
    exact .inl ⟨xs, h, (isEmpty_reps r).symm⟩
  | tup l =>
    obtain ⟨a, xs, rfl, h, r⟩ := sqt_of r le
    cases e
    exact .inr (.inl ⟨xs, h, (isEmpty_reps r).symm⟩)
  | _ => cases e
theorem tt_of {f : Ex W} (ha : PE X a (tE T X.K R f)) (he : ∀ whole, isTrue a X.env whole = (do let v ← whole; standAt a.pos; holding [v] (truthy v))) : PT X a (tT T X.K R (xOf f)) := (pt_truth ha he).imp fun σ H Q ⟨st, fp, hd, q, b, st', h', k⟩ => by
  unfold xOf at h'
  split at h'
  · rename_i d st1 hx
    split at h'
    · rename_i b' hb
      cases h'
      exact ⟨st, fp, hd, q, _, _, hx, fun v H1 fp1 q1 l1 r1 => ⟨b, tru_of r1 still_le hb, k H1 fp1 q1 l1⟩⟩
    · cases h'
  · cases h'
theorem _root_.L2.PW.imp {t u : TT} (h : PW X e t) (i : ∀ σ H Q, u σ H Q → t σ H Q) : PW X e u := ⟨fun wh pins s σ H Q I q => h.run wh pins s σ H Q I (i σ H Q q)⟩
theorem tw_and {f1 f2 : Tx W} {rest : List Expr} (ha : PT X a (tT T X.K R f1)) (hb : PW X (.BoolOp .And (b :: rest) pos) (tT T X.K R f2)) : PW X (.BoolOp .And (a :: b :: rest) pos) (tT T X.K R (xAnd f1 f2)) := (pw_and ha hb).imp fun σ H Q ⟨st, fp, hd, q, d, st', h', k⟩ => by
  unfold xAnd at h'
  split at h'
  · rename_i st1 hc1
    exact ⟨st, fp, hd, q, _, st1, hc1, fun H1 fp1 q1 l1 => iteT (⟨st1, fp1, hd, q1, d, st', h', fun H2 fp2 q2 l2 => k H2 fp2 q2 (l1.trans l2)⟩)⟩
  · rename_i st1 hc1
    cases h'
    exact ⟨st, fp, hd, q, _, _, hc1, fun H1 fp1 q1 l1 => iteF (k H1 fp1 q1 l1)⟩
  · cases h'
theorem tw_or {f1 f2 : Tx W} {rest : List Expr} (ha : PT X a (tT T X.K R f1)) (hb : PW X (.BoolOp .Or (b :: rest) pos) (tT T X.K R f2)) : PW X (.BoolOp .Or (a :: b :: rest) pos) (tT T X.K R (xOr f1 f2)) := (pw_or ha hb).imp fun σ H Q ⟨st, fp, hd, q, d, st', h', k⟩ => by
  unfold xOr at h'
  split at h'
  · rename_i st1 hc1
    cases h'
    exact ⟨st, fp, hd, q, _, _, hc1, fun H1 fp1 q1 l1 => iteT (k H1 fp1 q1 l1)⟩
  · rename_i st1 hc1
    exact ⟨st, fp, hd, q, _, st1, hc1, fun H1 fp1 q1 l1 => iteF (⟨st1, fp1, hd, q1, d, st', h', fun H2 fp2 q2 l2 => k H2 fp2 q2 (l1.trans l2)⟩)⟩
  · cases h'
theorem tw_and1 {f : Tx W} (ha : PT X a (tT T X.K R f)) : PW X (.BoolOp .And [a] pos) (tT T X.K R f) := pw_and1 ha
theorem tw_or1 {f : Tx W} (ha : PT X a (tT T X.K R f)) : PW X (.BoolOp .Or [a] pos) (tT T X.K R f) := pw_or1 ha
theorem tt_not {f : Tx W} (ha : PT X a (tT T X.K R f)) : PT X (.UnaryOp .Not a pos) (tT T X.K R (xNot f)) := (pt_not ha).imp fun σ H Q ⟨st, fp, hd, q, d, st', h', k⟩ => by
  unfold xNot at h'
  split at h'
  · rename_i b st1 hc1
    cases h'
    exact ⟨st, fp, hd, q, _, _, hc1, fun H1 fp1 q1 l1 => k H1 fp1 q1 l1⟩
  · cases h'
end
end Mi
namespace Mi
open PySem PySem.Spec L2
open PyProof.Rows hiding St

abbrev Tg (W : Type) := D → S W → Option (S W)
section
variable {W : Type}
def gNm (i : Nat) : Tg W := fun d st => some { st with sl := st.sl.set i (.fz d) }
def gEach : List (Tg W) → List D → S W → Option (S W)
  | [], [], st => some st
  | g :: gs, d :: ds, st => (match g d st with
    | some st1 => gEach gs ds st1
    | none => none)
  | _, _, _ => none
def gSeq (gs : List (Tg W)) : Tg W := fun d st => match items d with
  | some ds => gEach gs ds st
  | none => none
def gFail : Tg W := fun _ _ => none
end
/-- alike but at these places -/
def Bar (ix : List Nat) (σ σ' : L2.St) : Prop := σ'.length = σ.length ∧ ∀ i : Nat, i ∉ ix → σ'[i]? = σ[i]?
theorem Bar.trans {ix jx : List Nat} {σ σ' σ2 : L2.St} (a : Bar ix σ σ') (b : Bar jx σ' σ2) : Bar (ix ++ jx) σ σ2 :=
  ⟨b.1.trans a.1, fun i hi => (b.2 i fun z => hi (List.mem_append_right _ z)).trans (a.2 i fun z => hi (List.mem_append_left _ z))⟩
section
variable {W : Type} (T : Tab) (K : PySem.W.Frag) (R : WR W)
def tG (ix : List Nat) (f : Tg W) : TG := fun v σ H Q => ∃ st fp hd d st', SR T K R hd st σ H fp ∧ Rep T K (still hd st σ H fp) v d ∧ f d st = some st' ∧
  ∀ σ' H' fp', SR T K R hd st' σ' H' fp' → Le (still hd st σ H fp) (still hd st' σ' H' fp') → Bar ix σ σ' → Q σ' H'
def tGs (ix : List Nat) (fs : List (Tg W)) : TGs := fun vs σ H Q => ∃ st fp hd ds st', SR T K R hd st σ H fp ∧ Reps T K (still hd st σ H fp) vs ds ∧ gEach fs ds st = some st' ∧
  ∀ σ' H' fp', SR T K R hd st' σ' H' fp' → Le (still hd st σ H fp) (still hd st' σ' H' fp') → Bar ix σ σ' → Q σ' H'
end
theorem _root_.L2.PG.imp {X : Cx} {e : Expr} {t u : TG} (h : PG X e t) (i : ∀ v σ H Q, u v σ H Q → t v σ H Q) : PG X e u := ⟨fun pins s σ H v uu Q I r q => h.run pins s σ H v uu Q I r (i v σ H Q q)⟩
theorem _root_.L2.PGs.imp {X : Cx} {e : List Expr} {t u : TGs} (h : PGs X e t) (i : ∀ v σ H Q, u v σ H Q → t v σ H Q) : PGs X e u := ⟨fun pins s σ H v uu Q I r q => h.run pins s σ H v uu Q I r (i v σ H Q q)⟩
section
variable {W : Type} {T : Tab} {K : PySem.W.Frag} {R : WR W} {hd : Hid} {st : S W} {σ : L2.St} {H : Hp} {fp : List Addr}
theorem me_set {s : Slot} {v : Option V} {i j c : Nat} {fs : List (Str × D)} (q : SR T K R hd st σ H fp) (e : (st.sl.set i s)[j]? = some (.ow (.ins c fs))) (hs : ∀ c fs, s ≠ .ow (.ins c fs) := by intro _ _ z; cases z) : ∃ a, hd.me = some a ∧ (σ.set i v)[j]? = some (some (.ref a)) := by
  by_cases hj : i = j
  · subst hj
    by_cases hl : i < st.sl.length
    · rw [List.getElem?_set_self hl] at e
      exact absurd (Option.some.inj e) (hs c fs)
    · rw [List.getElem?_eq_none (by rw [List.length_set]; omega)] at e
      cases e
  · rw [List.getElem?_set_ne hj] at e ⊢
    exact q.me j c fs e
/-- a name gets a thing that stands still -/
theorem SR.set (q : SR T K R hd st σ H fp) (i : Nat) {v : V} {d : D} (r : Rep T K (still hd st σ H fp) v d) :
    SR T K R hd { st with sl := st.sl.set i (.fz d) } (σ.set i (some v)) H fp ∧ Le (still hd st σ H fp) (still hd { st with sl := st.sl.set i (.fz d) } (σ.set i (some v)) H fp) := by
  have sub := ownA_set_sub (sl := st.sl) (σ := σ) (s := .fz d) i (some v) rfl
  have le : Le (still hd st σ H fp) (still hd { st with sl := st.sl.set i (.fz d) } (σ.set i (some v)) H fp) := fun b o e => by
    obtain ⟨n1, n2, n3, e⟩ := still_some e
    exact still_of (fun z => n1 (sub.subset z)) n2 n3 e
  exact ⟨⟨(q.sl.up (fun _ _ => rfl) le.up).set i (Rep.up le.up r), q.w, q.nd.sublist sub, fun a ha => q.ap a (sub.subset ha), q.hid, q.hap, q.f0, fun j c fs e => me_set q e⟩, le⟩
end
section
variable {W : Type} {T : Tab} {R : WR W} {X : Cx} {e tg : Expr} {es : List Expr} {pos : Pos}
theorem tg_name {i : Nat} (h : PG X e (gName i)) : PG X e (tG T X.K R [i] (gNm (W := W) i)) := h.imp fun v σ H Q ⟨st, fp, hd, d, st', q, r, h', k⟩ => by
  cases h'
  exact k _ H fp (q.set i r).1 (q.set i r).2 ⟨by simp, fun j hj => List.getElem?_set_ne (by simpa [eq_comm] using hj)⟩
theorem tg_fail {f : Tg W} {ix : List Nat} (h : ∀ d st, f d st = none) : PG X e (tG T X.K R ix f) := ⟨fun pins s σ H v u Q I _ ⟨st, fp, hd, d, st', _, _, h', _⟩ => by rw [h d st] at h'; cases h'⟩
theorem tgs_nil : PGs X [] (tGs T X.K R [] ([] : List (Tg W))) := pgs_nil.imp fun vs σ H Q ⟨st, fp, hd, ds, st', q, r, h', k⟩ => by
  cases r with
  | nil => cases h'; exact ⟨rfl, k σ H fp q (Le.refl _) ⟨rfl, fun _ _ => rfl⟩⟩
  | cons _ _ => cases h'
theorem tgs_cons {f : Tg W} {fs : List (Tg W)} {ix jx : List Nat} (h1 : PG X e (tG T X.K R ix f)) (h2 : PGs X es (tGs T X.K R jx fs)) (hs : (assignEach (e :: es) X.env).map (·.2) = assign e X.env :: (assignEach es X.env).map (·.2)) : PGs X (e :: es) (tGs T X.K R (ix ++ jx) (f :: fs)) :=
  (pgs_cons h1 h2 hs).imp fun vs σ H Q ⟨st, fp, hd, ds, st', q, r, h', k⟩ => by
    cases r with
    | nil => cases h'
    | cons r1 r2 =>
      unfold gEach at h'
      split at h'
      · rename_i st1 h1
        exact ⟨_, _, rfl, st, fp, hd, _, st1, q, r1, h1, fun σ1 H1 fp1 q1 l1 b1 => ⟨st1, fp1, hd, _, st', q1, r2.up l1.up, h', fun σ2 H2 fp2 q2 l2 b2 => k σ2 H2 fp2 q2 (l1.trans l2) (b1.trans b2)⟩⟩
      · cases h'
theorem gEach_length {gs : List (Tg W)} : ∀ {ds : List D} {st st' : S W}, gEach gs ds st = some st' → ds.length = gs.length := by
  induction gs with
  | nil => intro ds st st' h; cases ds with
    | nil => rfl
    | cons _ _ => cases h
  | cons g gs ih => intro ds st st' h; cases ds with
    | nil => cases h
    | cons d ds =>
      unfold gEach at h
      split at h
      · exact congrArg Nat.succ (ih h)
      · cases h
theorem tg_seq {fs : List (Tg W)} {ix : List Nat} {kk : Nat} (hc : X.calm = true) (h : PGs X es (tGs T X.K R ix fs)) (hn : (assignEach es X.env).length = fs.length) (hst : (assignEach es X.env).findIdx? (·.1) = none) : PG X (.Tuple es kk pos) (tG T X.K R ix (gSeq fs)) := by
  have h1 := pg_tup (k := kk) (pos := pos) hc h hn hst
  have h2 := pg_unl (k := kk) (pos := pos) hc h hn hst
  refine ⟨fun pins s σ H v u Q I rv ⟨st, fp, hd, d, st', q, r, h', k⟩ => ?_⟩
  unfold gSeq at h'
  split at h'
  · rename_i ds hdd
    cases d with
    | lst l =>
      cases hdd
      obtain ⟨a, xs, rfl, hq, rr⟩ := sql_of r still_le
      exact h2.run pins s σ H _ u Q I rv ⟨a, xs, rfl, hq, by rw [rr.length]; exact gEach_length h', st, fp, hd, _, st', q, rr, h', k⟩
    | tup l =>
      cases hdd
      obtain ⟨a, xs, rfl, hq, rr⟩ := sqt_of r still_le
      exact h1.run pins s σ H _ u Q I rv ⟨a, xs, rfl, hq, by rw [rr.length]; exact gEach_length h', st, fp, hd, _, st', q, rr, h', k⟩
    | tuq l =>
      cases hdd
      obtain ⟨a, xs, rfl, hq, rr⟩ := sqq_of r still_le
      exact h1.run pins s σ H _ u Q I rv ⟨a, xs, rfl, hq, by rw [rr.length]; exact gEach_length h', st, fp, hd, _, st', q, rr, h', k⟩
    | _ => cases hdd
  · cases h'
end

section
variable {W : Type}
def sPass : Sm W := fun st => some (.nx, st)
def sBrk : Sm W := fun st => some (.bk, st)
def sCnt : Sm W := fun st => some (.ct, st)
def sFail : Sm W := fun _ => none
def sSeq (a b : Sm W) : Sm W := fun st => match a st with
  | some (.nx, st1) => b st1
  | r => r
def sExpr (f : Ex W) : Sm W := fun st => match f st with
  | some (_, st1) => some (.nx, st1)
  | none => none
def sRet (f : Ex W) : Sm W := fun st => match f st with
  | some (d, st1) => some (.rt d, st1)
  | none => none
def sRetN : Sm W := fun st => some (.rt .non, st)
def sIf (c : Tx W) (a b : Sm W) : Sm W := fun st => match c st with
  | some (true, st1) => a st1
  | some (false, st1) => b st1
  | none => none
def sAsg (f : Ex W) (g : Tg W) : Sm W := fun st => match f st with
  | some (d, st1) => (match g d st1 with
    | some st2 => some (.nx, st2)
    | none => none)
  | none => none
/-- for x in items: the body for each -/
def forL (g : Tg W) (b : Sm W) : List D → S W → Option (Out × S W)
  | [], st => some (.nx, st)
  | d :: ds, st => (match g d st with
    | some st1 => (match b st1 with
      | some (.nx, st2) => forL g b ds st2
      | some (.ct, st2) => forL g b ds st2
      | some (.bk, st2) => some (.nx, st2)
      | r => r)
    | none => none)
def sFor (it : As W) (g : Tg W) (b : Sm W) : Sm W := fun st => match it st with
  | some (ds, st1) => forL g b ds st1
  | none => none
def sWhile (c : Tx W) (b : Sm W) : Nat → Sm W
  | 0, _ => none
  | n + 1, st => (match c st with
    | some (true, st1) => (match b st1 with
      | some (.nx, st2) => sWhile c b n st2
      | some (.ct, st2) => sWhile c b n st2
      | some (.bk, st2) => some (.nx, st2)
      | r => r)
    | some (false, st1) => some (.nx, st1)
    | none => none)
end
/-- what a walk yields -/
def ItOk (T : Tab) (K : PySem.W.Frag) (J : It) (ds : List D) (G : Hp) : Prop := ∀ H, Le G H → ∀ i : Nat,
  (∀ d, ds[i]? = some d → J.go i H ∧ ∀ x H', J.yld i H x H' → Le H H' ∧ ∀ G', Sees G H H' G' → Rep T K G' x d) ∧ (ds.length ≤ i → J.stop i H)
theorem ItOk.up {T : Tab} {K : PySem.W.Frag} {J : It} {ds : List D} {G G' : Hp} (h : ItOk T K J ds G) (l : Le G G') : ItOk T K J ds G' := fun H lh i =>
  ⟨fun d e => ⟨((h H (l.trans lh) i).1 d e).1, fun x H' y => ⟨(((h H (l.trans lh) i).1 d e).2 x H' y).1, fun G2 s => (((h H (l.trans lh) i).1 d e).2 x H' y).2 G2 ⟨l.trans s.1, s.2⟩⟩⟩, (h H (l.trans lh) i).2⟩
section
variable {W : Type} (T : Tab) (K : PySem.W.Frag) (R : WR W)
def tI (f : As W) : TI := fun σ H Q => ∃ st fp hd, SR T K R hd st σ H fp ∧ ∃ ds st', f st = some (ds, st') ∧
  ∀ J H' fp', SR T K R hd st' σ H' fp' → Le (still hd st σ H fp) (still hd st' σ H' fp') → ItOk T K J ds (still hd st' σ H' fp') → Q J H'
end
section
variable {W : Type} {T : Tab} {R : WR W} {X : Cx} {e c tg iter : Expr} {s : Stmt} {ss body orelse : List Stmt} {es : List Expr} {pos : Pos}
theorem ts_pass : PS X (.Pass pos) (tS T X.K R (sPass (W := W))) := ps_pass.imp fun D σ H ⟨st, fp, hd, q, o, st', h', k⟩ => by
  cases h'; exact k σ H fp q (Le.refl _)
theorem ts_break : PS X (.Break pos) (tS T X.K R (sBrk (W := W))) := ps_break.imp fun D σ H ⟨st, fp, hd, q, o, st', h', k⟩ => by
  cases h'; exact k σ H fp q (Le.refl _)
theorem ts_continue : PS X (.Continue pos) (tS T X.K R (sCnt (W := W))) := ps_continue.imp fun D σ H ⟨st, fp, hd, q, o, st', h', k⟩ => by
  cases h'; exact k σ H fp q (Le.refl _)
theorem ts_expr {f : Ex W} (h : PE X e (tE T X.K R f)) (hs : swapsWith e none pos.line X.env = pure false) : PS X (.Expr e pos) (tS T X.K R (sExpr f)) := (ps_expr h hs).imp fun D σ H ⟨st, fp, hd, q, o, st', h', k⟩ => by
  unfold sExpr at h'
  split at h'
  · rename_i d st1 h1
    cases h'
    exact ⟨st, fp, hd, q, d, _, h1, fun v H1 fp1 q1 l1 _ => k σ H1 fp1 q1 l1⟩
  · cases h'
theorem ts_ret {f : Ex W} (h : PE X e (tE T X.K R f)) : PS X (.Return (some e) pos) (tS T X.K R (sRet f)) := (ps_ret h).imp fun D σ H ⟨st, fp, hd, q, o, st', h', k⟩ => by
  unfold sRet at h'
  split at h'
  · rename_i d st1 h1
    cases h'
    exact ⟨st, fp, hd, q, d, _, h1, fun v H1 fp1 q1 l1 r1 => k v σ H1 fp1 q1 l1 r1⟩
  · cases h'
theorem ts_retN : PS X (.Return none pos) (tS T X.K R (sRetN (W := W))) := ps_retN.imp fun D σ H ⟨st, fp, hd, q, o, st', h', k⟩ => by
  cases h'; exact k .non σ H fp q (Le.refl _) .non
theorem tss_nil : PSs X [] (tS T X.K R (sPass (W := W))) := pss_nil.imp fun D σ H ⟨st, fp, hd, q, o, st', h', k⟩ => by
  cases h'; exact k σ H fp q (Le.refl _)
/-- what a block wants behind its first statement -/
theorem ts_seqR {f g : Sm W} {D : Ends} {σ : L2.St} {H : Hp} (h : tS T X.K R (sSeq f g) D σ H) : tSeq (tS T X.K R f) (tS T X.K R g) D σ H := by
  obtain ⟨st, fp, hd, q, o, st', h', k⟩ := h
  unfold sSeq at h'
  split at h'
  · rename_i st1 h1
    refine ⟨st, fp, hd, q, .nx, st1, h1, fun σ1 H1 fp1 q1 l1 => ⟨st1, fp1, hd, q1, o, st', h', ?_⟩⟩
    cases o with
    | nx => exact fun σ2 H2 fp2 q2 l2 => k σ2 H2 fp2 q2 (l1.trans l2)
    | bk => exact fun σ2 H2 fp2 q2 l2 => k σ2 H2 fp2 q2 (l1.trans l2)
    | ct => exact fun σ2 H2 fp2 q2 l2 => k σ2 H2 fp2 q2 (l1.trans l2)
    | rt d => exact fun v σ2 H2 fp2 q2 l2 r2 => k v σ2 H2 fp2 q2 (l1.trans l2) r2
  · rename_i h1
    refine ⟨st, fp, hd, q, o, st', h', ?_⟩
    cases o with
    | nx => exact absurd h' (by intro z; exact h1 _ z)
    | bk => exact k
    | ct => exact k
    | rt d => exact k
theorem tss_cons {f g : Sm W} (h1 : PS X s (tS T X.K R f)) (h2 : PSs X ss (tS T X.K R g)) : PSs X (s :: ss) (tS T X.K R (sSeq f g)) := (pss_cons h1 h2).imp fun D σ H h => ts_seqR (X := X) h
theorem tss_one {f : Sm W} (h1 : PS X s (tS T X.K R f)) : PSs X [s] (tS T X.K R f) := pss_one h1
theorem ts_if {fc : Tx W} {f g : Sm W} (hc : PT X c (tT T X.K R fc)) (h1 : PSs X body (tS T X.K R f)) (h2 : PSs X orelse (tS T X.K R g)) : PS X (.If c body orelse pos) (tS T X.K R (sIf fc f g)) := (ps_if hc h1 h2).imp fun D σ H ⟨st, fp, hd, q, o, st', h', k⟩ => by
  have go : ∀ {b : Bool} {st1 : S W} {h : Sm W}, fc st = some (b, st1) → h st1 = some (o, st') → ∀ H1 fp1, SR T X.K R hd st1 σ H1 fp1 → Le (still hd st σ H fp) (still hd st1 σ H1 fp1) → tS T X.K R h D σ H1 := fun {b st1 h} e1 e2 H1 fp1 q1 l1 => by
    refine ⟨st1, fp1, hd, q1, o, st', e2, ?_⟩
    cases o with
    | nx => exact fun σ2 H2 fp2 q2 l2 => k σ2 H2 fp2 q2 (l1.trans l2)
    | bk => exact fun σ2 H2 fp2 q2 l2 => k σ2 H2 fp2 q2 (l1.trans l2)
    | ct => exact fun σ2 H2 fp2 q2 l2 => k σ2 H2 fp2 q2 (l1.trans l2)
    | rt d => exact fun v σ2 H2 fp2 q2 l2 r2 => k v σ2 H2 fp2 q2 (l1.trans l2) r2
  unfold sIf at h'
  split at h'
  · rename_i st1 h1
    exact ⟨st, fp, hd, q, true, st1, h1, fun H1 fp1 q1 l1 => iteT (go h1 h' H1 fp1 q1 l1)⟩
  · rename_i st1 h1
    exact ⟨st, fp, hd, q, false, st1, h1, fun H1 fp1 q1 l1 => iteF (go h1 h' H1 fp1 q1 l1)⟩
  · cases h'
theorem ts_asg {f : Ex W} {g : Tg W} {ix : List Nat} {t : TS} (h : PE X e (tE T X.K R f)) (hg : PG X tg (tG T X.K R ix g)) (hh : ∀ (te : TE) (u : TG), PE X e te → PG X tg u → PS X s (tAsg te u)) : PS X s (tS T X.K R (sAsg f g)) := (hh _ _ h hg).imp fun D σ H ⟨st, fp, hd, q, o, st', h', k⟩ => by
  unfold sAsg at h'
  split at h'
  · rename_i d st1 h1
    split at h'
    · rename_i st2 h2
      cases h'
      exact ⟨st, fp, hd, q, d, st1, h1, fun v H1 fp1 q1 l1 r1 => ⟨st1, fp1, hd, d, _, q1, r1, h2, fun σ2 H2 fp2 q2 l2 _ => k σ2 H2 fp2 q2 (l1.trans l2)⟩⟩
    · cases h'
  · cases h'
theorem drop_cons {α : Type} {l : List α} {i : Nat} {d : α} {ds : List α} (e : l.drop i = d :: ds) : l[i]? = some d ∧ l.drop (i + 1) = ds := by
  constructor
  · have := congrArg (fun z => z[0]?) e
    simpa using this
  · have := congrArg (fun z => z.drop 1) e
    simpa [List.drop_drop, Nat.add_comm] using this
theorem ts_for {f : As W} {g : Tg W} {ix : List Nat} {b : Sm W} (hp : PassesOwn (model X.prog X.w) X.A X.env X.xe) (hc : X.calm = true) (hi : PI X tg iter (tI T X.K R f)) (hg : PG X tg (tG T X.K R ix g)) (hb : PSs X body (tS T X.K R b))
    (hs : ∀ x, foldedSetIterable iter X.env x = pure x) : PS X (.For tg iter body [] pos) (tS T X.K R (sFor f g b)) := (ps_for hp hc hi hg hb hs).imp fun D σ H ⟨st, fp, hd, q, o, st', h', k⟩ => by
  unfold sFor at h'
  split at h'
  · rename_i ds st1 h1
    refine ⟨st, fp, hd, q, ds, st1, h1, fun J H1 fp1 q1 l1 ok => ?_⟩
    refine ⟨fun i m σ2 H2 => m = ds.length - i ∧ ∃ st2 fp2, SR T X.K R hd st2 σ2 H2 fp2 ∧ Le (still hd st1 σ H1 fp1) (still hd st2 σ2 H2 fp2) ∧ forL g b (ds.drop i) st2 = some (o, st'), ⟨ds.length, rfl, st1, fp1, q1, Le.refl _, h'⟩, ?_⟩
    rintro i m σ2 H2 ⟨rfl, st2, fp2, q2, l2, hl⟩
    have okH := ok H2 (l2.trans still_le) i
    cases e : ds.drop i with
    | nil =>
      have hi : ds.length ≤ i := List.drop_eq_nil_iff.mp e
      rw [e] at hl
      cases hl
      exact .inl ⟨okH.2 hi, k σ2 H2 fp2 q2 (l1.trans l2)⟩
    | cons d rest =>
      obtain ⟨ei, er⟩ := drop_cons e
      have hlt : i < ds.length := (List.getElem?_eq_some_iff.mp ei).1
      obtain ⟨go, yl⟩ := okH.1 d ei
      rw [e] at hl
      refine .inr ⟨go, fun σ3 H3 => ∃ st3 fp3, SR T X.K R hd st3 σ3 H3 fp3 ∧ Le (still hd st1 σ H1 fp1) (still hd st3 σ3 H3 fp3) ∧ forL g b rest st3 = some (o, st'), fun σ3 H3 ⟨st3, fp3, q3, l3, e3⟩ => ⟨ds.length - (i + 1), by omega, rfl, st3, fp3, q3, l3, by rw [er]; exact e3⟩, fun x H3 y => ?_⟩
      obtain ⟨lh, rp⟩ := yl x H3 y
      have q3 := q2.grow lh
      have l3 := still_grow q2 lh
      have r3 : Rep T X.K (still hd st2 σ2 H3 fp2) x d := rp _ ⟨l2.trans l3, fun a o n z => still_new q2 lh n z⟩
      unfold forL at hl
      split at hl
      · rename_i st3 hg3
        refine ⟨st2, fp2, hd, d, st3, q3, r3, hg3, fun σ4 H4 fp4 q4 l4 _ => ?_⟩
        have l14 := (l2.trans l3).trans l4
        cases hb3 : b st3 with
        | none => rw [hb3] at hl; cases hl
        | some r =>
          obtain ⟨oo, st5⟩ := r
          rw [hb3] at hl
          refine ⟨st3, fp4, hd, q4, oo, st5, hb3, ?_⟩
          cases oo with
          | nx => exact fun σ5 H5 fp5 q5 l5 => ⟨st5, fp5, q5, l14.trans l5, hl⟩
          | ct => exact fun σ5 H5 fp5 q5 l5 => ⟨st5, fp5, q5, l14.trans l5, hl⟩
          | bk => cases hl; exact fun σ5 H5 fp5 q5 l5 => k σ5 H5 fp5 q5 (l1.trans (l14.trans l5))
          | rt z => cases hl; exact fun v σ5 H5 fp5 q5 l5 r5 => k v σ5 H5 fp5 q5 (l1.trans (l14.trans l5)) r5
      · cases hl
  · cases h'
theorem ts_while {fc : Tx W} {b : Sm W} {n : Nat} (hp : PassesOwn (model X.prog X.w) X.A X.env X.xe) (hc : PT X c (tT T X.K R fc)) (hb : PSs X body (tS T X.K R b)) : PS X (.While c body [] pos) (tS T X.K R (sWhile fc b n)) := (ps_while hp hc hb).imp fun D σ H ⟨st, fp, hd, q, o, st', h', k⟩ => by
  refine ⟨fun m σ2 H2 => ∃ st2 fp2, SR T X.K R hd st2 σ2 H2 fp2 ∧ Le (still hd st σ H fp) (still hd st2 σ2 H2 fp2) ∧ sWhile fc b m st2 = some (o, st'), ⟨n, st, fp, q, Le.refl _, h'⟩, ?_⟩
  rintro m σ2 H2 ⟨st2, fp2, q2, l2, hl⟩
  cases m with
  | zero => cases hl
  | succ m =>
    unfold sWhile at hl
    cases hc2 : fc st2 with
    | none => rw [hc2] at hl; cases hl
    | some r =>
      obtain ⟨bb, st3⟩ := r
      rw [hc2] at hl
      refine ⟨st2, fp2, hd, q2, bb, st3, hc2, fun H3 fp3 q3 l3 => ?_⟩
      cases bb with
      | false => cases hl; exact iteF (k σ2 H3 fp3 q3 (l2.trans l3))
      | true =>
        refine iteT ⟨fun σ4 H4 => ∃ st4 fp4, SR T X.K R hd st4 σ4 H4 fp4 ∧ Le (still hd st σ H fp) (still hd st4 σ4 H4 fp4) ∧ sWhile fc b m st4 = some (o, st'), fun σ4 H4 ⟨st4, fp4, q4, l4, e4⟩ => ⟨m, Nat.lt_succ_self _, st4, fp4, q4, l4, e4⟩, ?_⟩
        have hl : (match b st3 with
          | some (.nx, st2) => sWhile fc b m st2
          | some (.ct, st2) => sWhile fc b m st2
          | some (.bk, st2) => some (.nx, st2)
          | r => r) = some (o, st') := hl
        cases hb3 : b st3 with
        | none => rw [hb3] at hl; cases hl
        | some r =>
          obtain ⟨oo, st5⟩ := r
          rw [hb3] at hl
          refine ⟨st3, fp3, hd, q3, oo, st5, hb3, ?_⟩
          have l23 := l2.trans l3
          cases oo with
          | nx => exact fun σ5 H5 fp5 q5 l5 => ⟨st5, fp5, q5, l23.trans l5, hl⟩
          | ct => exact fun σ5 H5 fp5 q5 l5 => ⟨st5, fp5, q5, l23.trans l5, hl⟩
          | bk => cases hl; exact fun σ5 H5 fp5 q5 l5 => k σ5 H5 fp5 q5 (l23.trans l5)
          | rt z => cases hl; exact fun v σ5 H5 fp5 q5 l5 r5 => k v σ5 H5 fp5 q5 (l23.trans l5) r5
end
end Mi
namespace Mi
open PySem PySem.Spec L2
open PyProof.Rows hiding St

section
variable {T : Tab} {K : PySem.W.Frag} {G : Hp}
theorem it_lst {a : Addr} {xs : List V} {l : List D} (h : SqL K G a xs) (inj : ∀ H ys, Le G H → SqL K H a ys → ys = xs) (r : Reps T K G xs l) : ItOk T K (Itl K a) l G := fun H le i =>
  ⟨fun d e => by
    obtain ⟨x, hx, rx⟩ := r.get e
    refine ⟨⟨xs, x, le.up.sqL h, hx⟩, fun y H' ⟨eH, hy⟩ => ?_⟩
    subst eH
    have e2 := hy xs (le.up.sqL h)
    rw [hx] at e2
    cases e2
    exact ⟨Le.refl _, fun G' s => rx.up s.1.up⟩, fun hl => ⟨xs, le.up.sqL h, by rw [r.length]; exact hl⟩⟩
theorem it_tup {a : Addr} {xs : List V} {l : List D} (h : SqT K G a xs) (r : Reps T K G xs l) : ItOk T K (Itt K a) l G := fun H le i =>
  ⟨fun d e => by
    obtain ⟨x, hx, rx⟩ := r.get e
    refine ⟨⟨xs, x, le.up.sqT h, hx⟩, fun y H' ⟨eH, hy⟩ => ?_⟩
    subst eH
    have e2 := hy xs (le.up.sqT h)
    rw [hx] at e2
    cases e2
    exact ⟨Le.refl _, fun G' s => rx.up s.1.up⟩, fun hl => ⟨xs, le.up.sqT h, by rw [r.length]; exact hl⟩⟩
theorem it_lst' {a : Addr} {xs : List V} {l : List D} (h : SqL K G a xs) (r : Reps T K G xs l) : ItOk T K (Itl K a) l G := fun H le i =>
  ⟨fun d e => by
    obtain ⟨x, hx, rx⟩ := r.get e
    refine ⟨⟨xs, x, le.up.sqL h, hx⟩, fun y H' ⟨eH, hy⟩ => ?_⟩
    subst eH
    have e2 := hy xs (le.up.sqL h)
    rw [hx] at e2
    cases e2
    exact ⟨Le.refl _, fun G' s => rx.up s.1.up⟩, fun hl => ⟨xs, le.up.sqL h, by rw [r.length]; exact hl⟩⟩
/-- the signs of a text -/
def signs (z : Str) : List D := z.cps.toList.map fun c => D.str ⟨#[c]⟩
theorem it_str {z : Str} : ItOk T K (Its z) (signs z) G := fun H le i =>
  ⟨fun d e => by
    obtain ⟨c, hc, rfl⟩ : ∃ c, z.cps.toList[i]? = some c ∧ D.str ⟨#[c]⟩ = d := by
      unfold signs at e
      rw [List.getElem?_map] at e
      cases q : z.cps.toList[i]? with
      | none => rw [q] at e; cases e
      | some c => rw [q] at e; cases e; exact ⟨c, rfl, rfl⟩
    have hlt : i < z.cps.size := by
      have := (List.getElem?_eq_some_iff.mp hc).1
      simpa using this
    refine ⟨hlt, fun y H' ⟨eH, c', hc', ey⟩ => ?_⟩
    subst eH ey
    have e3 : z.cps[i]? = some c := by rw [← Array.getElem?_toList]; exact hc
    rw [e3] at hc'
    cases hc'
    exact ⟨Le.refl _, fun G' s => .str _⟩, fun hl => by
      show z.cps.size ≤ i
      unfold signs at hl
      simpa using hl⟩
def rangeD (lo : Int) (n : Nat) : List D := (List.range n).map fun (i : Nat) => D.int (lo + (i : Int))
theorem it_rng {lo : Int} {n : Nat} : ItOk T K (Itr lo n) (rangeD lo n) G := fun H le i =>
  ⟨fun d e => by
    unfold rangeD at e
    rw [List.getElem?_map] at e
    cases q : (List.range n)[i]? with
    | none => rw [q] at e; cases e
    | some c =>
      rw [q] at e
      have hi := (List.getElem?_eq_some_iff.mp q)
      obtain ⟨hlt, hv⟩ := hi
      rw [List.getElem_range] at hv
      subst hv
      cases e
      refine ⟨(by simpa using hlt : i < n), fun y H' ⟨eH, ey⟩ => ?_⟩
      subst eH ey
      exact ⟨Le.refl _, fun G' s => .int _⟩, fun hl => by
      show n ≤ i
      unfold rangeD at hl
      simpa using hl⟩
/-- pairs -/
def zipD (l m : List D) : List D := (l.zip m).map fun p => D.tuq [p.1, p.2]
theorem zipD_get {l m : List D} {i : Nat} {d : D} (e : (zipD l m)[i]? = some d) : ∃ x y, l[i]? = some x ∧ m[i]? = some y ∧ d = .tuq [x, y] := by
  unfold zipD at e
  rw [List.getElem?_map] at e
  cases q : (l.zip m)[i]? with
  | none => rw [q] at e; cases e
  | some p =>
    rw [q] at e
    cases e
    rw [List.getElem?_zip_eq_some] at q
    exact ⟨p.1, p.2, q.1, q.2, rfl⟩
theorem pair_rep {p : Addr} {x y : V} {d1 d2 : D} {G G' : Hp} (l : Le G G') (h : G' p = some (.tup [x, y])) (r1 : Rep T K G x d1) (r2 : Rep T K G y d2) : Rep T K G' (.ref p) (.tuq [d1, d2]) :=
  .tuq (SqT.of h) (.cons (r1.up l.up) (.cons (r2.up l.up) .nil))
theorem it_zipL {a b : Addr} {xs ys : List V} {l m : List D} (h1 : SqL K G a xs) (h2 : SqL K G b ys) (r1 : Reps T K G xs l) (r2 : Reps T K G ys m) : ItOk T K (Itz K a b) (zipD l m) G := fun H le i =>
  ⟨fun d e => by
    obtain ⟨x, y, ex, ey, rfl⟩ := zipD_get e
    obtain ⟨u, hu, ru⟩ := r1.get ex
    obtain ⟨v, hv, rv⟩ := r2.get ey
    refine ⟨⟨xs, ys, u, v, le.up.sqL h1, le.up.sqL h2, hu, hv⟩, fun z H' ⟨t, u', v', ez, n, eH, q1, q2⟩ => ?_⟩
    subst ez eH
    have a1 := q1 xs (le.up.sqL h1)
    have a2 := q2 ys (le.up.sqL h2)
    rw [hu] at a1; rw [hv] at a2
    cases a1; cases a2
    exact ⟨le_upd n, fun G' s => pair_rep s.1 (s.2 _ _ n upd_same) ru rv⟩, fun hl => ⟨xs, ys, le.up.sqL h1, le.up.sqL h2, by
      unfold zipD at hl
      rw [List.length_map, List.length_zip] at hl
      rw [r1.length, r2.length]
      omega⟩⟩
theorem it_zipT {a b : Addr} {xs ys : List V} {l m : List D} (h1 : SqT K G a xs) (h2 : SqT K G b ys) (r1 : Reps T K G xs l) (r2 : Reps T K G ys m) : ItOk T K (RZ.ItzT K a b) (zipD l m) G := fun H le i =>
  ⟨fun d e => by
    obtain ⟨x, y, ex, ey, rfl⟩ := zipD_get e
    obtain ⟨u, hu, ru⟩ := r1.get ex
    obtain ⟨v, hv, rv⟩ := r2.get ey
    refine ⟨⟨xs, ys, u, v, le.up.sqT h1, le.up.sqT h2, hu, hv⟩, fun z H' ⟨t, u', v', ez, n, eH, q1, q2⟩ => ?_⟩
    subst ez eH
    have a1 := q1 xs (le.up.sqT h1)
    have a2 := q2 ys (le.up.sqT h2)
    rw [hu] at a1; rw [hv] at a2
    cases a1; cases a2
    exact ⟨le_upd n, fun G' s => pair_rep s.1 (s.2 _ _ n upd_same) ru rv⟩, fun hl => ⟨xs, ys, le.up.sqT h1, le.up.sqT h2, by
      unfold zipD at hl
      rw [List.length_map, List.length_zip] at hl
      rw [r1.length, r2.length]
      omega⟩⟩
def enumD (k : Int) (l : List D) : List D := l.mapIdx fun i d => D.tuq [.int (k + i), d]
theorem it_enumL {a : Addr} {xs : List V} {l : List D} (h : SqL K G a xs) (r : Reps T K G xs l) : ItOk T K (Ite K a) (enumD 0 l) G := fun H le i =>
  ⟨fun d e => by
    unfold enumD at e
    rw [List.getElem?_mapIdx] at e
    cases q : l[i]? with
    | none => rw [q] at e; cases e
    | some x =>
      rw [q] at e
      cases e
      obtain ⟨u, hu, ru⟩ := r.get q
      refine ⟨⟨xs, u, le.up.sqL h, hu⟩, fun z H' ⟨t, u', ez, n, eH, q1⟩ => ?_⟩
      subst ez eH
      have a1 := q1 xs (le.up.sqL h)
      rw [hu] at a1
      cases a1
      refine ⟨le_upd n, fun G' s => ?_⟩
      have e0 : ((0 : Int) + (i : Int)) = (i : Int) := by omega
      rw [e0]
      exact pair_rep s.1 (s.2 _ _ n upd_same) (.int _) ru, fun hl => ⟨xs, le.up.sqL h, by
      unfold enumD at hl
      rw [List.length_mapIdx] at hl
      rw [r.length]
      exact hl⟩⟩
end
section
variable {W : Type}
/-- what an iterable yields: a list, a tuple, a text -/
def walkD : D → Option (List D)
  | .lst l => some l
  | .tup l => some l
  | .lok l => some l
  | .str z => some (signs z)
  | _ => none
def iOf (g : D → Option (List D)) (f : Ex W) : As W := fun st => match f st with
  | some (d, st1) => (match g d with
    | some l => some (l, st1)
    | none => none)
  | none => none
/-- what a call of arguments yields -/
def iArgs (g : List D → Option (List D)) (f : As W) : As W := fun st => match f st with
  | some (ds, st1) => (match g ds with
    | some l => some (l, st1)
    | none => none)
  | none => none
def gRng1 : List D → Option (List D)
  | [.int j] => if -(2 ^ 62) ≤ j ∧ j < 2 ^ 62 then some (rangeD 0 j.toNat) else none
  | _ => none
def gRng2 : List D → Option (List D)
  | [.int i, .int j] => if -(2 ^ 62) ≤ i ∧ i < 2 ^ 62 ∧ -(2 ^ 62) ≤ j ∧ j < 2 ^ 62 then some (rangeD i (j - i).toNat) else none
  | _ => none
def gZip : List D → Option (List D)
  | [.lst l, .lst m] => some (zipD l m)
  | [.tup l, .tup m] => some (zipD l m)
  | _ => none
def gEnum : List D → Option (List D)
  | [.lst l] => some (enumD 0 l)
  | _ => none
end
theorem _root_.L2.PI.imp {X : Cx} {tg e : Expr} {t u : TI} (h : PI X tg e t) (i : ∀ σ H Q, u σ H Q → t σ H Q) : PI X tg e u := ⟨fun pins s σ H R I q => h.run pins s σ H R I (i σ H R q)⟩
section
variable {W : Type} {T : Tab} {R : WR W} {X : Cx} {e tg : Expr} {es : List Expr} {pos p : Pos}
theorem ti_fail {f : As W} (h : ∀ st, f st = none) : PI X tg e (tI T X.K R f) := ⟨fun pins s σ H Q I ⟨st, fp, hd, _, d, st', h', _⟩ => by rw [h st] at h'; cases h'⟩
/-- a list, a tuple, a text -/
theorem pi_walk {te : TE} (h : PE X e te) : PI X tg e (fun σ H Q => te σ H fun x H1 => (∃ a, x = .ref a ∧ (∃ xs, SqL X.K H1 a xs) ∧ Q (Itl X.K a) H1) ∨ (∃ a, x = .ref a ∧ (∃ xs, SqT X.K H1 a xs) ∧ Q (Itt X.K a) H1) ∨ ∃ z, x = .str z ∧ Q (Its z) H1) := by
  refine ⟨fun pins s σ H Q I hq => thn (h.run pins s σ H _ I hq) fun v s1 ⟨x, H1, I1, rv, q⟩ => ?_⟩
  rcases q with ⟨a, e1, ⟨xs, hs⟩, q⟩ | ⟨a, e1, ⟨xs, hs⟩, q⟩ | ⟨z, e1, q⟩ <;> subst e1
  · obtain rfl : v = Value.ref a := rv
    obtain ⟨its, _, pl, _⟩ := I1.list hs
    exact wpAny_pyIter_list pl.isList (pi_one (tk := s1.toks) I1 _ (turn_list a _) ⟨_, Heap.get?_push_size _ rfl, rfl, rfl⟩ q)
  · obtain rfl : v = Value.ref a := rv
    obtain ⟨its, _, pl, _⟩ := I1.tuple hs
    exact wpAny_pyIter_tuple (items := its.toArray) pl (pi_one (tk := s1.toks) I1 _ (turn_tuple a _) ⟨_, Heap.get?_push_size _ rfl, rfl, rfl⟩ q)
  · obtain ⟨t, rfl⟩ := rv
    cases hb : z.cps.all (· < 128) with
    | false => exact wpAny_pyIter_wide hb (pi_one (tk := s1.toks) I1 _ (turn_str _ z t _ (.inr rfl)) ⟨_, Heap.get?_push_size _ rfl, rfl, rfl⟩ q)
    | true => exact wpAny_pyIter_ascii hb (pi_one (tk := s1.toks) I1 _ (turn_str _ z t _ (.inl rfl)) ⟨_, Heap.get?_push_size _ rfl, rfl, rfl⟩ q)
theorem ti_walk {f : Ex W} (h : PE X e (tE T X.K R f)) : PI X tg e (tI T X.K R (iOf walkD f)) := (pi_walk h).imp fun σ H Q ⟨st, fp, hd, q, ds, st', h', k⟩ => by
  unfold iOf at h'
  split at h'
  · rename_i d st1 h1
    split at h'
    · rename_i l hl
      cases h'
      refine ⟨st, fp, hd, q, d, _, h1, fun v H1 fp1 q1 l1 r1 => ?_⟩
      cases d with
      | lst l =>
        cases hl
        cases r1 with
        | lst z r => exact .inl ⟨_, rfl, ⟨_, SqL.of (still_le _ _ z)⟩, k _ H1 fp1 q1 l1 (it_lst' (SqL.of z) r)⟩
      | lok l =>
        cases hl
        cases r1 with
        | lok z r => exact .inl ⟨_, rfl, ⟨_, still_le.up.sqL z⟩, k _ H1 fp1 q1 l1 (it_lst' z r)⟩
      | tup l =>
        cases hl
        cases r1 with
        | tup z r => exact .inr (.inl ⟨_, rfl, ⟨_, still_le.up.sqT z.sqT⟩, k _ H1 fp1 q1 l1 (it_tup z.sqT r)⟩)
      | str z =>
        cases hl
        cases r1
        exact .inr (.inr ⟨_, rfl, k _ H1 fp1 q1 l1 it_str⟩)
      | _ => cases hl
    · cases h'
  · cases h'
theorem reps1 {T : Tab} {K : PySem.W.Frag} {G : Hp} {vs : List V} {d : D} (r : Reps T K G vs [d]) : ∃ v, vs = [v] ∧ Rep T K G v d := by
  cases r with
  | cons a b => cases b; exact ⟨_, rfl, a⟩
theorem reps2 {T : Tab} {K : PySem.W.Frag} {G : Hp} {vs : List V} {d e : D} (r : Reps T K G vs [d, e]) : ∃ v w, vs = [v, w] ∧ Rep T K G v d ∧ Rep T K G w e := by
  cases r with
  | cons a b => cases b with
    | cons c d => cases d; exact ⟨_, _, rfl, a, c⟩
theorem ti_args {f : As W} {g : List D → Option (List D)} {ra : List V → Hp → (It → Hp → Prop) → Prop} (ha : PA X es (tA T X.K R f)) (hh : ∀ t : TA, PA X es t → PI X tg e (fun σ H Q => t σ H fun vs H1 => ra vs H1 Q))
    (hg : ∀ vs H G ds l Q, Le G H → Reps T X.K G vs ds → g ds = some l → (∀ J, ItOk T X.K J l G → Q J H) → ra vs H Q) : PI X tg e (tI T X.K R (iArgs g f)) := (hh _ ha).imp fun σ H Q ⟨st, fp, hd, q, ds, st', h', k⟩ => by
  unfold iArgs at h'
  split at h'
  · rename_i d st1 h1
    split at h'
    · rename_i l hl
      cases h'
      exact ⟨st, fp, hd, q, d, _, h1, fun v H1 fp1 q1 l1 r1 => hg v H1 _ d _ Q still_le r1 hl fun J ok => k J H1 fp1 q1 l1 ok⟩
    · cases h'
  · cases h'
theorem ti_rng1 {f : As W} {a : Expr} (hg : Gl X "range") (hm : X.mg "range" = none) (ha : PA X [a] (tA T X.K R f)) (hs : starEach [a] X.env = [(false, eval a X.env)]) : PI X tg (.Call (.Name "range" p) [a] [] pos) (tI T X.K R (iArgs gRng1 f)) :=
  ti_args ha (fun t h => pi_range1 hg hm h hs) fun vs H G ds l Q le r e k => by
    unfold gRng1 at e
    split at e
    · split at e
      · rename_i j hj
        cases e
        obtain ⟨v0, rfl, rv⟩ := reps1 r
        cases rv
        exact ⟨_, rfl, hj.1, hj.2, k _ it_rng⟩
      · cases e
    · cases e
theorem ti_rng2 {f : As W} {a b : Expr} (hg : Gl X "range") (hm : X.mg "range" = none) (ha : PA X [a, b] (tA T X.K R f)) (hs : starEach [a, b] X.env = [(false, eval a X.env), (false, eval b X.env)]) (hs2 : starEach [b] X.env = [(false, eval b X.env)]) :
    PI X tg (.Call (.Name "range" p) [a, b] [] pos) (tI T X.K R (iArgs gRng2 f)) :=
  ti_args ha (fun t h => pi_range2 hg hm h hs hs2) fun vs H G ds l Q le r e k => by
    unfold gRng2 at e
    split at e
    · split at e
      · rename_i i j hj
        cases e
        obtain ⟨v0, v1, rfl, rv, rw'⟩ := reps2 r
        cases rv; cases rw'
        exact ⟨_, _, rfl, ⟨hj.1, hj.2.1, hj.2.2.1, hj.2.2.2⟩, k _ it_rng⟩
      · cases e
    · cases e
theorem ti_zip {f : As W} {a b : Expr} {elts : List Expr} {kk : Nat} {tpos : Pos} (hg : Gl X "zip") (hm : X.mg "zip" = none) (ha : PA X [a, b] (tA T X.K R f)) (hs : starEach [a, b] X.env = (false, eval a X.env) :: starEach [b] X.env) (hpl : (backTo pos (starEach [b] X.env)).any (·.1) = false) :
    PI X (.Tuple elts kk tpos) (.Call (.Name "zip" p) [a, b] [] pos) (tI T X.K R (iArgs gZip f)) :=
  ti_args ha (fun t h => RZ.pi_zipA hg hm h hs hpl) fun vs H G ds l Q le r e k => by
    unfold gZip at e
    split at e
    · cases e
      obtain ⟨v0, v1, rfl, rv, rw'⟩ := reps2 r
      cases rv with
      | lst z1 r1 => cases rw' with
        | lst z2 r2 => exact ⟨_, _, _, _, rfl, .inl ⟨SqL.of (le _ _ z1), SqL.of (le _ _ z2), k _ (it_zipL (SqL.of z1) (SqL.of z2) r1 r2)⟩⟩
    · cases e
      obtain ⟨v0, v1, rfl, rv, rw'⟩ := reps2 r
      cases rv with
      | tup z1 r1 => cases rw' with
        | tup z2 r2 => exact ⟨_, _, _, _, rfl, .inr ⟨le.up.sqT z1.sqT, le.up.sqT z2.sqT, k _ (it_zipT z1.sqT z2.sqT r1 r2)⟩⟩
    · cases e
theorem ti_enum {f : As W} {a : Expr} {elts : List Expr} {kk : Nat} {tpos : Pos} (hg : Gl X "enumerate") (hm : X.mg "enumerate" = none) (ha : PA X [a] (tA T X.K R f)) (hs : starEach [a] X.env = [(false, eval a X.env)]) :
    PI X (.Tuple elts kk tpos) (.Call (.Name "enumerate" p) [a] [] pos) (tI T X.K R (iArgs gEnum f)) :=
  ti_args ha (fun t h => pi_enum hg hm h hs) fun vs H G ds l Q le r e k => by
    unfold gEnum at e
    split at e
    · cases e
      obtain ⟨v0, rfl, rv⟩ := reps1 r
      cases rv with
      | lst z r => exact ⟨_, _, rfl, SqL.of (le _ _ z), k _ (it_enumL (SqL.of z) r)⟩
    · cases e
end

def ownP : Slot → Option V → Option Addr
  | .ow _, some (.ref a) => some a
  | _, _ => none
theorem ownA_eq : ∀ (sl : List Slot) (σ : L2.St), ownA sl σ = (List.zipWith ownP sl σ).filterMap id
  | [], _ => by simp [ownA]
  | s :: ss, [] => by cases s <;> simp [ownA]
  | s :: ss, v :: σ => by
    have ih := ownA_eq ss σ
    cases s with
    | ow d => cases v with
      | none => simpa [ownA, ownP] using ih
      | some v => cases v <;> simpa [ownA, ownP] using ih
    | _ => cases v <;> simpa [ownA, ownP] using ih
theorem ownA_congr {sl sl' : List Slot} {σ σ' : L2.St} (h : ∀ i : Nat, (List.zipWith ownP sl σ)[i]? = (List.zipWith ownP sl' σ')[i]?) : ownA sl σ = ownA sl' σ' := by
  rw [ownA_eq, ownA_eq, List.ext_getElem? h]
/-- the slots vs forgotten -/
def wipeS (vs : List Nat) (sl : List Slot) : List Slot := sl.mapIdx fun i s => if vs.contains i then .un else s
/-- .. brought back -/
def backS (vs : List Nat) (sl0 sl : List Slot) : List Slot := sl.mapIdx fun i s => if vs.contains i then sl0.getD i .un else s
def noOw (vs : List Nat) (sl : List Slot) : Bool := vs.all fun i => !(sl.getD i .un).isOw
theorem noOw_at {vs : List Nat} {sl : List Slot} {i : Nat} {s : Slot} (h : noOw vs sl = true) (hi : vs.contains i = true) (e : sl[i]? = some s) : s.isOw = false := by
  have q := List.all_eq_true.mp h i (by simpa using hi)
  rw [List.getD_eq_getElem?_getD, e] at q
  simpa using q
theorem ownP_no {s : Slot} {v : Option V} (h : s.isOw = false) : ownP s v = none := by
  cases s with
  | ow d => cases h
  | _ => rfl
section
variable {T : Tab} {K : PySem.W.Frag} {H H' G G' : Hp}
theorem SlotsR.of_at : ∀ {sl : List Slot} {σ : L2.St}, sl.length = σ.length → (∀ (i : Nat) s v, sl[i]? = some s → σ[i]? = some v → SlotR T K H G s v) → SlotsR T K H G sl σ
  | [], [], _, _ => .nil
  | [], _ :: _, e, _ => by cases e
  | _ :: _, [], e, _ => by cases e
  | s :: ss, v :: σ, e, h => .cons (h 0 s v rfl rfl) (SlotsR.of_at (by simpa using e) fun i s' v' h1 h2 => h (i + 1) s' v' (by simpa using h1) (by simpa using h2))
theorem SlotsR.at_ {sl : List Slot} {σ : L2.St} (h : SlotsR T K H G sl σ) {i : Nat} {s : Slot} {v : Option V} (e1 : sl[i]? = some s) (e2 : σ[i]? = some v) : SlotR T K H G s v := by
  obtain ⟨v', e3, r⟩ := h.get e1
  rw [e2] at e3
  cases e3
  exact r
end
section
variable {W : Type} {T : Tab} {K : PySem.W.Frag} {R : WR W} {hd : Hid} {st st1 st2 : S W} {σ : L2.St} {H H1 H2 : Hp} {fp fp1 fp2 : List Addr}
theorem wipe_in {σ : L2.St} {i : Nat} : ∀ {vs : List Nat}, i ∈ vs → i < σ.length → (L2.wipe σ vs)[i]? = some none
  | v :: vs, h, hl => by
    unfold L2.wipe
    by_cases e : v = i
    · subst e
      rw [List.getElem?_set_self (by rw [L2.wipe_length]; exact hl)]
    · rw [List.getElem?_set_ne e]
      rcases List.mem_cons.mp h with z | z
      · exact absurd z.symm e
      · exact wipe_in z hl
theorem ownA_wipe {vs : List Nat} {sl : List Slot} {σ : L2.St} (n : noOw vs sl = true) : ownA (wipeS vs sl) (L2.wipe σ vs) = ownA sl σ := by
  refine ownA_congr fun i => ?_
  rw [List.getElem?_zipWith, List.getElem?_zipWith]
  unfold wipeS
  rw [List.getElem?_mapIdx]
  cases e : sl[i]? with
  | none => rfl
  | some s =>
    by_cases hi : vs.contains i = true
    · have hm : i ∈ vs := by simpa using hi
      simp only [Option.map_some, hi, if_true]
      by_cases hl : i < σ.length
      · rw [wipe_in hm hl, List.getElem?_eq_getElem hl]
        show some (ownP .un none) = some (ownP s σ[i])
        rw [ownP_no (noOw_at n hi e)]
        rfl
      · rw [List.getElem?_eq_none (by rw [L2.wipe_length]; omega), List.getElem?_eq_none (by omega)]
    · have hm : i ∉ vs := by simpa using hi
      rw [L2.wipe_out hm]
      simp [hm]
theorem SR.wipe (q : SR T K R hd st σ H fp) {vs : List Nat} (n : noOw vs st.sl = true) : SR T K R hd { st with sl := wipeS vs st.sl } (L2.wipe σ vs) H fp ∧ still hd { st with sl := wipeS vs st.sl } (L2.wipe σ vs) H fp = still hd st σ H fp := by
  have e := ownA_wipe (σ := σ) n
  have es : still hd { st with sl := wipeS vs st.sl } (L2.wipe σ vs) H fp = still hd st σ H fp := by
    refine still_eq (fun b => ?_) fun _ _ => rfl
    rw [show ({ st with sl := wipeS vs st.sl } : S W).sl = wipeS vs st.sl from rfl, e]
  refine ⟨⟨?_, q.w, by rw [show ({ st with sl := wipeS vs st.sl } : S W).sl = wipeS vs st.sl from rfl, e]; exact q.nd, by rw [show ({ st with sl := wipeS vs st.sl } : S W).sl = wipeS vs st.sl from rfl, e]; exact q.ap, q.hid, q.hap, q.f0, fun j c fs z => ?_⟩, es⟩
  rotate_left
  · have z : (wipeS vs st.sl)[j]? = some (.ow (.ins c fs)) := z
    unfold wipeS at z
    rw [List.getElem?_mapIdx] at z
    cases e1 : st.sl[j]? with
    | none => rw [e1] at z; cases z
    | some s0 =>
      rw [e1] at z
      simp only [Option.map_some] at z
      by_cases hi : vs.contains j = true
      · rw [if_pos hi] at z; cases z
      · rw [if_neg hi] at z
        cases z
        obtain ⟨a, h1, h2⟩ := q.me j c fs e1
        exact ⟨a, h1, by rw [L2.wipe_out (by simpa using hi)]; exact h2⟩
  rw [es]
  refine SlotsR.of_at ?_ fun i s v h1 h2 => ?_
  · show (wipeS vs st.sl).length = _
    unfold wipeS
    rw [List.length_mapIdx, L2.wipe_length]
    exact q.sl.length
  · have h1 : (wipeS vs st.sl)[i]? = some s := h1
    unfold wipeS at h1
    rw [List.getElem?_mapIdx] at h1
    cases e1 : st.sl[i]? with
    | none => rw [e1] at h1; cases h1
    | some s0 =>
      rw [e1] at h1
      by_cases hi : vs.contains i = true
      · simp only [Option.map_some, hi, if_true] at h1
        cases h1
        trivial
      · have hm : i ∉ vs := by simpa using hi
        rw [L2.wipe_out hm] at h2
        simp only [Option.map_some] at h1
        rw [if_neg (by simpa using hi)] at h1
        cases h1
        exact q.sl.at_ e1 h2
/-- behind a comprehension's block -/
theorem SR.back (q1 : SR T K R hd st1 σ H1 fp1) {vs : List Nat} (n1 : noOw vs st1.sl = true) (q2 : SR T K R hd st2 (L2.wipe σ vs) H2 fp2) (n2 : noOw vs st2.sl = true) (l : Le (still hd st1 σ H1 fp1) (still hd st2 (L2.wipe σ vs) H2 fp2)) :
    SR T K R hd { st2 with sl := backS vs st1.sl st2.sl } σ H2 fp2 ∧ still hd { st2 with sl := backS vs st1.sl st2.sl } σ H2 fp2 = still hd st2 (L2.wipe σ vs) H2 fp2 := by
  have len2 : st2.sl.length = σ.length := by rw [← L2.wipe_length σ vs]; exact q2.sl.length
  have len1 : st1.sl.length = σ.length := q1.sl.length
  have e : ownA (backS vs st1.sl st2.sl) σ = ownA st2.sl (L2.wipe σ vs) := by
    refine ownA_congr fun i => ?_
    rw [List.getElem?_zipWith, List.getElem?_zipWith]
    unfold backS
    rw [List.getElem?_mapIdx]
    cases e2 : st2.sl[i]? with
    | none => rfl
    | some s =>
      have hl : i < σ.length := by rw [← len2]; exact (List.getElem?_eq_some_iff.mp e2).1
      by_cases hi : vs.contains i = true
      · have hm : i ∈ vs := by simpa using hi
        have e1 : st1.sl[i]? = some (st1.sl.getD i .un) := by
          rw [List.getD_eq_getElem?_getD]
          cases z : st1.sl[i]? with
          | none => rw [List.getElem?_eq_none_iff] at z; omega
          | some _ => rfl
        simp only [Option.map_some, hi, if_true]
        rw [wipe_in hm hl, List.getElem?_eq_getElem hl]
        show some (ownP (st1.sl.getD i .un) σ[i]) = some (ownP s none)
        rw [ownP_no (noOw_at n1 hi e1)]
        cases s <;> rfl
      · have hm : i ∉ vs := by simpa using hi
        rw [L2.wipe_out hm]
        simp [hm]
  have es : still hd { st2 with sl := backS vs st1.sl st2.sl } σ H2 fp2 = still hd st2 (L2.wipe σ vs) H2 fp2 := by
    refine still_eq (fun b => ?_) fun _ _ => rfl
    rw [show ({ st2 with sl := backS vs st1.sl st2.sl } : S W).sl = backS vs st1.sl st2.sl from rfl, e]
  refine ⟨⟨?_, q2.w, by rw [show ({ st2 with sl := backS vs st1.sl st2.sl } : S W).sl = backS vs st1.sl st2.sl from rfl, e]; exact q2.nd, by rw [show ({ st2 with sl := backS vs st1.sl st2.sl } : S W).sl = backS vs st1.sl st2.sl from rfl, e]; exact q2.ap, q2.hid, q2.hap, q2.f0, fun j c fs z => ?_⟩, es⟩
  rotate_left
  · have z : (backS vs st1.sl st2.sl)[j]? = some (.ow (.ins c fs)) := z
    unfold backS at z
    rw [List.getElem?_mapIdx] at z
    cases e1 : st2.sl[j]? with
    | none => rw [e1] at z; cases z
    | some s0 =>
      rw [e1] at z
      simp only [Option.map_some] at z
      by_cases hi : vs.contains j = true
      · rw [if_pos hi] at z
        have e2 : st1.sl[j]? = some (.ow (.ins c fs)) := by
          rw [← Option.some.inj z, List.getD_eq_getElem?_getD]
          cases y : st1.sl[j]? with
          | none =>
            rw [List.getElem?_eq_none_iff] at y
            have := (List.getElem?_eq_some_iff.mp e1).1
            omega
          | some _ => rfl
        have := noOw_at n1 hi e2
        cases this
      · rw [if_neg hi] at z
        cases z
        obtain ⟨a, h1, h2⟩ := q2.me j c fs e1
        exact ⟨a, h1, by rw [L2.wipe_out (by simpa using hi)] at h2; exact h2⟩
  rw [es]
  refine SlotsR.of_at ?_ fun i s v h1 h2 => ?_
  · show (backS vs st1.sl st2.sl).length = _
    unfold backS
    rw [List.length_mapIdx]
    exact len2
  · have h1 : (backS vs st1.sl st2.sl)[i]? = some s := h1
    unfold backS at h1
    rw [List.getElem?_mapIdx] at h1
    cases e2 : st2.sl[i]? with
    | none => rw [e2] at h1; cases h1
    | some s0 =>
      rw [e2] at h1
      have hl : i < σ.length := by rw [← len2]; exact (List.getElem?_eq_some_iff.mp e2).1
      by_cases hi : vs.contains i = true
      · have e1 : st1.sl[i]? = some (st1.sl.getD i .un) := by
          rw [List.getD_eq_getElem?_getD]
          cases z : st1.sl[i]? with
          | none => rw [List.getElem?_eq_none_iff] at z; omega
          | some _ => rfl
        simp only [Option.map_some, hi, if_true] at h1
        cases h1
        refine (q1.sl.at_ e1 h2).up (fun a es ev => ?_) l.up
        have no := noOw_at n1 hi e1
        rw [es] at no
        cases no
      · have hm : i ∉ vs := by simpa using hi
        simp only [Option.map_some] at h1
        rw [if_neg (by simpa using hi)] at h1
        cases h1
        exact q2.sl.at_ e2 (by rw [L2.wipe_out hm]; exact h2)
end
end Mi
namespace Mi
open PySem PySem.Spec L2
open PyProof.Rows hiding St

section
variable {W : Type} (T : Tab) (K : PySem.W.Frag) (R : WR W)
/-- the answer is a new thing -/
def tF (f : Ex W) : TE := fun σ H Q => ∃ st fp hd, SR T K R hd st σ H fp ∧ ∃ d st', f st = some (d, st') ∧
  ∀ p o H' fp', SR T K R hd st' σ H' fp' → Le (still hd st σ H fp) (still hd st' σ H' fp') → H' p = none → Own T K (upd H' p o) (still hd st' σ H' fp') p d → Q (.ref p) (upd H' p o)
end
section
variable {W : Type} {T : Tab} {R : WR W} {X : Cx} {e : Expr} {es : List Expr} {pos : Pos}
theorem te_of {f : Ex W} (h : PE X e (tF T X.K R f)) : PE X e (tE T X.K R f) := (pe_frz h).imp fun σ H Q ⟨st, fp, hd, q, d, st', h', k⟩ =>
  ⟨st, fp, hd, q, d, st', h', fun p o H1 fp1 q1 l1 n own => by
    rcases own.how with f | ⟨u, eu, mu, f⟩
    · have lu : Le H1 (upd H1 p o) := le_upd n
      have e1 := still_new q1 lu n upd_same
      exact .inl (k _ _ fp1 (q1.grow lu) (l1.trans (still_grow q1 lu)) (own.rep (still_grow q1 lu).up f (by rw [e1]; exact upd_same.symm)))
    · refine .inr ⟨p, u, eu, mu, fun ob => ?_⟩
      have eo : upd (upd H1 p o) p (.frz ob u) = upd H1 p (.frz ob u) := by
        funext b
        by_cases z : b = p
        · subst z; rw [upd_same, upd_same]
        · rw [upd_ne z, upd_ne z, upd_ne z]
      have lu : Le H1 (upd H1 p (.frz ob u)) := le_upd n
      have e1 := still_new q1 lu n upd_same
      have ff := f ob
      rw [eo] at ff
      rw [eo]
      exact k _ _ fp1 (q1.grow lu) (l1.trans (still_grow q1 lu)) (own.rep (still_grow q1 lu).up ff (by rw [e1]; exact upd_same.symm))⟩
/-- a pure operation that makes one new thing -/
def NewS (T : Tab) (K : PySem.W.Frag) (r : List V → Hp → VK → Prop) (g : List D → Option D) : Prop := ∀ xs H G ds d Q, Le G H → Reps T K G xs ds → g ds = some d → (∀ p o, H p = none → Own T K (upd H p o) G p d → Q (.ref p) (upd H p o)) → r xs H Q
theorem tf_pure {f : As W} {r : List V → Hp → VK → Prop} {g : List D → Option D} (ha : PA X es (tA T X.K R f)) (hg : NewS T X.K r g) (h : ∀ t : TA, PA X es t → PE X e (fun σ H Q => t σ H fun xs H1 => r xs H1 Q)) : PE X e (tF T X.K R (ePure g f)) := (h _ ha).imp fun σ H Q ⟨st, fp, hd, q, d, st', h', k⟩ => by
  unfold ePure at h'
  split at h'
  · rename_i xs st1 hx
    split at h'
    · rename_i d' hdd
      cases h'
      refine ⟨st, fp, hd, q, xs, _, hx, fun vs H1 fp1 q1 l1 r1 => ?_⟩
      exact hg vs H1 _ xs d Q still_le r1 hdd fun p o n own => k p o H1 fp1 q1 l1 n own
    · cases h'
  · cases h'
theorem lst_n {T : Tab} {K : PySem.W.Frag} : NewS T K (fun xs H1 Q => xs.length ≤ sizeLine ∧ ∀ p, H1 p = none → Q (.ref p) (upd H1 p (.lst xs))) gLstD := fun xs H G ds d Q _ r e k => by
  unfold gLstD at e
  split at e
  · rename_i hl
    cases e
    exact ⟨by rw [r.length]; exact hl, fun p n => k p _ n (.lst upd_same r)⟩
  · cases e
theorem tf_lst {f : As W} (ha : PA X es (tA T X.K R f)) : PE X (.List es pos) (tF T X.K R (ePure gLstD f)) := tf_pure ha lst_n fun t h => pe_lst h
end

section
variable {W : Type} {T : Tab} {K : PySem.W.Frag} {R : WR W} {hd : Hid} {st : S W} {σ : L2.St} {H : Hp} {fp : List Addr} {p : Addr} {o o' : HO}
def hideA (H : Hp) (p : Addr) : Hp := fun a => if a = p then none else H a
theorem hideA_self {H : Hp} {p : Addr} : hideA H p p = none := by unfold hideA; rw [if_pos rfl]
theorem hideA_ne {H : Hp} {a p : Addr} (h : a ≠ p) : hideA H p a = H a := by unfold hideA; rw [if_neg h]
theorem hideA_upd {H : Hp} {p : Addr} {o : HO} (h : H p = some o) : upd (hideA H p) p o = H := by
  funext a
  by_cases e : a = p
  · subst e; rw [upd_same, h]
  · rw [upd_ne e, hideA_ne e]
/-- one more hidden thing -/
def Hid.put (hd : Hid) (p : Addr) (o : HO) : Hid := ⟨upd hd.h p o, hd.f0, hd.me⟩
theorem put_iff {hd : Hid} {p b : Addr} {o : HO} : ((hd.put p o).h b).isSome = true ↔ b = p ∨ (hd.h b).isSome = true := by
  show (upd hd.h p o b).isSome = true ↔ _
  by_cases e : b = p
  · subst e; rw [upd_same]; simp
  · rw [upd_ne e]; simp [e]
/-- a new thing, hidden -/
theorem SR.hide (q : SR T K R hd st σ H fp) (n : H p = none) : SR T K R (hd.put p o) st σ (upd H p o) fp ∧ still (hd.put p o) st σ (upd H p o) fp = still hd st σ H fp := by
  obtain ⟨n1, n2, n3⟩ := q.notin n
  have es : still (hd.put p o) st σ (upd H p o) fp = still hd st σ H fp := by
    funext a
    unfold still
    by_cases e : a = p
    · subst e
      rw [if_pos (.inr (.inr (put_iff.mpr (.inl rfl)))), n]
      split <;> rfl
    · rw [upd_ne e]
      have : (a ∈ ownA st.sl σ ∨ a ∈ fp ∨ ((hd.put p o).h a).isSome = true) ↔ (a ∈ ownA st.sl σ ∨ a ∈ fp ∨ (hd.h a).isSome = true) := by rw [put_iff]; simp [e]
      by_cases z : a ∈ ownA st.sl σ ∨ a ∈ fp ∨ (hd.h a).isSome = true
      · rw [if_pos (this.mpr z), if_pos z]
      · rw [if_neg (fun y => z (this.mp y)), if_neg z]
  have no : ∀ a ∈ ownA st.sl σ, a ≠ p := fun a ha e => n1 (e ▸ ha)
  have nf : ∀ a ∈ fp, a ≠ p := fun a ha e => n2 (e ▸ ha)
  refine ⟨⟨?_, R.at_ _ _ _ _ q.w fun a ha => upd_ne (nf a ha), q.nd, fun a ha => ⟨(q.ap a ha).1, ?_⟩, fun a u e => ?_, fun a ha => ?_, q.f0, q.me⟩, es⟩
  · rw [es]
    exact q.sl.up (fun a ha => upd_ne (no a ha)) (Up.refl _)
  · show upd hd.h p o a = none
    rw [upd_ne (no a ha)]
    exact (q.ap a ha).2
  · have e : upd hd.h p o a = some u := e
    by_cases z : a = p
    · subst z; rw [upd_same] at e ⊢; exact e
    · rw [upd_ne z] at e ⊢; exact q.hid a u e
  · show upd hd.h p o a = none
    rw [upd_ne (nf a ha)]
    exact q.hap a ha
theorem put_ne {hd : Hid} {p a : Addr} {o : HO} (h : (hd.put p o).h a = none) : a ≠ p := fun e => by
  subst e
  have : upd hd.h a o a = none := h
  rw [upd_same] at this
  cases this
theorem SR.at_put (q : SR T K R (hd.put p o) st σ H fp) : H p = some o := q.hid p o upd_same
/-- the hidden thing changes -/
theorem SR.rehide (q : SR T K R (hd.put p o) st σ H fp) : SR T K R (hd.put p o') st σ (upd H p o') fp ∧ still (hd.put p o') st σ (upd H p o') fp = still (hd.put p o) st σ H fp := by
  have no : ∀ a ∈ ownA st.sl σ, a ≠ p := fun a ha => put_ne (q.ap a ha).2
  have nf : ∀ a ∈ fp, a ≠ p := fun a ha => put_ne (q.hap a ha)
  have es : still (hd.put p o') st σ (upd H p o') fp = still (hd.put p o) st σ H fp := still_eq (fun b => by rw [put_iff, put_iff]) fun b z => by
    rw [put_iff] at z
    exact upd_ne fun e => z (.inr (.inr (.inl e)))
  refine ⟨⟨?_, R.at_ _ _ _ _ q.w fun a ha => upd_ne (nf a ha), q.nd, fun a ha => ⟨(q.ap a ha).1, ?_⟩, fun a u e => ?_, fun a ha => ?_, q.f0, q.me⟩, es⟩
  · rw [es]
    exact q.sl.up (fun a ha => upd_ne (no a ha)) (Up.refl _)
  · have := (q.ap a ha).2
    show upd hd.h p o' a = none
    have h2 : upd hd.h p o a = none := this
    rw [upd_ne (no a ha)] at h2 ⊢
    exact h2
  · have e : upd hd.h p o' a = some u := e
    by_cases z : a = p
    · subst z; rw [upd_same] at e ⊢; exact e
    · rw [upd_ne z] at e ⊢
      exact q.hid a u (by show upd hd.h p o a = some u; rw [upd_ne z]; exact e)
  · have h2 : upd hd.h p o a = none := q.hap a ha
    show upd hd.h p o' a = none
    rw [upd_ne (nf a ha)] at h2 ⊢
    exact h2
/-- it was never there -/
theorem SR.unhide (q : SR T K R (hd.put p o) st σ H fp) (nh : hd.h p = none) : SR T K R hd st σ (hideA H p) fp ∧ still hd st σ (hideA H p) fp = still (hd.put p o) st σ H fp := by
  have no : ∀ a ∈ ownA st.sl σ, a ≠ p := fun a ha => put_ne (q.ap a ha).2
  have nf : ∀ a ∈ fp, a ≠ p := fun a ha => put_ne (q.hap a ha)
  have low : ∀ {a : Addr}, a ≠ p → (hd.put p o).h a = hd.h a := fun {a} e => upd_ne e
  have es : still hd st σ (hideA H p) fp = still (hd.put p o) st σ H fp := by
    funext a
    unfold still
    by_cases e : a = p
    · subst e
      rw [if_pos (show a ∈ ownA st.sl σ ∨ a ∈ fp ∨ ((hd.put a o).h a).isSome = true from .inr (.inr (put_iff.mpr (.inl rfl)))), hideA_self]
      split <;> rfl
    · rw [hideA_ne e, low e]
  refine ⟨⟨?_, R.at_ _ _ _ _ q.w fun a ha => hideA_ne (nf a ha), q.nd, fun a ha => ⟨(q.ap a ha).1, ?_⟩, fun a u e => ?_, fun a ha => ?_, q.f0, q.me⟩, es⟩
  · rw [es]
    exact q.sl.up (fun a ha => hideA_ne (no a ha)) (Up.refl _)
  · rw [← low (no a ha)]; exact (q.ap a ha).2
  · have z : a ≠ p := fun z => by subst z; rw [nh] at e; cases e
    rw [hideA_ne z]
    exact q.hid a u (by rw [low z]; exact e)
  · rw [← low (nf a ha)]; exact q.hap a ha
theorem Reps.snoc {T : Tab} {K : PySem.W.Frag} {G : Hp} {xs : List V} {l : List D} {v : V} {d : D} (r : Reps T K G xs l) (h : Rep T K G v d) : Reps T K G (xs ++ [v]) (l ++ [d]) := r.append (.cons h .nil)
end

section
variable {W : Type}
def xTrue : Tx W := fun st => some (true, st)
def wipeW (vs : List Nat) (st : S W) : S W := { st with sl := wipeS vs st.sl }
/-- one item at the front of what comes -/
def consR (y : D) : Option (List D × S W) → Option (List D × S W)
  | some (ys, st) => some (y :: ys, st)
  | none => none
def lcL (g : Tg W) (t : Tx W) (e : Ex W) (vs : List Nat) : List D → Nat → S W → Option (List D × S W)
  | [], _, st => some ([], st)
  | d :: ds, k, st => (match g d st with
    | some st1 => (match t st1 with
      | some (true, st2) => (match e st2 with
        | some (y, st3) => if k < sizeLine ∧ noOw vs st3.sl = true then consR y (lcL g t e vs ds (k + 1) (wipeW vs st3)) else none
        | none => none)
      | some (false, st2) => if noOw vs st2.sl = true then lcL g t e vs ds k (wipeW vs st2) else none
      | none => none)
    | none => none)
def eLc (it : As W) (g : Tg W) (t : Tx W) (e : Ex W) (vs : List Nat) : Ex W := fun st => match it st with
  | some (ds, st1) => if noOw vs st1.sl = true then (match lcL g t e vs ds 0 (wipeW vs st1) with
    | some (ys, st2) => some (.lst ys, { st2 with sl := backS vs st1.sl st2.sl })
    | none => none) else none
  | none => none
theorem noOw_wipe {vs : List Nat} {sl : List Slot} : noOw vs (wipeS vs sl) = true := by
  refine List.all_eq_true.mpr fun i hi => ?_
  unfold wipeS
  rw [List.getD_eq_getElem?_getD, List.getElem?_mapIdx]
  cases sl[i]? with
  | none => rfl
  | some s => simp [hi, Slot.isOw]
end
theorem bar_wipe {σ σ2 : L2.St} {vs ix : List Nat} (b : Bar ix (L2.wipe σ vs) σ2) (h : ∀ i ∈ ix, i ∈ vs) : L2.wipe σ2 vs = L2.wipe σ vs := by
  refine List.ext_getElem? fun i => ?_
  have len : σ2.length = σ.length := b.1.trans (L2.wipe_length _ _)
  by_cases hi : i ∈ vs
  · by_cases hl : i < σ.length
    · rw [wipe_in hi hl, wipe_in hi (by omega)]
    · rw [List.getElem?_eq_none (by rw [L2.wipe_length]; omega), List.getElem?_eq_none (by rw [L2.wipe_length]; omega)]
  · rw [L2.wipe_out hi]
    exact b.2 i fun z => hi (h i z)
section
variable {W : Type} {T : Tab} {R : WR W} {X : Cx} {elt tg iter : Expr} {ifs : List Expr} {scope : Scope} {own : List (Str × Nat)} {pos : Pos}
/-- the state behind an element -/
theorem SR.wipe2 {K : PySem.W.Frag} {hd : Hid} {st : S W} {σ σ2 : L2.St} {H : Hp} {fp : List Addr} {vs : List Nat} (q : SR T K R hd st σ2 H fp) (n : noOw vs st.sl = true) (e : L2.wipe σ2 vs = L2.wipe σ vs) :
    SR T K R hd (wipeW vs st) (L2.wipe σ vs) H fp ∧ still hd (wipeW vs st) (L2.wipe σ vs) H fp = still hd st σ2 H fp := by
  have := q.wipe n
  rw [e] at this
  exact this
theorem lc_imp {K : PySem.W.Frag} {f : As W} {g : Tg W} {ix : List Nat} {t : Tx W} {ee : Ex W} {vs : List Nat} (hix : ∀ i ∈ ix, i ∈ vs) {σ : L2.St} {H : Hp} {Q : VK} : tF T K R (eLc f g t ee vs) σ H Q → tLc (tI T K R f) (tG T K R ix g) (tT T K R t) (tE T K R ee) vs σ H Q := fun ⟨st, fp, hd, q, d, st', h', k⟩ => by
  unfold eLc at h'
  split at h'
  · rename_i ds st1 h1
    split at h'
    · rename_i n1
      split at h'
      · rename_i ys st2 h2
        cases h'
        refine ⟨st, fp, hd, q, ds, st1, h1, fun J H1 fp1 q1 l1 okJ => fun Dp nD => ?_⟩
        have hidD : hd.h Dp = none := (q1.notin nD).2.2
        refine ⟨fun i m H2 => m = ds.length - i ∧ ∃ s2 fp2 acc ls ys', SR T K R (hd.put Dp (.lst acc)) s2 (L2.wipe σ vs) H2 fp2 ∧ noOw vs s2.sl = true ∧ Le (still hd st1 σ H1 fp1) (still (hd.put Dp (.lst acc)) s2 (L2.wipe σ vs) H2 fp2) ∧
          Reps T K (still (hd.put Dp (.lst acc)) s2 (L2.wipe σ vs) H2 fp2) acc ls ∧ lcL g t ee vs (ds.drop i) ls.length s2 = some (ys', st2) ∧ ys = ls ++ ys', ⟨ds.length, rfl, ?_⟩, ?_⟩
        · obtain ⟨w1, e1⟩ := q1.wipe n1
          obtain ⟨w2, e2⟩ := w1.hide (o := .lst []) nD
          refine ⟨_, fp1, [], [], ys, w2, noOw_wipe, ?_, .nil, h2, rfl⟩
          rw [e2, e1]
          exact Le.refl _
        · rintro i m H2 ⟨rfl, s2, fp2, acc, ls, ys', q2, n2, l2, ra, hl, ey⟩
          have okH := okJ H2 (l2.trans still_le) i
          have hD2 : H2 Dp = some (.lst acc) := q2.at_put
          cases e : ds.drop i with
          | nil =>
            have hlen : ds.length ≤ i := List.drop_eq_nil_iff.mp e
            rw [e] at hl
            cases hl
            refine .inl ⟨okH.2 hlen, ?_⟩
            obtain ⟨u1, eu⟩ := q2.unhide hidD
            rw [← eu] at l2 ra
            obtain ⟨b1, eb⟩ := SR.back q1 n1 u1 n2 l2
            rw [← eb] at l2 ra
            have := k Dp (.lst acc) (hideA H2 Dp) fp2 b1 (l1.trans l2) hideA_self (by
              rw [ey, List.append_nil]
              exact .lst upd_same ra)
            rw [hideA_upd hD2] at this
            exact this
          | cons dd rest =>
            obtain ⟨ei, er⟩ := drop_cons e
            have hlt : i < ds.length := (List.getElem?_eq_some_iff.mp ei).1
            obtain ⟨go, yl⟩ := okH.1 dd ei
            rw [e] at hl
            refine .inr ⟨go, fun H3 => ∃ s2 fp2 acc ls ys', SR T K R (hd.put Dp (.lst acc)) s2 (L2.wipe σ vs) H3 fp2 ∧ noOw vs s2.sl = true ∧ Le (still hd st1 σ H1 fp1) (still (hd.put Dp (.lst acc)) s2 (L2.wipe σ vs) H3 fp2) ∧
              Reps T K (still (hd.put Dp (.lst acc)) s2 (L2.wipe σ vs) H3 fp2) acc ls ∧ lcL g t ee vs rest ls.length s2 = some (ys', st2) ∧ ys = ls ++ ys', fun H3 z => ⟨ds.length - (i + 1), by omega, rfl, by rw [er]; exact z⟩, fun x H3 y => ?_⟩
            obtain ⟨lh, rp⟩ := yl x H3 y
            have q3 := q2.grow lh
            have l3 := still_grow q2 lh
            have r3 : Rep T K (still (hd.put Dp (.lst acc)) s2 (L2.wipe σ vs) H3 fp2) x dd := rp _ ⟨l2.trans l3, fun a o n z => still_new q2 lh n z⟩
            unfold lcL at hl
            split at hl
            · rename_i s4 hg4
              refine ⟨s2, fp2, hd.put Dp (.lst acc), dd, s4, q3, r3, hg4, fun σ4 H4 fp4 q4 l4 b4 => ?_⟩
              have ew := bar_wipe b4 hix
              refine ⟨ew, ?_⟩
              have l04 := (l2.trans l3).trans l4
              cases ht4 : t s4 with
              | none => rw [ht4] at hl; cases hl
              | some r =>
                obtain ⟨bb, s5⟩ := r
                rw [ht4] at hl
                refine ⟨s4, fp4, _, q4, bb, s5, ht4, fun H5 fp5 q5 l5 => ?_⟩
                cases bb with
                | true =>
                  refine iteT ?_
                  have hl : (match ee s5 with
                    | some (y, st3) => if ls.length < sizeLine ∧ noOw vs st3.sl = true then consR y (lcL g t ee vs rest (ls.length + 1) (wipeW vs st3)) else none
                    | none => none) = some (ys', st2) := hl
                  split at hl
                  · rename_i yd s6 he6
                    split at hl
                    · rename_i hc6
                      refine ⟨s5, fp5, _, q5, yd, s6, he6, fun v H6 fp6 q6 l6 r6 => ?_⟩
                      have hD6 : H6 Dp = some (.lst acc) := q6.at_put
                      refine ⟨acc, hD6, by rw [ra.length]; exact hc6.1, ?_⟩
                      obtain ⟨w1, e1⟩ := q6.wipe2 hc6.2 ew
                      obtain ⟨w2, e2⟩ := w1.rehide (o' := .lst (acc ++ [v]))
                      have l06 := (l04.trans l5).trans l6
                      cases hrest : lcL g t ee vs rest (ls.length + 1) (wipeW vs s6) with
                      | none => rw [hrest] at hl; cases hl
                      | some z =>
                        obtain ⟨zs, sz⟩ := z
                        rw [hrest] at hl
                        cases hl
                        refine ⟨_, fp6, acc ++ [v], ls ++ [yd], zs, w2, noOw_wipe, ?_, ?_, ?_, ?_⟩
                        · rw [e2, e1]; exact l06
                        · rw [e2, e1]
                          exact (ra.up ((l3.trans l4).trans (l5.trans l6)).up).snoc r6
                        · rw [List.length_append]; exact hrest
                        · rw [ey, List.append_assoc]; rfl
                    · cases hl
                  · cases hl
                | false =>
                  refine iteF ?_
                  have hl : (if noOw vs s5.sl = true then lcL g t ee vs rest ls.length (wipeW vs s5) else none) = some (ys', st2) := hl
                  split at hl
                  · rename_i hc6
                    obtain ⟨w1, e1⟩ := q5.wipe2 hc6 ew
                    exact ⟨_, fp5, acc, ls, ys', w1, noOw_wipe, by rw [e1]; exact l04.trans l5, by rw [e1]; exact ra.up ((l3.trans l4).trans l5).up, hl, ey⟩
                  · cases hl
            · cases hl
      · cases h'
    · cases h'
  · cases h'
theorem tf_lc {f : As W} {g : Tg W} {ix : List Nat} {t : Tx W} {ee : Ex W} (hc : X.calm = true) (hN : X.N.Nodup) (hi : PI X tg iter (tI T X.K R f)) (ok : BlkOk X.N X.env.scope scope own) (hix : ∀ i ∈ ix, i ∈ own.map (·.2))
    (hg : ∀ (s : Shared) (H : Hp) (C : Addr) (cl : List (Str × Addr)) (b : List Addr), PG (X.blk s H scope (compEnvC scope cl C X.env) b) tg (tG T X.K R ix g))
    (ht : ∀ (s : Shared) (H : Hp) (C : Addr) (cl : List (Str × Addr)) (b : List Addr), PTs (X.blk s H scope (compEnvC scope cl C X.env) b) ifs (tT T X.K R t))
    (he : ∀ (s : Shared) (H : Hp) (C : Addr) (cl : List (Str × Addr)) (b : List Addr), PE (X.blk s H scope (compEnvC scope cl C X.env) b) elt (tE T X.K R ee)) (hs : ∀ x, foldedSetIterable iter X.env x = pure x) :
    PE X (.ListComp elt [⟨tg, iter, ifs, 0⟩] scope pos) (tF T X.K R (eLc f g t ee (own.map (·.2)))) := (pe_lc hc hN hi ok hg ht he hs).imp fun σ H Q h => lc_imp hix h
end
end Mi
namespace Mi
open PySem PySem.Spec L2
open PyProof.Rows hiding St

section
variable {W : Type}
def appR (xs : List D) : Option (List D × S W) → Option (List D × S W)
  | some (ys, st) => some (xs ++ ys, st)
  | none => none
def lc2L (g : Tg W) (t : Tx W) (i1 : As W) (g1 : Tg W) (t1 : Tx W) (e : Ex W) (vs vs1 : List Nat) : List D → Nat → S W → Option (List D × S W)
  | [], _, st => some ([], st)
  | d :: ds, k, st => (match g d st with
    | some st1 => (match t st1 with
      | some (true, st2) => (match i1 st2 with
        | some (ds1, st3) => if noOw vs1 st3.sl = true then (match lcL g1 t1 e vs1 ds1 k (wipeW vs1 st3) with
          | some (ys, st4) => if noOw vs st4.sl = true then appR ys (lc2L g t i1 g1 t1 e vs vs1 ds (k + ys.length) (wipeW vs st4)) else none
          | none => none) else none
        | none => none)
      | some (false, st2) => if noOw vs st2.sl = true then lc2L g t i1 g1 t1 e vs vs1 ds k (wipeW vs st2) else none
      | none => none)
    | none => none)
def eLc2 (it : As W) (g : Tg W) (t : Tx W) (i1 : As W) (g1 : Tg W) (t1 : Tx W) (e : Ex W) (vs vs1 : List Nat) : Ex W := fun st => match it st with
  | some (ds, st1) => if noOw vs st1.sl = true then (match lc2L g t i1 g1 t1 e vs vs1 ds 0 (wipeW vs st1) with
    | some (ys, st2) => some (.lst ys, { st2 with sl := backS vs st1.sl st2.sl })
    | none => none) else none
  | none => none
end
theorem wipe_wipe {σ : L2.St} {vs vs1 : List Nat} (h : ∀ i ∈ vs1, i ∈ vs) : L2.wipe (L2.wipe σ vs1) vs = L2.wipe σ vs := by
  refine List.ext_getElem? fun i => ?_
  by_cases hi : i ∈ vs
  · by_cases hl : i < σ.length
    · rw [wipe_in hi hl, wipe_in hi (by rw [L2.wipe_length]; omega)]
    · rw [List.getElem?_eq_none (by rw [L2.wipe_length, L2.wipe_length]; omega), List.getElem?_eq_none (by rw [L2.wipe_length]; omega)]
  · rw [L2.wipe_out hi, L2.wipe_out hi, L2.wipe_out fun z => hi (h i z)]
section
variable {W : Type} {T : Tab} {R : WR W} {X : Cx} {elt tg iter tg1 iter1 : Expr} {ifs ifs1 : List Expr} {scope : Scope} {own : List (Str × Nat)} {vs1 : List Nat} {pos : Pos}
theorem lc2_imp {K : PySem.W.Frag} {f f1 : As W} {g g1 : Tg W} {ix ix1 : List Nat} {t t1 : Tx W} {ee : Ex W} {vs vs1 : List Nat} (hix : ∀ i ∈ ix, i ∈ vs) (hix1 : ∀ i ∈ ix1, i ∈ vs1) (hv : ∀ i ∈ vs1, i ∈ vs) {σ : L2.St} {H : Hp} {Q : VK} : tF T K R (eLc2 f g t f1 g1 t1 ee vs vs1) σ H Q → tLc2 (tI T K R f) (tG T K R ix g) (tT T K R t) (tI T K R f1) (tG T K R ix1 g1) (tT T K R t1) (tE T K R ee) vs vs1 σ H Q := fun ⟨st, fp, hd, q, d, st', h', k⟩ => by
  unfold eLc2 at h'
  split at h'
  · rename_i ds st1 h1
    split at h'
    · rename_i n1
      split at h'
      · rename_i ys st2 h2
        cases h'
        refine ⟨st, fp, hd, q, ds, st1, h1, fun J H1 fp1 q1 l1 okJ => fun Dp nD => ?_⟩
        have hidD : hd.h Dp = none := (q1.notin nD).2.2
        refine ⟨fun i m H2 => m = ds.length - i ∧ ∃ s2 fp2 acc ls ys', SR T K R (hd.put Dp (.lst acc)) s2 (L2.wipe σ vs) H2 fp2 ∧ noOw vs s2.sl = true ∧ Le (still hd st1 σ H1 fp1) (still (hd.put Dp (.lst acc)) s2 (L2.wipe σ vs) H2 fp2) ∧
          Reps T K (still (hd.put Dp (.lst acc)) s2 (L2.wipe σ vs) H2 fp2) acc ls ∧ lc2L g t f1 g1 t1 ee vs vs1 (ds.drop i) ls.length s2 = some (ys', st2) ∧ ys = ls ++ ys', ⟨ds.length, rfl, ?_⟩, ?_⟩
        · obtain ⟨w1, e1⟩ := q1.wipe n1
          obtain ⟨w2, e2⟩ := w1.hide (o := .lst []) nD
          refine ⟨_, fp1, [], [], ys, w2, noOw_wipe, ?_, .nil, h2, rfl⟩
          rw [e2, e1]
          exact Le.refl _
        · rintro i m H2 ⟨rfl, s2, fp2, acc, ls, ys', q2, n2, l2, ra, hl, ey⟩
          have okH := okJ H2 (l2.trans still_le) i
          have hD2 : H2 Dp = some (.lst acc) := q2.at_put
          cases e : ds.drop i with
          | nil =>
            have hlen : ds.length ≤ i := List.drop_eq_nil_iff.mp e
            rw [e] at hl
            cases hl
            refine .inl ⟨okH.2 hlen, ?_⟩
            obtain ⟨u1, eu⟩ := q2.unhide hidD
            rw [← eu] at l2 ra
            obtain ⟨b1, eb⟩ := SR.back q1 n1 u1 n2 l2
            rw [← eb] at l2 ra
            have := k Dp (.lst acc) (hideA H2 Dp) fp2 b1 (l1.trans l2) hideA_self (by
              rw [ey, List.append_nil]
              exact .lst upd_same ra)
            rw [hideA_upd hD2] at this
            exact this
          | cons dd rest =>
            obtain ⟨ei, er⟩ := drop_cons e
            have hlt : i < ds.length := (List.getElem?_eq_some_iff.mp ei).1
            obtain ⟨go, yl⟩ := okH.1 dd ei
            rw [e] at hl
            refine .inr ⟨go, fun H3 => ∃ s2 fp2 acc ls ys', SR T K R (hd.put Dp (.lst acc)) s2 (L2.wipe σ vs) H3 fp2 ∧ noOw vs s2.sl = true ∧ Le (still hd st1 σ H1 fp1) (still (hd.put Dp (.lst acc)) s2 (L2.wipe σ vs) H3 fp2) ∧
              Reps T K (still (hd.put Dp (.lst acc)) s2 (L2.wipe σ vs) H3 fp2) acc ls ∧ lc2L g t f1 g1 t1 ee vs vs1 rest ls.length s2 = some (ys', st2) ∧ ys = ls ++ ys', fun H3 z => ⟨ds.length - (i + 1), by omega, rfl, by rw [er]; exact z⟩, fun x H3 y => ?_⟩
            obtain ⟨lh, rp⟩ := yl x H3 y
            have q3 := q2.grow lh
            have l3 := still_grow q2 lh
            have r3 : Rep T K (still (hd.put Dp (.lst acc)) s2 (L2.wipe σ vs) H3 fp2) x dd := rp _ ⟨l2.trans l3, fun a o n z => still_new q2 lh n z⟩
            unfold lc2L at hl
            split at hl
            · rename_i s4 hg4
              refine ⟨s2, fp2, hd.put Dp (.lst acc), dd, s4, q3, r3, hg4, fun σ4 H4 fp4 q4 l4 b4 => ?_⟩
              have ew := bar_wipe b4 hix
              refine ⟨ew, ?_⟩
              have l04 := (l2.trans l3).trans l4
              cases ht4 : t s4 with
              | none => rw [ht4] at hl; cases hl
              | some r =>
                obtain ⟨bb, s5⟩ := r
                rw [ht4] at hl
                refine ⟨s4, fp4, _, q4, bb, s5, ht4, fun H5 fp5 q5 l5 => ?_⟩
                cases bb with
                | false =>
                  refine iteF ?_
                  have hl : (if noOw vs s5.sl = true then lc2L g t f1 g1 t1 ee vs vs1 rest ls.length (wipeW vs s5) else none) = some (ys', st2) := hl
                  split at hl
                  · rename_i hc6
                    obtain ⟨w1, e1⟩ := q5.wipe2 hc6 ew
                    exact ⟨_, fp5, acc, ls, ys', w1, noOw_wipe, by rw [e1]; exact l04.trans l5, by rw [e1]; exact ra.up ((l3.trans l4).trans l5).up, hl, ey⟩
                  · cases hl
                | true =>
                  refine iteT ?_
                  have hl : (match f1 s5 with
                    | some (ds1, st3) => if noOw vs1 st3.sl = true then (match lcL g1 t1 ee vs1 ds1 ls.length (wipeW vs1 st3) with
                      | some (ys, st4) => if noOw vs st4.sl = true then appR ys (lc2L g t f1 g1 t1 ee vs vs1 rest (ls.length + ys.length) (wipeW vs st4)) else none
                      | none => none) else none
                    | none => none) = some (ys', st2) := hl
                  split at hl
                  · rename_i ds1 s6 hf6
                    split at hl
                    · rename_i n6
                      split at hl
                      · rename_i yI s7 hI
                        split at hl
                        · rename_i n7
                          cases hrest : lc2L g t f1 g1 t1 ee vs vs1 rest (ls.length + yI.length) (wipeW vs s7) with
                          | none => rw [hrest] at hl; cases hl
                          | some z =>
                            obtain ⟨zs, sz⟩ := z
                            rw [hrest] at hl
                            cases hl
                            refine ⟨s5, fp5, _, q5, ds1, s6, hf6, fun J1 H6 fp6 q6 l6 okJ1 => ?_⟩
                            have l06 := (l04.trans l5).trans l6
                            have ra6 := ra.up ((l3.trans l4).trans (l5.trans l6)).up
                            refine ⟨fun j m H7 => m = ds1.length - j ∧ ∃ s8 fp8 acc8 dn rs, SR T K R (hd.put Dp (.lst acc8)) s8 (L2.wipe σ4 vs1) H7 fp8 ∧ noOw vs1 s8.sl = true ∧ Le (still (hd.put Dp (.lst acc)) s6 σ4 H6 fp6) (still (hd.put Dp (.lst acc8)) s8 (L2.wipe σ4 vs1) H7 fp8) ∧
                              Reps T K (still (hd.put Dp (.lst acc8)) s8 (L2.wipe σ4 vs1) H7 fp8) acc8 (ls ++ dn) ∧ lcL g1 t1 ee vs1 (ds1.drop j) (ls ++ dn).length s8 = some (rs, s7) ∧ yI = dn ++ rs, ⟨ds1.length, rfl, ?_⟩, ?_⟩
                            · obtain ⟨w1, e1⟩ := q6.wipe n6
                              refine ⟨_, fp6, acc, [], yI, w1, noOw_wipe, by rw [e1]; exact Le.refl _, by rw [e1, List.append_nil]; exact ra6, by rw [List.append_nil]; exact hI, rfl⟩
                            · rintro j m H7 ⟨rfl, s8, fp8, acc8, dn, rs, q8, n8, l8, ra8, hl8, ey8⟩
                              have okH1 := okJ1 H7 (l8.trans still_le) j
                              cases e8 : ds1.drop j with
                              | nil =>
                                have hlen : ds1.length ≤ j := List.drop_eq_nil_iff.mp e8
                                rw [e8] at hl8
                                cases hl8
                                rw [List.append_nil] at ey8
                                subst ey8
                                have ew8 : L2.wipe (L2.wipe σ4 vs1) vs = L2.wipe σ vs := (wipe_wipe hv).trans ew
                                obtain ⟨w1, e1⟩ := q8.wipe2 n7 ew8
                                refine .inl ⟨okH1.2 hlen, _, fp8, acc8, ls ++ yI, zs, w1, noOw_wipe, by rw [e1]; exact l06.trans l8, by rw [e1]; exact ra8, by rw [List.length_append]; exact hrest, by rw [ey, List.append_assoc]⟩
                              | cons d8 rest8 =>
                                obtain ⟨ei8, er8⟩ := drop_cons e8
                                have hlt8 : j < ds1.length := (List.getElem?_eq_some_iff.mp ei8).1
                                obtain ⟨go8, yl8⟩ := okH1.1 d8 ei8
                                rw [e8] at hl8
                                refine .inr ⟨go8, fun H9 => ∃ s8 fp8 acc8 dn rs, SR T K R (hd.put Dp (.lst acc8)) s8 (L2.wipe σ4 vs1) H9 fp8 ∧ noOw vs1 s8.sl = true ∧ Le (still (hd.put Dp (.lst acc)) s6 σ4 H6 fp6) (still (hd.put Dp (.lst acc8)) s8 (L2.wipe σ4 vs1) H9 fp8) ∧
                                  Reps T K (still (hd.put Dp (.lst acc8)) s8 (L2.wipe σ4 vs1) H9 fp8) acc8 (ls ++ dn) ∧ lcL g1 t1 ee vs1 rest8 (ls ++ dn).length s8 = some (rs, s7) ∧ yI = dn ++ rs, fun H9 z => ⟨ds1.length - (j + 1), by omega, rfl, by rw [er8]; exact z⟩, fun x8 H9 y8 => ?_⟩
                                obtain ⟨lh8, rp8⟩ := yl8 x8 H9 y8
                                have q9 := q8.grow lh8
                                have l9 := still_grow q8 lh8
                                have r9 : Rep T K (still (hd.put Dp (.lst acc8)) s8 (L2.wipe σ4 vs1) H9 fp8) x8 d8 := rp8 _ ⟨l8.trans l9, fun a o n z => still_new q8 lh8 n z⟩
                                unfold lcL at hl8
                                split at hl8
                                · rename_i s10 hg10
                                  refine ⟨s8, fp8, _, d8, s10, q9, r9, hg10, fun σ10 H10 fp10 q10 l10 b10 => ?_⟩
                                  have ew10 := bar_wipe b10 hix1
                                  refine ⟨ew10, ?_⟩
                                  have l810 := (l8.trans l9).trans l10
                                  cases ht10 : t1 s10 with
                                  | none => rw [ht10] at hl8; cases hl8
                                  | some r10 =>
                                    obtain ⟨b10, s11⟩ := r10
                                    rw [ht10] at hl8
                                    refine ⟨s10, fp10, _, q10, b10, s11, ht10, fun H11 fp11 q11 l11 => ?_⟩
                                    cases b10 with
                                    | false =>
                                      refine iteF ?_
                                      have hl8 : (if noOw vs1 s11.sl = true then lcL g1 t1 ee vs1 rest8 (ls ++ dn).length (wipeW vs1 s11) else none) = some (rs, s7) := hl8
                                      split at hl8
                                      · rename_i hc
                                        obtain ⟨w1, e1⟩ := q11.wipe2 hc ew10
                                        exact ⟨_, fp11, acc8, dn, rs, w1, noOw_wipe, by rw [e1]; exact l810.trans l11, by rw [e1]; exact ra8.up ((l9.trans l10).trans l11).up, hl8, ey8⟩
                                      · cases hl8
                                    | true =>
                                      refine iteT ?_
                                      have hl8 : (match ee s11 with
                                        | some (y, st3) => if (ls ++ dn).length < sizeLine ∧ noOw vs1 st3.sl = true then consR y (lcL g1 t1 ee vs1 rest8 ((ls ++ dn).length + 1) (wipeW vs1 st3)) else none
                                        | none => none) = some (rs, s7) := hl8
                                      split at hl8
                                      · rename_i yd s12 he12
                                        split at hl8
                                        · rename_i hc12
                                          refine ⟨s11, fp11, _, q11, yd, s12, he12, fun v H12 fp12 q12 l12 r12 => ?_⟩
                                          have hD12 : H12 Dp = some (.lst acc8) := q12.at_put
                                          refine ⟨acc8, hD12, by rw [ra8.length]; exact hc12.1, ?_⟩
                                          obtain ⟨w1, e1⟩ := q12.wipe2 hc12.2 ew10
                                          obtain ⟨w2, e2⟩ := w1.rehide (o' := .lst (acc8 ++ [v]))
                                          cases hr12 : lcL g1 t1 ee vs1 rest8 ((ls ++ dn).length + 1) (wipeW vs1 s12) with
                                          | none => rw [hr12] at hl8; cases hl8
                                          | some z12 =>
                                            obtain ⟨z1, z2⟩ := z12
                                            rw [hr12] at hl8
                                            cases hl8
                                            refine ⟨_, fp12, acc8 ++ [v], dn ++ [yd], z1, w2, noOw_wipe, ?_, ?_, ?_, ?_⟩
                                            · rw [e2, e1]; exact (l810.trans l11).trans l12
                                            · rw [e2, e1, ← List.append_assoc]
                                              exact (ra8.up ((l9.trans l10).trans (l11.trans l12)).up).snoc r12
                                            · rw [← List.append_assoc, List.length_append]; exact hr12
                                            · rw [ey8, List.append_assoc]; rfl
                                        · cases hl8
                                      · cases hl8
                                · cases hl8
                        · cases hl
                      · cases hl
                    · cases hl
                  · cases hl
            · cases hl
      · cases h'
    · cases h'
  · cases h'
theorem tf_lc2 {f f1 : As W} {g g1 : Tg W} {ix ix1 : List Nat} {t t1 : Tx W} {ee : Ex W} (hc : X.calm = true) (hN : X.N.Nodup) (hi : PI X tg iter (tI T X.K R f)) (ok : BlkOk X.N X.env.scope scope own) (hix : ∀ i ∈ ix, i ∈ own.map (·.2)) (hix1 : ∀ i ∈ ix1, i ∈ vs1) (hv : ∀ i ∈ vs1, i ∈ own.map (·.2))
    (hg : ∀ (s : Shared) (H : Hp) (C : Addr) (cl : List (Str × Addr)) (b : List Addr), PG (X.blk s H scope (compEnvC scope cl C X.env) b) tg (tG T X.K R ix g))
    (ht : ∀ (s : Shared) (H : Hp) (C : Addr) (cl : List (Str × Addr)) (b : List Addr), PTs (X.blk s H scope (compEnvC scope cl C X.env) b) ifs (tT T X.K R t))
    (hi1 : ∀ (s : Shared) (H : Hp) (C : Addr) (cl : List (Str × Addr)) (b : List Addr), PI (X.blk s H scope (compEnvC scope cl C X.env) b) tg1 iter1 (tI T X.K R f1))
    (hg1 : ∀ (s : Shared) (H : Hp) (C : Addr) (cl : List (Str × Addr)) (b : List Addr), PG (X.blk s H scope (compEnvC scope cl C X.env) b) tg1 (tG T X.K R ix1 g1))
    (ht1 : ∀ (s : Shared) (H : Hp) (C : Addr) (cl : List (Str × Addr)) (b : List Addr), PTs (X.blk s H scope (compEnvC scope cl C X.env) b) ifs1 (tT T X.K R t1))
    (he : ∀ (s : Shared) (H : Hp) (C : Addr) (cl : List (Str × Addr)) (b : List Addr), PE (X.blk s H scope (compEnvC scope cl C X.env) b) elt (tE T X.K R ee))
    (hs : ∀ x, foldedSetIterable iter X.env x = pure x) (hs1 : ∀ env x, foldedSetIterable iter1 env x = pure x) :
    PE X (.ListComp elt [⟨tg, iter, ifs, 0⟩, ⟨tg1, iter1, ifs1, 0⟩] scope pos) (tF T X.K R (eLc2 f g t f1 g1 t1 ee (own.map (·.2)) vs1)) := (pe_lc2 hc hN hi ok hv hg ht hi1 hg1 ht1 he hs hs1).imp fun σ H Q h => lc2_imp hix hix1 hv h
end
end Mi
namespace Mi
open PySem PySem.Spec L2
open PyProof.Rows hiding St

section
variable {W : Type} (T : Tab) (K : PySem.W.Frag) (R : WR W)
/-- φ: what the def does -/
def spF (φ : List D → W → Option (D × W)) (ar : Nat) : Sp := fun vs H Q _ => vs.length = ar ∧ ∃ G w fp ds, Le G H ∧ (∀ a o, G a = some o → a ∉ fp) ∧ Reps T K G vs ds ∧ R.ok w H fp ∧ ∃ d w', φ ds w = some (d, w') ∧
  ∀ v H' fp', R.ok w' H' fp' → (∀ a ∈ fp, a ∈ fp') → Le (without H fp) (without H' fp') → (∀ G', Le G G' → (∀ a o, H a = none → a ∉ fp' → H' a = some o → G' a = some o) → Rep T K G' v d) → Q v H'
/-- an __init__: φ of the other arguments hands back the instance -/
def spI (φ : List D → W → Option (D × W)) (c ar : Nat) : Sp := fun vs H Q _ => vs.length = ar ∧ ∃ x dx ws, vs = .ref x :: ws ∧ H x = some (.ins (T.cls c) dx []) ∧ ∃ G w fp ds, Le G H ∧ (∀ a o, G a = some o → a ∉ fp) ∧ G x = none ∧ x ∉ fp ∧ Reps T K G ws ds ∧ R.ok w H fp ∧
  ∃ fs w', φ ds w = some (.ins c fs, w') ∧ ∀ H' fp' dx' zs, R.ok w' H' fp' → (∀ a ∈ fp, a ∈ fp') → x ∉ fp' → Le (without H (x :: fp)) (without H' (x :: fp')) → H' x = some (.ins (T.cls c) dx' zs) →
    (∀ G', Le G G' → (∀ a o, H a = none → a ∉ fp' → H' a = some o → G' a = some o) → RepF T K G' zs fs) → Q .non H'
end
/-- how arguments come to parameters: n by place, others by the names ks -/
structure BindF (T : Tab) (K : PySem.W.Frag) (fd : FuncData) (ps : List Str) (n : Nat) (ks : List Str) (pl : List D → List D → Option (List D)) : Prop where
  to : ∀ (s : Shared) (us ws : List Value), K.In s.heap → us.length = n → ws.length = ks.length → ∃ vals, BindsTo s fd ⟨us, ks.zip ws⟩ (ps.zip vals) ∧
    ∀ (vs zs : List V), Vals vs us → Vals zs ws → ∃ vs', Vals vs' vals ∧ vs'.length = ps.length ∧ ∀ G ds es ds', Reps T K G vs ds → Reps T K G zs es → pl ds es = some ds' → Reps T K G vs' ds'
theorem BindF.plain {T : Tab} {K : PySem.W.Frag} {fd : FuncData} {ps : List Str} (h : Binds K fd ps []) : BindF T K fd ps ps.length [] (fun ds _ => some ds) := ⟨fun s us ws KX l1 l2 => by
  have b := h s us KX (by rw [List.append_nil]; exact l1)
  rw [List.append_nil] at b
  exact ⟨us, by rw [show ([] : List Str).zip ws = [] from rfl]; exact b, fun vs zs r1 _ => ⟨vs, r1, r1.length.trans l1, fun G ds es ds' q1 _ e => by cases e; exact q1⟩⟩⟩
/-- the last parameters by their defaults -/
theorem BindF.dflt {T : Tab} {K : PySem.W.Frag} {fd : FuncData} {ps : List Str} {dvs : List V} {us0 : List Value} {dd : List D} {n : Nat} (h : Binds K fd ps us0) (r : Vals dvs us0) (q : ∀ G, Reps T K G dvs dd) (hn : n + us0.length = ps.length) : BindF T K fd ps n [] (fun ds _ => some (ds ++ dd)) := ⟨fun s us ws KX l1 l2 => by
  have b := h s us KX (by rw [List.length_append, l1]; exact hn)
  exact ⟨us ++ us0, by rw [show ([] : List Str).zip ws = [] from rfl]; exact b, fun vs zs r1 _ => ⟨vs ++ dvs, r1.append r, by rw [List.length_append, r1.length, r.length, l1]; exact hn, fun G ds es ds' q1 _ e => by cases e; exact q1.append (q G)⟩⟩⟩

section
variable {W : Type} {T : Tab} {K : PySem.W.Frag} {R : WR W} {hd : Hid} {st : S W} {σ : L2.St} {H H' : Hp} {fp fp' : List Addr}
/-- behind a call -/
theorem SR.called (q : SR T K R hd st σ H fp) {w' : W} (ok : R.ok w' H' fp') (sub : ∀ a ∈ fp, a ∈ fp') (l : Le (without H fp) (without H' fp')) :
    SR T K R hd { st with w := w' } σ H' fp' ∧ Le (still hd st σ H fp) (still hd { st with w := w' } σ H' fp') := by
  have up : ∀ a o, a ∉ fp → H a = some o → a ∉ fp' ∧ H' a = some o := fun a o n e => without_some (l a o (without_of n e))
  have le : Le (still hd st σ H fp) (still hd { st with w := w' } σ H' fp') := fun a o e => by
    obtain ⟨n1, n2, n3, e⟩ := still_some e
    obtain ⟨m1, m2⟩ := up a o n2 e
    exact still_of n1 m1 n3 m2
  refine ⟨⟨?_, ok, q.nd, fun a ha => ?_, fun a o e => ?_, fun a ha => ?_, fun a ha => sub a (q.f0 a ha), q.me⟩, le⟩
  · refine q.sl.up (fun a ha => ?_) le.up
    obtain ⟨o, e⟩ := q.own_there a ha
    rw [e]
    exact (up a o (q.ap a ha).1 e).2
  · obtain ⟨o, e⟩ := q.own_there a ha
    exact ⟨(up a o (q.ap a ha).1 e).1, (q.ap a ha).2⟩
  · exact (up a o (fun z => by rw [q.hap a z] at e; cases e) (q.hid a o e)).2
  · cases e : hd.h a with
    | none => rfl
    | some o => exact absurd ha (up a o (fun z => by rw [q.hap a z] at e; cases e) (q.hid a o e)).1
theorem call_sp {φ : List D → W → Option (D × W)} {ar : Nat} {E : XK} {vs : List V} {ds : List D} {d : D} {w' : W} {Q : VK} (q : SR T K R hd st σ H fp) (hl : vs.length = ar) (r : Reps T K (still hd st σ H fp) vs ds) (e : φ ds st.w = some (d, w'))
    (k : ∀ v H' fp', SR T K R hd { st with w := w' } σ H' fp' → Le (still hd st σ H fp) (still hd { st with w := w' } σ H' fp') → Rep T K (still hd { st with w := w' } σ H' fp') v d → Q v H') : spF T K R φ ar vs H Q E := by
  refine ⟨hl, still hd st σ H fp, st.w, fp, ds, still_le0, fun a o e => (still_some e).2.1, r, q.w, d, w', e, fun v H1 fp1 ok sub l rep => ?_⟩
  obtain ⟨q1, l1⟩ := q.called ok sub l
  refine k v H1 fp1 q1 l1 (rep _ l1 fun a o n m e => ?_)
  exact still_of (q.notin n).1 m (q.notin n).2.2 e
theorem make_sp {φ : List D → W → Option (D × W)} {c ar : Nat} {E : XK} {vs : List V} {ds : List D} {fs : List (Str × D)} {w' : W} {Q : VK} {x dx : Addr} (q : SR T K R hd st σ H fp) (hl : vs.length + 1 = ar) (r : Reps T K (still hd st σ H fp) vs ds) (e : φ ds st.w = some (.ins c fs, w')) (nx : H x = none) (ndx : H dx = none) (ne : dx ≠ x)
    (k : ∀ v H' fp', SR T K R hd { st with w := w' } σ H' fp' → Le (still hd st σ H fp) (still hd { st with w := w' } σ H' fp') → Rep T K (still hd { st with w := w' } σ H' fp') v (.ins c fs) → Q v H') :
    spI T K R φ c ar (.ref x :: vs) (upd (upd H dx (.own x)) x (.ins (T.cls c) dx [])) (fun v H2 => v = .non ∧ Q (.ref x) H2) E := by
  have l0 : Le H (upd (upd H dx (.own x)) x (.ins (T.cls c) dx [])) := (le_upd ndx).trans (le_upd (by rw [upd_ne (Ne.symm ne)]; exact nx))
  obtain ⟨n1, n2, n3⟩ := q.notin nx
  refine ⟨hl, x, dx, vs, rfl, upd_same, still hd st σ H fp, st.w, fp, ds, still_le0.trans l0, fun a o e => (still_some e).2.1, ?_, n2, r, R.at_ _ _ _ _ q.w fun a ha => same_of l0 (q.fp_there a ha), fs, w', e, fun H1 fp1 dx' zs ok sub nx1 l e1 rep => ⟨rfl, ?_⟩⟩
  · cases z : still hd st σ H fp x with
    | none => rfl
    | some o => have := (still_some z).2.2.2; rw [nx] at this; cases this
  · have l2 : Le (without H fp) (without H1 fp1) := fun a o ea => by
      obtain ⟨m1, m2⟩ := without_some ea
      have ax : a ≠ x := fun z => by subst z; rw [nx] at m2; cases m2
      obtain ⟨k1, k2⟩ := without_some (l a o (without_of (by simp [ax, m1]) (l0 a o m2)))
      exact without_of (fun z => k1 (List.mem_cons_of_mem _ z)) k2
    obtain ⟨q1, l1⟩ := q.called ok sub l2
    refine k _ H1 fp1 q1 l1 (.ins (still_of n1 nx1 n3 e1) (rep _ l1 fun a o n m ea => ?_))
    have na : H a = none := by
      cases z : H a with
      | none => rfl
      | some u => rw [l0 a u z] at n; cases n
    exact still_of (q.notin na).1 m (q.notin na).2.2 ea
end

/-- f(us, ks = ws) -/
def CalV (X : Cx) (f : Value) (n : Nat) (ks : List Str) (r : List V → List V → Hp → VK → Prop) : Prop := ∀ (pins : List (Addr × Obj)) (s : Shared) (σ : L2.St) (H : Hp) (vs zs : List V) (us ws : List Value) (Q : VK), Inv X pins σ H s → Vals vs us → Vals zs ws → vs.length = n → zs.length = ks.length → r vs zs H Q →
  wpAny (model X.prog X.w) X.A (call f us (ks.zip ws)) (EP X pins σ Q) X.xe s
section
variable {W : Type} {T : Tab} {R : WR W} {X : Cx} {k : Nat} {f C : Addr} {fd : FuncData} {ps ks : List Str} {n c : Nat} {pl : List D → List D → Option (List D)} {φ : List D → W → Option (D × W)}
/-- what a call of a def asks of its arguments -/
def rCal (T : Tab) (K : PySem.W.Frag) (R : WR W) (pl : List D → List D → Option (List D)) (φ : List D → W → Option (D × W)) : List V → List V → Hp → VK → Prop := fun vs zs H Q => ∃ σ hd st fp ds es d w', SR T K R hd st σ H fp ∧ Reps T K (still hd st σ H fp) vs ds ∧ Reps T K (still hd st σ H fp) zs es ∧
  (∃ ds', pl ds es = some ds' ∧ φ ds' st.w = some (d, w')) ∧ ∀ v H' fp', SR T K R hd { st with w := w' } σ H' fp' → Le (still hd st σ H fp) (still hd { st with w := w' } σ H' fp') → Rep T K (still hd { st with w := w' } σ H' fp') v d → Q v H'
theorem cal_fn (F : FnOk X.prog X.w X.K X.mg X.base CX0 k f fd ps (spF T X.K R φ ps.length)) (hr : Room k X.A) (b : BindF T X.K fd ps n ks pl) : CalV X (.ref f) n ks (rCal T X.K R pl φ) := by
  rintro pins s σ H vs zs us ws Q I rv rz l1 l2 ⟨σ', hd, st, fp, ds, es, d, w', q, r1, r2, ⟨ds', e1, e2⟩, kk⟩
  obtain ⟨vals, hb, pk⟩ := b.to s us ws I.kIn (by rw [← rv.length]; exact l1) (by rw [← rz.length]; exact l2)
  obtain ⟨vs', rv', hl', rep⟩ := pk vs zs rv rz
  have hs : spF T X.K R φ ps.length vs' H Q E0 := call_sp q hl' (rep _ ds es ds' r1 r2 e1) e2 kk
  refine wpAny_call (codeAny_mono (F.run X.A X.stack s H ⟨us, ks.zip ws⟩ vals vs' Q E0 hr I.env0 hb rv' hs) fun r s' hq => ?_)
  cases r with
  | error e => exact False.elim hq
  | ok fl => cases fl with
    | ret u => exact I.after hq
    | _ => exact False.elim hq
/-- .. of an __init__: the new instance x first -/
structure BindI (T : Tab) (K : PySem.W.Frag) (fd : FuncData) (ps : List Str) (n : Nat) (ks : List Str) (pl : List D → List D → Option (List D)) : Prop where
  to : ∀ (s : Shared) (x : Value) (us ws : List Value), K.In s.heap → us.length = n → ws.length = ks.length → ∃ vals, BindsTo s fd ⟨x :: us, ks.zip ws⟩ (ps.zip (x :: vals)) ∧
    ∀ (vs zs : List V), Vals vs us → Vals zs ws → ∃ vs', Vals vs' vals ∧ vs'.length + 1 = ps.length ∧ ∀ G ds es ds', Reps T K G vs ds → Reps T K G zs es → pl ds es = some ds' → Reps T K G vs' ds'
theorem BindI.plain {K : PySem.W.Frag} (h : Binds K fd ps []) (hn : n + 1 = ps.length) : BindI T K fd ps n [] (fun ds _ => some ds) := ⟨fun s x us ws KX l1 l2 => by
  have b := h s (x :: us) KX (by rw [List.append_nil, List.length_cons, l1]; exact hn)
  rw [List.append_nil] at b
  exact ⟨us, by rw [show ([] : List Str).zip ws = [] from rfl]; exact b, fun vs zs r1 _ => ⟨vs, r1, by rw [r1.length, l1]; exact hn, fun G ds es ds' q1 _ e => by cases e; exact q1⟩⟩⟩
theorem BindI.dflt {K : PySem.W.Frag} {dvs : List V} {us0 : List Value} {dd : List D} (h : Binds K fd ps us0) (r : Vals dvs us0) (q : ∀ G, Reps T K G dvs dd) (hn : n + 1 + us0.length = ps.length) : BindI T K fd ps n [] (fun ds _ => some (ds ++ dd)) := ⟨fun s x us ws KX l1 l2 => by
  have b := h s (x :: us) KX (by rw [List.length_append, List.length_cons, l1]; exact hn)
  exact ⟨us ++ us0, by rw [show ([] : List Str).zip ws = [] from rfl]; exact b, fun vs zs r1 _ => ⟨vs ++ dvs, r1.append r, by rw [List.length_append, r1.length, r.length, l1]; omega, fun G ds es ds' q1 _ e => by cases e; exact q1.append (q G)⟩⟩⟩
theorem cal_init (M : Mk X.K (T.cls c) f) (F : FnOk X.prog X.w X.K X.mg X.base CX0 k f fd ps (spI T X.K R φ c ps.length)) (hr : Room (k + 1) X.A) (b : BindI T X.K fd ps n ks pl)
    (hφ : ∀ ds w d w', φ ds w = some (d, w') → ∃ fs, d = .ins c fs) : CalV X (.ref (T.cls c)) n ks (rCal T X.K R pl φ) := by
  rintro pins s σ H vs zs us ws Q I rv rz l1 l2 ⟨σ', hd, st, fp, ds, es, d, w', q, r1, r2, ⟨ds', e1, e2⟩, kk⟩
  obtain ⟨fs, rfl⟩ := hφ _ _ _ _ e2
  have I2 := Inv.made (C := T.cls c) I
  obtain ⟨vals, hb, pk⟩ := b.to _ (Value.ref (s.heap.objs.size + 1)) us ws I2.kIn (by rw [← rv.length]; exact l1) (by rw [← rz.length]; exact l2)
  obtain ⟨vs', rv', hl', rep⟩ := pk vs zs rv rz
  have nx : H (s.heap.objs.size + 1) = none := I.hok.fresh (Nat.le_succ _)
  have ndx : H s.heap.objs.size = none := I.hok.fresh (Nat.le_refl _)
  have ne : s.heap.objs.size ≠ s.heap.objs.size + 1 := Nat.ne_of_lt (Nat.lt_succ_self _)
  have hq := make_sp (E := E0) q hl' (rep _ ds es ds' r1 r2 e1) e2 nx ndx ne kk
  refine wpAny_call (make_map (f := f) I.kIn M.makes M.init (beq_iff_eq.mp M.fn) (codeAny_mono (F.run _ X.stack _ _ ⟨Value.ref (s.heap.objs.size + 1) :: us, ks.zip ws⟩ (Value.ref (s.heap.objs.size + 1) :: vals) _ _ E0 (hr.make (T.cls c) us (ks.zip ws))
    (I2.env0.make (T.cls c) us (ks.zip ws)) hb (.cons (show RelV (.ref (s.heap.objs.size + 1)) (Value.ref (s.heap.objs.size + 1)) from rfl) rv') hq) fun r s' hq' => ?_))
  cases r with
  | error e => exact False.elim hq'
  | ok fl => cases fl with
    | ret u =>
      obtain ⟨v, H', I3, rv3, ev, q3⟩ := I2.after hq'
      subst ev
      exact ⟨rv3, ⟨V.ref (s.heap.objs.size + 1), H', I3, rfl, q3⟩⟩
    | _ => exact False.elim hq'
end

section
variable {W : Type} (T : Tab) (K : PySem.W.Frag) (R : WR W)
end
theorem _root_.L2.PK.imp {X : Cx} {kws : List Keyword} {t u : TA} (h : PK X kws t) (i : ∀ σ H Q, u σ H Q → t σ H Q) : PK X kws u := ⟨fun pos pins s σ H Q I q => h.run pos pins s σ H Q I (i σ H Q q)⟩
/-- no star among the arguments, only names among the keywords -/
def noStar : List Expr → Bool
  | [] => true
  | .Starred .. :: _ => false
  | _ :: r => noStar r
def kwNames : List Keyword → Option (List Str)
  | [] => some []
  | ⟨some k, _, _⟩ :: r => (kwNames r).map (k :: ·)
  | _ => none
theorem noStar_cons {e : Expr} {es : List Expr} (h : noStar (e :: es) = true) : noStar es = true ∧ ∀ env, starEach (e :: es) env = (false, eval e env) :: starEach es env := by
  cases e <;> first | (exact ⟨h, fun _ => rfl⟩) | cases h
theorem noStar_any {es : List Expr} (h : noStar es = true) (pos : Pos) (env : Env) : (backTo pos (starEach es env)).any (·.1) = false := by
  induction es with
  | nil => rfl
  | cons e es ih =>
    obtain ⟨h1, h2⟩ := noStar_cons h
    rw [h2 env]
    show (false || (backTo pos (starEach es env)).any (·.1)) = false
    rw [ih h1] <;> rfl
theorem kw_all {kws : List Keyword} {ks : List Str} (h : kwNames kws = some ks) (pos : Pos) (env : Env) : (backToKw pos (keywordEach kws env)).all (·.1.isSome) = true ∧ (backToKw pos (keywordEach kws env)).filterMap (·.1) = ks ∧ (backToKw pos (keywordEach kws env)).any (·.1.isNone) = false := by
  induction kws generalizing ks with
  | nil => cases h; exact ⟨rfl, rfl, rfl⟩
  | cons k kws ih =>
    obtain ⟨nm, v, p⟩ := k
    cases nm with
    | none => cases h
    | some nm =>
      have h : (kwNames kws).map (nm :: ·) = some ks := h
      cases e : kwNames kws with
      | none => rw [e] at h; cases h
      | some r =>
        rw [e] at h
        cases h
        obtain ⟨a, b, c⟩ := ih e
        refine ⟨?_, ?_, ?_⟩
        · show (true && (backToKw pos (keywordEach kws env)).all (·.1.isSome)) = true
          rw [a] <;> rfl
        · show nm :: (backToKw pos (keywordEach kws env)).filterMap (·.1) = nm :: r
          rw [b]
        · show (false || (backToKw pos (keywordEach kws env)).any (·.1.isNone)) = false
          rw [c] <;> rfl
section
variable {X : Cx} {es : List Expr} {kws : List Keyword} {t tk : TA} {f : Value} {first : List Value} {ks : List Str} {pos : Pos}
/-- the written call of a callee that is known -/
theorem call_with (hk : PySem.W.keepIn X.K f = true) (ha : PA X es t) (hkw : PK X kws tk) (hs : noStar es = true) (hks : kwNames kws = some ks) {pins : List (Addr × Obj)} {s : Shared} {σ : L2.St} {H : Hp} {Q : Value → Shared → Prop} {P : List V → List V → Hp → Prop}
    (I : Inv X pins σ H s) (h : t σ H fun vs H1 => tk σ H1 fun zs H2 => P vs zs H2)
    (go : ∀ us ws s2 vs zs H2, Inv X pins σ H2 s2 → Vals vs us → Vals zs ws → P vs zs H2 → wpAny (model X.prog X.w) X.A (call f (first ++ us) (ks.zip ws)) Q X.xe s2) :
    wpAny (model X.prog X.w) X.A (callWith pos f first (backTo pos (starEach es X.env)) (backToKw pos (keywordEach kws X.env))) Q X.xe s := by
  obtain ⟨k1, k2, k3⟩ := kw_all hks pos X.env
  have step1 := ha.run pos pins s σ H _ I h
  cases es with
  | nil =>
    intro Γ p0 hΓ
    obtain ⟨vs, H1, I1, r1, q1⟩ := (show AP X pins σ _ [] s from step1 Γ p0 hΓ)
    have step2 := hkw.run pos pins s σ H1 _ I1 q1
    cases kws with
    | nil =>
      obtain ⟨zs, H2, I2, r2, q2⟩ := (show AP X pins σ _ [] s from step2 Γ p0 hΓ)
      cases hks
      exact PySem.W.callWith_K0 I.kIn hk (go [] [] s vs zs H2 I2 r1 r2 q2) Γ p0 hΓ
    | cons kw kws =>
      refine PySem.W.callWith_KW0 (h₀ := X.base) I.ok.mod.kin hk k1 (thn step2 fun ws s2 ⟨zs, H2, I2, r2, q2⟩ => ⟨I2.kIn, ?_⟩) (by rw [k3]; rfl) Γ p0 hΓ
      rw [k2]
      exact go [] ws s2 vs zs H2 I2 r1 r2 q2
  | cons e es =>
    obtain ⟨h1, h2⟩ := noStar_cons hs
    cases kws with
    | nil =>
      refine PySem.W.callWith_K (h₀ := X.base) I.ok.mod.kin hk (thn step1 fun us s1 ⟨vs, H1, I1, r1, q1⟩ => ⟨I1.kIn, ?_⟩) (h2 _) (noStar_any h1 _ _)
      have step2 := hkw.run pos pins s1 σ H1 _ I1 q1
      intro Γ p0 hΓ
      obtain ⟨zs, H2, I2, r2, q2⟩ := (show AP X pins σ _ [] s1 from step2 Γ p0 hΓ)
      cases hks
      exact go us [] s1 vs zs H2 I2 r1 r2 q2 Γ p0 hΓ
    | cons kw kws =>
      refine PySem.W.callWith_KW (h₀ := X.base) I.ok.mod.kin hk k1 (thn step1 fun us s1 ⟨vs, H1, I1, r1, q1⟩ => thn (hkw.run pos pins s1 σ H1 _ I1 q1) fun ws s2 ⟨zs, H2, I2, r2, q2⟩ => ⟨I2.kIn, ?_⟩) (by rw [noStar_any hs, k3]; rfl) (h2 _)
      rw [k2]
      exact go us ws s2 vs zs H2 I2 r1 r2 q2
end
end Mi
namespace Mi
open PySem PySem.Spec L2
open PyProof.Rows hiding St

/-- a callee: how arguments come to parameters, what it does -/
structure Cal (W : Type) where
  n : Nat
  pl : List D → List D → Option (List D)
  fn : List D → W → Option (D × W)
section
variable {W : Type}
def plAll (ds _es : List D) : Option (List D) := some ds
/-- the callee does its work -/
def eGo (c : Cal W) (m : Nat) (ds es : List D) (st : S W) : Option (D × S W) := if ds.length = c.n ∧ es.length = m then (match c.pl ds es with
  | some ds' => (match c.fn ds' st.w with
    | some (d, w') => some (d, { st with w := w' })
    | none => none)
  | none => none) else none
def eCall (c : Cal W) (m : Nat) (f g : As W) : Ex W := fun st => match f st with
  | some (ds, st1) => (match g st1 with
    | some (es, st2) => eGo c m ds es st2
    | none => none)
  | none => none
/-- o.m(..), by o's class -/
def eMeth (mt : Nat → Option (Cal W)) (nm : Str) (m : Nat) (a : Ex W) (f g : As W) : Ex W := fun st => match a st with
  | some (.ins c fs, st1) => (match fs.lookup nm with
    | some _ => none
    | none => (match f st1 with
      | some (ds, st2) => (match g st2 with
        | some (es, st3) => (match mt c with
          | some cd => eGo cd m (.ins c fs :: ds) es st3
          | none => none)
        | none => none)
      | none => none))
  | _ => none
/-- o.f: an attribute of its own, or a property of its class -/
def eAttr (cs : List Nat) (pt : Nat → Option (Cal W)) (nm : Str) (a : Ex W) : Ex W := fun st => match a st with
  | some (.ins c fs, st1) => (match pt c with
    | some cd => eGo cd 0 [.ins c fs] [] st1
    | none => if cs.contains c = true then (match fs.lookup nm with
      | some d => some (d, st1)
      | none => none) else none)
  | _ => none
end
section
variable {W : Type} {T : Tab} {R : WR W} {X : Cx} {es : List Expr} {kws : List Keyword} {f g : As W} {ks : List Str} {pos p apos : Pos} {c : Cal W} {x nm : Str} {u : Value} {m : Nat} {o e : Expr}
/-- from the callee's own work to its reading -/
theorem go_cal {hd : Hid} {st st' : S W} {σ : L2.St} {H : Hp} {fp : List Addr} {vs zs : List V} {ds es : List D} {d : D} {Q : VK} {n : Nat} (q : SR T X.K R hd st σ H fp) (r1 : Reps T X.K (still hd st σ H fp) vs ds) (r2 : Reps T X.K (still hd st σ H fp) zs es) (h : eGo c m ds es st = some (d, st'))
    (k : ∀ v H' fp', SR T X.K R hd st' σ H' fp' → Le (still hd st σ H fp) (still hd st' σ H' fp') → Rep T X.K (still hd st' σ H' fp') v d → Q v H') : vs.length = c.n ∧ zs.length = m ∧ rCal T X.K R c.pl c.fn vs zs H Q := by
  unfold eGo at h
  split at h
  · rename_i hl
    split at h
    · rename_i ds' h1
      split at h
      · rename_i d' w' h2
        cases h
        exact ⟨by rw [r1.length]; exact hl.1, by rw [r2.length]; exact hl.2, σ, hd, st, fp, ds, es, d, w', q, r1, r2, ⟨ds', h1, h2⟩, k⟩
      · cases h
    · cases h
  · cases h
theorem te_callN (hg : Gl X x) (hm : X.mg x = some u) (hdb : (x == ("__debug__" : Str)) = false) (hk : PySem.W.keepIn X.K u = true) (cal : CalV X u c.n ks (rCal T X.K R c.pl c.fn)) (ha : PA X es (tA T X.K R f)) (hkw : PK X kws (tA T X.K R g)) (hs : noStar es = true) (hks : kwNames kws = some ks) :
    PE X (.Call (.Name x p) es kws pos) (tE T X.K R (eCall c ks.length f g)) := by
  refine ⟨fun pins s σ H Q I ⟨st, fp, hd, q, d, st', h', k⟩ => ?_⟩
  unfold eCall at h'
  split at h'
  · rename_i ds st1 h1
    split at h'
    · rename_i es' st2 h2
      refine wpAny_Call_Name_kw (ld_glob I hg hm ?_ hdb)
      refine call_with (first := []) (P := fun vs zs H2 => vs.length = c.n ∧ zs.length = ks.length ∧ rCal T X.K R c.pl c.fn vs zs H2 Q) hk ha hkw hs hks I
        ⟨st, fp, hd, q, ds, st1, h1, fun vs H1 fp1 q1 l1 r1 => ⟨st1, fp1, hd, q1, es', st2, h2, fun zs H2 fp2 q2 l2 r2 => go_cal (X := X) (n := 0) q2 (r1.up l2.up) r2 h' fun v H' fp' q3 l3 r3 => k v H' fp' q3 ((l1.trans l2).trans l3) r3⟩⟩
        fun us ws s2 vs zs H2 I2 rv rz ⟨n1, n2, hq⟩ => cal pins s2 σ H2 vs zs us ws Q I2 rv rz n1 n2 hq
    · cases h'
  · cases h'
/-- what the text's methods are -/
def MethOk (T : Tab) (R : WR W) (X : Cx) (nm : Str) (ks : List Str) (mt : Nat → Option (Cal W)) : Prop := ∀ c cd, mt c = some cd → ∃ fm, Cls X.K (T.cls c) ∧ Meth X.K (T.cls c) nm fm ∧ CalV X (.ref fm) cd.n ks (rCal T X.K R cd.pl cd.fn)
theorem te_meth {mt : Nat → Option (Cal W)} {a : Ex W} {pl : Sem Bool} (ho : PE X o (tE T X.K R a)) (hmt : MethOk T R X nm ks mt) (ha : PA X es (tA T X.K R f)) (hkw : PK X kws (tA T X.K R g)) (hs : noStar es = true) (hks : kwNames kws = some ks)
    (ht : eval (.Call (.Attribute o nm apos) es kws pos) X.env = (do
      let ov ← eval o X.env
      standAt apos.atName
      let (f, first) ← holding [ov] (getMethod ov nm pl)
      callWith pos f first (backTo pos (starEach es X.env)) (backToKw pos (keywordEach kws X.env)))) :
    PE X (.Call (.Attribute o nm apos) es kws pos) (tE T X.K R (eMeth mt nm ks.length a f g)) := by
  refine ⟨fun pins s σ H Q I ⟨st, fp, hd, q, d, st', h', k⟩ => ?_⟩
  unfold eMeth at h'
  split at h'
  · rename_i cc fs st1 h1
    split at h'
    · cases h'
    · rename_i hl
      split at h'
      · rename_i ds st2 h2
        split at h'
        · rename_i es' st3 h3
          split at h'
          · rename_i cd hcd
            obtain ⟨fm, cls, me, cal⟩ := hmt cc cd hcd
            refine PySem.W.methodCall_KW (pl := pl) (thn (ho.run pins s σ H (fun v H1 => ∃ ad dx vs0, v = .ref ad ∧ H1 ad = some (.ins (T.cls cc) dx vs0) ∧ vs0.lookup nm = none ∧
              tA T X.K R f σ H1 fun vs H2 => tA T X.K R g σ H2 fun zs H3 => (V.ref ad :: vs).length = cd.n ∧ zs.length = ks.length ∧ rCal T X.K R cd.pl cd.fn (V.ref ad :: vs) zs H3 Q) I ⟨st, fp, hd, q, _, st1, h1, fun v H1 fp1 q1 l1 r1 => ?_⟩) fun ov s1 ⟨v, H1, I1, rv, ad, dx, vs0, ev, eh, hn, hh⟩ => ?_) ht
            · cases r1 with
              | ins z rf =>
                refine ⟨_, _, _, rfl, still_le _ _ z, rf.lookup.2 hl, st1, fp1, hd, q1, ds, st2, h2, fun vs H2 fp2 q2 l2 r2 => ⟨st2, fp2, hd, q2, es', st3, h3, fun zs H3 fp3 q3 l3 r3 => ?_⟩⟩
                exact go_cal (X := X) (n := 0) q3 (.cons (.ins ((l2.trans l3) _ _ z) (rf.up (l2.trans l3).up)) (r2.up l3.up)) r3 h' fun v H' fp' q4 l4 r4 => k v H' fp' q4 (((l1.trans l2).trans l3).trans l4) r4
            · subst ev
              obtain rfl : ov = Value.ref ad := rv
              refine getmeth_ok I1 eh cls me hn ?_
              exact call_with (first := [.ref ad]) (f := .ref fm) me.kp ha hkw hs hks I1 hh fun us ws s2 vs zs H2 I2 rv rz ⟨n1, n2, hq⟩ =>
                cal pins s2 σ H2 (V.ref ad :: vs) zs (Value.ref ad :: us) ws Q I2 (.cons (show RelV (.ref ad) (Value.ref ad) from rfl) rv) rz n1 n2 hq
          · cases h'
        · cases h'
      · cases h'
  · cases h'
/-- what the text's attributes are -/
structure AttrOk (T : Tab) (R : WR W) (X : Cx) (nm : Str) (cs : List Nat) (pt : Nat → Option (Cal W)) : Prop where
  fld : ∀ c ∈ cs, Cls X.K (T.cls c) ∧ NoAttr X.K (T.cls c) nm
  prop : ∀ c cd, pt c = some cd → ∃ pr ge, Cls X.K (T.cls c) ∧ PropOf X.K (T.cls c) nm pr ge ∧ ∀ (pins : List (Addr × Obj)) (s : Shared) (σ : L2.St) (H : Hp) (a : Addr) (Q : VK) (E' : Value → Shared → Prop) (dx : Addr) (vs : List (Str × V)), Inv X pins σ H s → H a = some (.ins (T.cls c) dx vs) → [V.ref a].length = cd.n →
    rCal T X.K R cd.pl cd.fn [.ref a] [] H Q → wpAny (model X.prog X.w) X.A (getAttr (.ref a) nm true) (EP X pins σ Q) E' s
theorem te_attr {cs : List Nat} {pt : Nat → Option (Cal W)} {a : Ex W} (ho : PE X o (tE T X.K R a)) (hat : AttrOk T R X nm cs pt) (hb : attributeBase o nm X.env (eval o X.env) = eval o X.env) : PE X (.Attribute o nm pos) (tE T X.K R (eAttr cs pt nm a)) := by
  refine ⟨fun pins s σ H Q I ⟨st, fp, hd, q, d, st', h', k⟩ => ?_⟩
  unfold eAttr at h'
  split at h'
  · rename_i cc fs st1 h1
    split at h'
    · rename_i cd hcd
      obtain ⟨pr, ge, cls, po, run⟩ := hat.prop cc cd hcd
      refine attr_of hb (thn (ho.run pins s σ H (fun v H1 => ∃ ad dx vs0, v = .ref ad ∧ H1 ad = some (.ins (T.cls cc) dx vs0) ∧ [V.ref ad].length = cd.n ∧ rCal T X.K R cd.pl cd.fn [V.ref ad] [] H1 Q) I ⟨st, fp, hd, q, _, st1, h1, fun v H1 fp1 q1 l1 r1 => ?_⟩) fun ov s1 ⟨v, H1, I1, rv, ad, dx, vs0, ev, eh, n1, hh⟩ => ?_)
      · cases r1 with
        | ins z rf =>
          obtain ⟨n1, n2, hh⟩ := go_cal (X := X) (n := 0) (zs := []) q1 (.cons (.ins z rf) .nil) .nil h' fun v H' fp' q4 l4 r4 => k v H' fp' q4 (l1.trans l4) r4
          exact ⟨_, _, _, rfl, still_le _ _ z, n1, hh⟩
      · subst ev
        obtain rfl : ov = Value.ref ad := rv
        exact run pins s1 σ H1 ad Q X.xe dx vs0 I1 eh n1 hh
    · split at h'
      · rename_i hc
        split at h'
        · rename_i dd hl
          cases h'
          obtain ⟨cls, na⟩ := hat.fld cc (by simpa using hc)
          refine (pe_fld ho hb).run pins s σ H Q I ⟨st, fp, hd, q, _, _, h1, fun v H1 fp1 q1 l1 r1 => ?_⟩
          cases r1 with
          | ins z rf =>
            obtain ⟨v, hv, rv⟩ := rf.lookup.1 _ hl
            exact ⟨_, _, _, _, v, rfl, still_le _ _ z, cls, na, hv, k v H1 fp1 q1 l1 rv⟩
        · cases h'
      · cases h'
  · cases h'
end

section
variable {W : Type}
def initSl (n : Nat) (ds : List D) : List Slot := ds.map Slot.fz ++ List.replicate (n - ds.length) .un
/-- what a def does: n names, its body -/
def runF (n : Nat) (b : Sm W) (ds : List D) (w : W) : Option (D × W) := match b ⟨initSl n ds, w⟩ with
  | some (.rt d, st) => some (d, st.w)
  | some (.nx, st) => some (.non, st.w)
  | _ => none
/-- what an __init__ of class c does -/
def runI (n c : Nat) (b : Sm W) (ds : List D) (w : W) : Option (D × W) := match b ⟨.ow (.ins c []) :: initSl (n - 1) ds, w⟩ with
  | some (.nx, st) => (match st.sl with
    | .ow (.ins c' fs) :: _ => if c' = c then some (.ins c fs, st.w) else none
    | _ => none)
  | _ => none
end
section
variable {W : Type} {T : Tab} {K : PySem.W.Frag} {R : WR W}
theorem slots_start {H G : Hp} : ∀ {vs : List V} {ds : List D} {n : Nat}, Reps T K G vs ds → SlotsR T K H G (ds.map Slot.fz ++ List.replicate n .un) (vs.map some ++ List.replicate n none)
  | _, _, 0, .nil => .nil
  | _, _, n + 1, .nil => .cons trivial (slots_start (n := n) .nil)
  | _, _, n, .cons r t => .cons r (slots_start (n := n) t)
theorem own_start : ∀ {ds : List D} {vs : List (Option V)} {n : Nat}, ownA (ds.map Slot.fz ++ List.replicate n .un) vs = []
  | [], [], 0 => rfl
  | [], _ :: _, 0 => rfl
  | [], [], n + 1 => rfl
  | [], v :: vs, n + 1 => by cases v <;> exact own_start (ds := []) (vs := vs) (n := n)
  | d :: ds, [], n => rfl
  | d :: ds, v :: vs, n => by cases v <;> exact own_start (ds := ds) (vs := vs) (n := n)
theorem noow_start {ds : List D} {n : Nat} (i c : Nat) (fs : List (Str × D)) : (ds.map Slot.fz ++ List.replicate n .un)[i]? ≠ some (.ow (.ins c fs)) := fun e => by
  rcases List.mem_append.mp (List.mem_of_getElem? e) with z | z
  · obtain ⟨_, _, y⟩ := List.mem_map.mp z
    cases y
  · cases (List.mem_replicate.mp z).2
/-- at a def's entry -/
def hidAt (H G : Hp) (F : List Addr) (fp : List Addr) (me : Option Addr := none) : Hid := ⟨fun a => if a ∈ F then none else if (G a).isSome = true then none else H a, fp, me⟩
theorem hidAt_some {H G : Hp} {F fp : List Addr} {me : Option Addr} {a : Addr} {o : HO} (h : (hidAt H G F fp me).h a = some o) : a ∉ F ∧ G a = none ∧ H a = some o := by
  have h : (if a ∈ F then none else if (G a).isSome = true then none else H a) = some o := h
  split at h
  · cases h
  · rename_i n
    split at h
    · cases h
    · rename_i m
      refine ⟨n, ?_, h⟩
      cases e : G a with
      | none => rfl
      | some u => rw [e] at m; exact absurd rfl m
theorem hidAt_none {H G : Hp} {F fp : List Addr} {me : Option Addr} {a : Addr} (h : a ∈ F ∨ (G a).isSome = true) : (hidAt H G F fp me).h a = none := by
  show (if a ∈ F then none else if (G a).isSome = true then none else H a) = none
  by_cases n : a ∈ F
  · rw [if_pos n]
  · rw [if_neg n, if_pos (h.resolve_left n)]
theorem hidAt_eq {H G : Hp} {F fp : List Addr} {me : Option Addr} {a : Addr} (n : a ∉ F) (m : G a = none) : (hidAt H G F fp me).h a = H a := by
  show (if a ∈ F then none else if (G a).isSome = true then none else H a) = H a
  rw [if_neg n, m]
  rfl
/-- THE RULE for a def, from its body -/
theorem fn_ok {P : Program} {w : World} {mg : Str → Option Value} {base : Heap} {k : Nat} {f : Addr} {fd : FuncData} {x qual : Str} {params : Arguments} {body : List Stmt} {scope : Scope} {dvs : List V} {kws : List (Str × V)} {N ps : List Str} {b : Sm W} (F : FunD K x qual params body scope dvs kws f fd) (sc : FnScope N ps scope)
    (hb : ∀ (cdv : Value) (A : Around) (outer : List Env) (s : Shared) (H : Hp) (E : XK), Room k (A.deeper (envOfC qual scope s.heap.objs.size f cdv)) → PSs (cxOf CX0 P w K mg base N qual scope f cdv A outer s H E) body (tS T K R b)) :
    FnOk P w K mg base CX0 (k + 1) f fd ps (spF T K R (runF N.length b) ps.length) := by
  refine F.ok sc (fun vs H Q E h => h.1) fun cdv A outer s H vs Q E hr ⟨hl, G, w0, fp, ds, lg, nf, r, ok, d, w', hrun, kk⟩ => ⟨_, hb cdv A outer s H E hr, ?_⟩
  have e0 : ownA (initSl N.length ds) (start N vs) = [] := own_start
  have gst : still (hidAt H G fp fp) ⟨initSl N.length ds, w0⟩ (start N vs) H fp = G := by
    funext a
    cases e : G a with
    | some o => exact still_of (by rw [e0]; simp) (nf a o e) (hidAt_none (.inr (by rw [e]; rfl))) (lg a o e)
    | none =>
      cases z : still (hidAt H G fp fp) ⟨initSl N.length ds, w0⟩ (start N vs) H fp a with
      | none => rfl
      | some o =>
        obtain ⟨_, n2, n3, n4⟩ := still_some z
        rw [hidAt_eq n2 e, n4] at n3
        cases n3
  have q0 : SR T K R (hidAt H G fp fp) ⟨initSl N.length ds, w0⟩ (start N vs) H fp := by
    refine ⟨?_, ok, (by rw [e0]; exact List.nodup_nil), fun a ha => (by rw [e0] at ha; cases ha), fun a o e => (hidAt_some e).2.2, fun a ha => hidAt_none (.inl ha), fun a ha => ha, fun i c fs e => absurd e (noow_start i c fs)⟩
    rw [gst]
    show SlotsR T K H G (initSl N.length ds) (start N vs)
    unfold initSl L2.start
    rw [← r.length]
    exact slots_start r
  have fin : ∀ {st' : S W} {v : V} {σ' : L2.St} {H' : Hp} {fp' : List Addr} {d' : D}, SR T K R (hidAt H G fp fp) st' σ' H' fp' → Le (still (hidAt H G fp fp) ⟨initSl N.length ds, w0⟩ (start N vs) H fp) (still (hidAt H G fp fp) st' σ' H' fp') → Rep T K (still (hidAt H G fp fp) st' σ' H' fp') v d' →
      d' = d → st'.w = w' → Q v H' := fun {st' v σ' H' fp' d'} q l rp ed ew => by
    subst ed ew
    rw [gst] at l
    refine kk v H' fp' q.w (fun a ha => q.f0 a ha) (fun a o e => ?_) fun G' lG new => rp.up (Le.up fun a o e => ?_)
    · obtain ⟨n, e⟩ := without_some e
      cases g : G a with
      | some u =>
        have := lg a u g
        rw [e] at this
        cases this
        obtain ⟨_, m2, _, m4⟩ := still_some (l a _ g)
        exact without_of m2 m4
      | none =>
        have hh : (hidAt H G fp fp).h a = some o := by rw [hidAt_eq n g]; exact e
        refine without_of (fun z => ?_) (q.hid a o hh)
        rw [q.hap a z] at hh
        cases hh
    · obtain ⟨_, m2, m3, m4⟩ := still_some e
      cases hH : H a with
      | none => exact new a o hH m2 m4
      | some u =>
        cases g : G a with
        | none =>
          have nfp : a ∉ fp := fun z => m2 (q.f0 a z)
          rw [hidAt_eq nfp g, hH] at m3
          cases m3
        | some u' =>
          have := l a u' g
          rw [e] at this
          cases this
          exact lG a _ g
  unfold runF at hrun
  split at hrun
  · rename_i d0 st0 h0
    cases hrun
    exact ⟨_, fp, _, q0, .rt d, st0, h0, fun v σ' H' fp' q l rp => fin q l rp rfl rfl⟩
  · rename_i st0 h0
    cases hrun
    exact ⟨_, fp, _, q0, .nx, st0, h0, fun σ' H' fp' q l => fin q l .non rfl rfl⟩
  · cases hrun
end
end Mi
namespace Mi
open PySem PySem.Spec L2
open PyProof.Rows hiding St

theorem ownA_ow : ∀ {sl : List Slot} {σ : L2.St} {i : Nat} {d d' : D}, sl[i]? = some (.ow d) → ownA (sl.set i (.ow d')) σ = ownA sl σ
  | [], _, i, _, _, e => by simp at e
  | s :: ss, [], i, d, d', e => by cases i <;> cases s <;> simp [ownA]
  | s :: ss, v :: σ, 0, d, d', e => by
    simp at e
    subst e
    cases v with
    | none => rfl
    | some v => cases v <;> rfl
  | s :: ss, v :: σ, i + 1, d, d', e => by
    have ih := ownA_ow (sl := ss) (σ := σ) (i := i) (d := d) (d' := d') (by simpa using e)
    show ownA (s :: ss.set i (.ow d')) (v :: σ) = ownA (s :: ss) (v :: σ)
    cases s with
    | ow d0 => cases v with
      | none => exact ih
      | some x => cases x with
        | ref b => exact congrArg (b :: ·) ih
        | _ => exact ih
    | _ => cases v <;> exact ih
/-- the i-th slot's thing changes, and no other -/
theorem SlotsR.write {T : Tab} {K : PySem.W.Frag} {G : Hp} {a : Addr} {o' : HO} {d d' : D} : ∀ {sl : List Slot} {σ : L2.St} {H : Hp} {i : Nat}, SlotsR T K H G sl σ → (ownA sl σ).Nodup → sl[i]? = some (.ow d) → σ[i]? = some (some (.ref a)) → Own T K (upd H a o') G a d' → SlotsR T K (upd H a o') G (sl.set i (.ow d')) σ := by
  intro sl σ H i h nd e1 e2 own
  refine SlotsR.of_at ?_ fun j s v h1 h2 => ?_
  · rw [List.length_set]; exact h.length
  · by_cases hj : i = j
    · subst hj
      have hl : i < sl.length := (List.getElem?_eq_some_iff.mp e1).1
      rw [List.getElem?_set_self hl] at h1
      cases h1
      rw [e2] at h2
      cases h2
      exact own
    · rw [List.getElem?_set_ne hj] at h1
      refine (h.at_ h1 h2).up (fun b es ev => upd_ne fun z => ?_) (Up.refl _)
      subst z
      obtain ⟨d1, rfl⟩ : ∃ d1, s = .ow d1 := ⟨_, es⟩
      -- two slots of one address
      have pl := ownA_pull (s := Slot.un) e1 e2 rfl
      have ndp := pl.nodup_iff.mp nd
      refine (List.nodup_cons.mp ndp).1 ?_
      have h1' : (sl.set i Slot.un)[j]? = some (.ow d1) := by rw [List.getElem?_set_ne hj, h1]
      have h2' : σ[j]? = some (some (.ref b)) := by rw [h2, ev]
      have pl2 := ownA_pull (s := Slot.un) h1' h2' rfl
      exact pl2.mem_iff.mpr List.mem_cons_self
section
variable {W : Type} {T : Tab} {K : PySem.W.Frag} {R : WR W} {hd : Hid} {st : S W} {σ : L2.St} {H : Hp} {fp : List Addr} {i : Nat} {d d' : D} {a p : Addr} {o o' : HO}
/-- a thing of its own changes -/
theorem SR.write (q : SR T K R hd st σ H fp) (e1 : st.sl[i]? = some (.ow d)) (e2 : σ[i]? = some (some (.ref a))) (hm : ∀ c fs, d' = .ins c fs → ∃ c0 fs0, d = .ins c0 fs0) (own : Own T K (upd H a o') (still hd st σ H fp) a d') :
    SR T K R hd { st with sl := st.sl.set i (.ow d') } σ (upd H a o') fp ∧ still hd { st with sl := st.sl.set i (.ow d') } σ (upd H a o') fp = still hd st σ H fp := by
  have eo : ownA (st.sl.set i (.ow d')) σ = ownA st.sl σ := ownA_ow e1
  have ina : a ∈ ownA st.sl σ := (ownA_pull (s := Slot.un) e1 e2 rfl).mem_iff.mpr List.mem_cons_self
  have es : still hd { st with sl := st.sl.set i (.ow d') } σ (upd H a o') fp = still hd st σ H fp := still_eq (fun b => by rw [show ({ st with sl := st.sl.set i (.ow d') } : S W).sl = st.sl.set i (.ow d') from rfl, eo]) fun b z => upd_ne fun e => z (.inl (e ▸ ina))
  refine ⟨⟨?_, R.at_ _ _ _ _ q.w fun b hb => upd_ne fun e => (q.ap a ina).1 (e ▸ hb), ?_, ?_, fun b u e => ?_, q.hap, q.f0, fun j c fs e => ?_⟩, es⟩
  · rw [es]
    exact q.sl.write q.nd e1 e2 own
  · rw [show ({ st with sl := st.sl.set i (.ow d') } : S W).sl = st.sl.set i (.ow d') from rfl, eo]
    exact q.nd
  · rw [show ({ st with sl := st.sl.set i (.ow d') } : S W).sl = st.sl.set i (.ow d') from rfl, eo]
    exact q.ap
  · rw [upd_ne (fun z => by subst z; rw [(q.ap b ina).2] at e; cases e)]
    exact q.hid b u e
  · have e : (st.sl.set i (.ow d'))[j]? = some (.ow (.ins c fs)) := e
    by_cases hj : i = j
    · subst hj
      rw [List.getElem?_set_self (List.getElem?_eq_some_iff.mp e1).1] at e
      obtain ⟨c0, fs0, e0⟩ := hm c fs (Slot.ow.inj (Option.some.inj e))
      rw [e0] at e1
      exact q.me i c0 fs0 e1
    · rw [List.getElem?_set_ne hj] at e
      exact q.me j c fs e
/-- a name gets a new thing of its own -/
theorem SR.setOw (q : SR T K R hd st σ H fp) (i : Nat) (hd' : ∀ c fs, d ≠ .ins c fs) (n : H p = none) (own : Own T K (upd H p o) (still hd st σ H fp) p d) :
    SR T K R hd { st with sl := st.sl.set i (.ow d) } (σ.set i (some (.ref p))) (upd H p o) fp ∧ Le (still hd st σ H fp) (still hd { st with sl := st.sl.set i (.ow d) } (σ.set i (some (.ref p))) (upd H p o) fp) := by
  obtain ⟨n1, n2, n3⟩ := q.notin n
  have len := q.sl.length
  by_cases hi : i < st.sl.length
  · have pl := ownA_set_ow (sl := st.sl) (σ := σ) (i := i) (d := d) (a := p) hi (by omega)
    have sub := ownA_set_sub (sl := st.sl) (σ := σ) (s := .un) i (some (.ref p)) rfl
    have mem : ∀ b ∈ ownA (st.sl.set i (.ow d)) (σ.set i (some (.ref p))), b = p ∨ b ∈ ownA st.sl σ := fun b hb => by
      rcases List.mem_cons.mp (pl.mem_iff.mp hb) with z | z
      · exact .inl z
      · exact .inr (sub.subset z)
    have le : Le (still hd st σ H fp) (still hd { st with sl := st.sl.set i (.ow d) } (σ.set i (some (.ref p))) (upd H p o) fp) := fun b u e => by
      obtain ⟨m1, m2, m3, e⟩ := still_some e
      have nb : b ≠ p := fun z => by subst z; rw [n] at e; cases e
      exact still_of (fun z => (mem b z).elim nb m1) m2 m3 (by rw [upd_ne nb]; exact e)
    refine ⟨⟨?_, R.at_ _ _ _ _ q.w fun b hb => upd_ne fun e => n2 (e ▸ hb), ?_, fun b hb => ?_, fun b u e => ?_, q.hap, q.f0, fun j c fs e => me_set q e fun c fs z => hd' c fs (Slot.ow.inj z)⟩, le⟩
    · refine SlotsR.set i (q.sl.up (fun b hb => upd_ne fun e => n1 (e ▸ hb)) le.up) ?_
      exact own.up rfl le.up
    · rw [show ({ st with sl := st.sl.set i (.ow d) } : S W).sl = st.sl.set i (.ow d) from rfl]
      exact pl.nodup_iff.mpr (List.nodup_cons.mpr ⟨fun z => n1 (sub.subset z), q.nd.sublist sub⟩)
    · rcases mem b hb with e | z
      · subst e; exact ⟨n2, n3⟩
      · exact q.ap b z
    · rw [upd_ne (fun z => by subst z; rw [n3] at e; cases e)]
      exact q.hid b u e
  · have e1 : st.sl.set i (.ow d) = st.sl := List.set_eq_of_length_le (by omega)
    have e2 : σ.set i (some (V.ref p)) = σ := List.set_eq_of_length_le (by omega)
    rw [e1, e2]
    exact ⟨q.grow (le_upd n), still_grow q (le_upd n)⟩
end
section
variable {W : Type}
/-- x = a new thing -/
def sOwn (i : Nat) (f : Ex W) : Sm W := fun st => match f st with
  | some (.ins _ _, _) => none
  | some (d, st1) => some (.nx, { st1 with sl := st1.sl.set i (.ow d) })
  | none => none
def putD (f : Str) (v : D) : List (Str × D) → List (Str × D)
  | [] => [(f, v)]
  | (g, x) :: r => if g = f then (g, v) :: r else (g, x) :: putD f v r
/-- x.f = e, x a thing of its own -/
def sSetF (i : Nat) (cs : List Nat) (nm : Str) (f : Ex W) : Sm W := fun st => match f st with
  | some (d, st1) => (match st1.sl[i]? with
    | some (.ow (.ins c fs)) => if cs.contains c = true ∧ fs.length < 1000 then some (.nx, { st1 with sl := st1.sl.set i (.ow (.ins c (putD nm d fs))) }) else none
    | _ => none)
  | none => none
/-- x.append(e) -/
def sApp (i : Nat) (f : Ex W) : Sm W := fun st => match st.sl[i]? with
  | some (.ow (.lst _)) => (match f st with
    | some (d, st1) => (match st1.sl[i]? with
      | some (.ow (.lst l)) => if l.length < sizeLine then some (.nx, { st1 with sl := st1.sl.set i (.ow (.lst (l ++ [d]))) }) else none
      | _ => none)
    | none => none)
  | _ => none
/-- x.extend(e), e a list -/
def sExt (i : Nat) (f : Ex W) : Sm W := fun st => match st.sl[i]? with
  | some (.ow (.lst _)) => (match f st with
    | some (.lst m, st1) => (match st1.sl[i]? with
      | some (.ow (.lst l)) => if l.length + m.length ≤ sizeLine then some (.nx, { st1 with sl := st1.sl.set i (.ow (.lst (l ++ m))) }) else none
      | _ => none)
    | _ => none)
  | _ => none
/-- x.pop() -/
def ePop (i : Nat) : Ex W := fun st => match st.sl[i]? with
  | some (.ow (.lst l)) => (match l[l.length - 1]? with
    | some d => some (d, { st with sl := st.sl.set i (.ow (.lst l.dropLast)) })
    | none => none)
  | _ => none
end
theorem RepF.put {T : Tab} {K : PySem.W.Frag} {G : Hp} {f : Str} {v : V} {d : D} (r : Rep T K G v d) : ∀ {vs : List (Str × V)} {fs : List (Str × D)}, RepF T K G vs fs → RepF T K G (putF f v vs) (putD f d fs)
  | _, _, .nil => .cons r .nil
  | _, _, .cons (f := g) r0 t => by
    unfold putF putD
    by_cases e : g = f
    · rw [if_pos e, if_pos e]; exact .cons r t
    · rw [if_neg e, if_neg e]; exact .cons r0 (RepF.put r t)
theorem RepF.length {T : Tab} {K : PySem.W.Frag} {G : Hp} : ∀ {vs : List (Str × V)} {fs : List (Str × D)}, RepF T K G vs fs → vs.length = fs.length
  | _, _, .nil => rfl
  | _, _, .cons _ t => congrArg Nat.succ (RepF.length t)
section
variable {W : Type} {T : Tab} {R : WR W} {X : Cx} {e value o : Expr} {es : List Expr} {s : Stmt} {pos pos' apos cpos : Pos} {i : Nat} {nm x : Str} {f : Ex W}
/-- the slot of a thing of its own -/
theorem own_at {K : PySem.W.Frag} {hd : Hid} {st : S W} {σ : L2.St} {H : Hp} {fp : List Addr} {d : D} (q : SR T K R hd st σ H fp) (e : st.sl[i]? = some (.ow d)) : ∃ a, σ[i]? = some (some (.ref a)) ∧ Own T K H (still hd st σ H fp) a d := by
  obtain ⟨v, hv, r⟩ := q.sl.get e
  cases v with
  | none => exact r.elim
  | some v => cases v with
    | ref a => exact ⟨a, hv, r⟩
    | _ => exact r.elim
theorem own_lst {K : PySem.W.Frag} {H G : Hp} {a : Addr} {l : List D} (h : Own T K H G a (.lst l)) : ∃ xs, H a = some (.lst xs) ∧ Reps T K G xs l := by
  cases h with
  | lst x r => exact ⟨_, x, r⟩
theorem own_ins {K : PySem.W.Frag} {H G : Hp} {a : Addr} {c : Nat} {fs : List (Str × D)} (h : Own T K H G a (.ins c fs)) : ∃ dx vs, H a = some (.ins (T.cls c) dx vs) ∧ RepF T K G vs fs := by
  cases h with
  | ins x r => exact ⟨_, _, x, r⟩
theorem own_imp {K : PySem.W.Frag} {D : Ends} {σ : L2.St} {H : Hp} : tS T K R (sOwn i f) D σ H → tAsg (tF T K R f) (gName i) D σ H := fun ⟨st, fp, hd, q, o, st', h', k⟩ => by
  unfold sOwn at h'
  split at h'
  · cases h'
  · rename_i d st1 hni h1
    cases h'
    have hn : ∀ c fs, d ≠ .ins c fs := fun c fs z => hni c fs z
    exact ⟨st, fp, hd, q, d, st1, h1, fun p o H1 fp1 q1 l1 n own => k _ _ fp1 (q1.setOw i hn n own).1 (l1.trans (q1.setOw i hn n own).2)⟩
  · cases h'
theorem ts_own {t : TS} (h : PE X e (tF T X.K R f)) (hh : ∀ te : TE, PE X e te → PS X s (tAsg te (gName i))) : PS X s (tS T X.K R (sOwn i f)) := (hh _ h).imp fun D σ H h => own_imp h
theorem ts_setF {cs : List Nat} (hx : PE X o (tVar i)) (hv : PE X value (tE T X.K R f)) (hs : swapsWith value (some (.Attribute o nm pos')) pos.line X.env = pure false) (hat : ∀ c ∈ cs, Cls X.K (T.cls c) ∧ NoAttr X.K (T.cls c) nm) :
    PS X (.Assign [.Attribute o nm pos'] value pos) (tS T X.K R (sSetF i cs nm f)) := (ps_fld hx hv hs).imp fun D σ H ⟨st, fp, hd, q, o, st', h', k⟩ => by
  unfold sSetF at h'
  split at h'
  · rename_i d st1 h1
    split at h'
    · rename_i c fs hsl
      split at h'
      · rename_i hc
        cases h'
        refine ⟨st, fp, hd, q, d, st1, h1, fun v H1 fp1 q1 l1 r1 => ?_⟩
        obtain ⟨a, ha, own⟩ := own_at q1 hsl
        obtain ⟨dx, vs, hh, rf⟩ := own_ins own
        obtain ⟨cl, na⟩ := hat c (by simpa using hc.1)
        have w := q1.write (o' := .ins (T.cls c) dx (putF nm v vs)) hsl ha (fun _ _ _ => ⟨_, _, rfl⟩) (.ins upd_same (rf.put r1))
        exact ⟨_, ha, a, _, dx, vs, rfl, hh, cl, na, by rw [rf.length]; exact hc.2, k _ _ fp1 w.1 (l1.trans (by rw [w.2]; exact Le.refl _))⟩
      · cases h'
    · cases h'
  · cases h'
theorem ts_app {te : TA → TE} (hx : PE X o (tVar i)) (ha : PA X [e] (tA T X.K R (aCons f aNil))) (hm : ∀ t : TA, PA X [e] t → PE X value (tBM X.K "list" rAppend (tVar i) t)) (hs : swapsWith value none pos.line X.env = pure false) :
    PS X (.Expr value pos) (tS T X.K R (sApp i f)) := (ps_expr (hm _ ha) hs).imp fun D σ H ⟨st, fp, hd, q, o, st', h', k⟩ => by
  unfold sApp at h'
  split at h'
  · rename_i l0 h0
    split at h'
    · rename_i d st1 h1
      split at h'
      · rename_i l hsl
        split at h'
        · rename_i hc
          cases h'
          obtain ⟨a, ha, own⟩ := own_at q h0
          obtain ⟨xs, hh, rx⟩ := own_lst own
          refine ⟨_, ha, Or.inl ⟨rfl, _, SqL.of hh⟩, st, fp, hd, q, [d], st1, by unfold aCons aNil; rw [h1], fun vs H1 fp1 q1 l1 r1 => ?_⟩
          obtain ⟨v, rfl, rv⟩ := reps1 r1
          obtain ⟨a1, ha1, own1⟩ := own_at q1 hsl
          rw [ha] at ha1
          cases ha1
          obtain ⟨ys, hh1, ry⟩ := own_lst own1
          have w := q1.write (o' := .lst (ys ++ [v])) hsl ha (fun _ _ z => by cases z) (.lst upd_same (ry.snoc rv))
          exact ⟨a, ys, v, rfl, rfl, hh1, by rw [ry.length]; exact hc, k _ _ fp1 w.1 (l1.trans (by rw [w.2]; exact Le.refl _))⟩
        · cases h'
      · cases h'
    · cases h'
  · cases h'
theorem ts_ext {te : TA → TE} (hx : PE X o (tVar i)) (ha : PA X [e] (tA T X.K R (aCons f aNil))) (hm : ∀ t : TA, PA X [e] t → PE X value (tBM X.K "list" rExtend (tVar i) t)) (hs : swapsWith value none pos.line X.env = pure false) :
    PS X (.Expr value pos) (tS T X.K R (sExt i f)) := (ps_expr (hm _ ha) hs).imp fun D σ H ⟨st, fp, hd, q, o, st', h', k⟩ => by
  unfold sExt at h'
  split at h'
  · rename_i l0 h0
    split at h'
    · rename_i m st1 h1
      split at h'
      · rename_i l hsl
        split at h'
        · rename_i hc
          cases h'
          obtain ⟨a, ha, own⟩ := own_at q h0
          obtain ⟨xs, hh, rx⟩ := own_lst own
          refine ⟨_, ha, Or.inl ⟨rfl, _, SqL.of hh⟩, st, fp, hd, q, [.lst m], st1, by unfold aCons aNil; rw [h1], fun vs H1 fp1 q1 l1 r1 => ?_⟩
          obtain ⟨v, rfl, rv⟩ := reps1 r1
          obtain ⟨a1, ha1, own1⟩ := own_at q1 hsl
          rw [ha] at ha1
          cases ha1
          obtain ⟨ys, hh1, ry⟩ := own_lst own1
          cases rv with
          | lst z rz =>
            have w := q1.write (o' := .lst (ys ++ _)) hsl ha (fun _ _ z => by cases z) (.lst upd_same (ry.append rz))
            exact ⟨a, _, ys, _, rfl, rfl, hh1, still_le _ _ z, by rw [ry.length, rz.length]; exact hc, k _ _ fp1 w.1 (l1.trans (by rw [w.2]; exact Le.refl _))⟩
        · cases h'
      · cases h'
    · cases h'
  · cases h'
theorem Reps.dropLast {K : PySem.W.Frag} {G : Hp} : ∀ {xs : List V} {l : List D}, Reps T K G xs l → Reps T K G xs.dropLast l.dropLast
  | _, _, .nil => .nil
  | _, _, .cons r .nil => .nil
  | _, _, .cons r (.cons r2 t) => .cons r (Reps.dropLast (.cons r2 t))
theorem te_pop (hm : PE X e (tBM0 X.K "list" rPop (tVar i))) : PE X e (tE T X.K R (ePop i)) := hm.imp fun σ H Q ⟨st, fp, hd, q, d, st', h', k⟩ => by
  unfold ePop at h'
  split at h'
  · rename_i l hsl
    split at h'
    · rename_i d0 hl
      cases h'
      obtain ⟨a, ha, own⟩ := own_at q hsl
      obtain ⟨ys, hh1, ry⟩ := own_lst own
      obtain ⟨v, hv, rv⟩ := ry.get hl
      have w := q.write (o' := .lst ys.dropLast) hsl ha (fun _ _ z => by cases z) (.lst upd_same ry.dropLast)
      refine ⟨_, ha, Or.inl ⟨rfl, _, SqL.of hh1⟩, a, ys, v, rfl, rfl, hh1, by rw [ry.length]; exact hv, k v _ fp w.1 (by rw [w.2]; exact Le.refl _) (by rw [w.2]; exact rv)⟩
    · cases h'
  · cases h'
end

theorem own_start1 {ds : List D} {vs : List (Option V)} {n : Nat} {d : D} {a : Addr} : ownA (.ow d :: (ds.map Slot.fz ++ List.replicate n .un)) (some (.ref a) :: vs) = [a] := by
  show a :: ownA _ _ = [a]
  rw [own_start]
section
variable {W : Type} {T : Tab} {K : PySem.W.Frag} {R : WR W}
/-- THE RULE for an __init__, from its body -/
theorem init_ok {P : Program} {w : World} {mg : Str → Option Value} {base : Heap} {k c : Nat} {f : Addr} {fd : FuncData} {x qual : Str} {params : Arguments} {body : List Stmt} {scope : Scope} {dvs : List V} {kws : List (Str × V)} {N ps : List Str} {b : Sm W} (F : FunD K x qual params body scope dvs kws f fd) (sc : FnScope N ps scope) (hps : 0 < ps.length)
    (hb : ∀ (cdv : Value) (A : Around) (outer : List Env) (s : Shared) (H : Hp) (E : XK), Room k (A.deeper (envOfC qual scope s.heap.objs.size f cdv)) → PSs (cxOf CX0 P w K mg base N qual scope f cdv A outer s H E) body (tS T K R b)) :
    FnOk P w K mg base CX0 (k + 1) f fd ps (spI T K R (runI N.length c b) c ps.length) := by
  refine F.ok sc (fun vs H Q E h => h.1) fun cdv A outer s H vs Q E hr ⟨hl, x, dx, ws, ev, hx, G, w0, fp, ds, lg, nf, gx, xfp, r, ok, fs, w', hrun, kk⟩ => ⟨_, hb cdv A outer s H E hr, ?_⟩
  subst ev
  have hN : 0 < N.length := by
    have := congrArg List.length sc.pre
    rw [List.length_take] at this
    omega
  have e0 : ownA (.ow (.ins c []) :: initSl (N.length - 1) ds) (L2.start N (V.ref x :: ws)) = [x] := own_start1
  have gst : still (hidAt H G (x :: fp) fp (some x)) ⟨.ow (.ins c []) :: initSl (N.length - 1) ds, w0⟩ (L2.start N (V.ref x :: ws)) H fp = G := by
    funext a
    cases e : G a with
    | some o =>
      refine still_of (fun z => ?_) (nf a o e) (hidAt_none (.inr (by rw [e]; rfl))) (lg a o e)
      rw [e0] at z
      rw [List.mem_singleton.mp z, gx] at e
      cases e
    | none =>
      cases z : still (hidAt H G (x :: fp) fp (some x)) ⟨.ow (.ins c []) :: initSl (N.length - 1) ds, w0⟩ (L2.start N (V.ref x :: ws)) H fp a with
      | none => rfl
      | some o =>
        obtain ⟨n1, n2, n3, n4⟩ := still_some z
        have nx : a ≠ x := fun y => n1 (by rw [e0, y]; exact List.mem_singleton.mpr rfl)
        rw [hidAt_eq (by simp [nx, n2]) e, n4] at n3
        cases n3
  have q0 : SR T K R (hidAt H G (x :: fp) fp (some x)) ⟨.ow (.ins c []) :: initSl (N.length - 1) ds, w0⟩ (L2.start N (V.ref x :: ws)) H fp := by
    refine ⟨?_, ok, (by rw [e0]; exact List.nodup_cons.mpr ⟨by simp, List.nodup_nil⟩), fun a ha => ?_, fun a o e => (hidAt_some e).2.2, fun a ha => hidAt_none (.inl (List.mem_cons_of_mem _ ha)), fun a ha => ha, fun i c0 fs0 e => ?_⟩
    · rw [gst]
      show SlotsR T K H G (.ow (.ins c []) :: initSl (N.length - 1) ds) (some (V.ref x) :: (ws.map some ++ List.replicate (N.length - (ws.length + 1)) none))
      refine .cons (.ins hx .nil) ?_
      unfold initSl
      rw [← r.length, show N.length - (ws.length + 1) = N.length - 1 - ws.length by omega]
      exact slots_start r
    · rw [e0] at ha
      rw [List.mem_singleton.mp ha]
      exact ⟨xfp, hidAt_none (.inl List.mem_cons_self)⟩
    · cases i with
      | zero => exact ⟨x, rfl, rfl⟩
      | succ i => exact absurd e (noow_start i c0 fs0)
  unfold runI at hrun
  split at hrun
  · rename_i st0 h0
    split at hrun
    · rename_i c' fs' tl hsl
      split at hrun
      · rename_i hc
        cases hrun
        refine ⟨_, fp, _, q0, .nx, st0, h0, fun σ' H' fp' q l => ?_⟩
        rw [gst] at l
        subst hc
        have hs0 : st0.sl[0]? = some (.ow (.ins c' fs)) := by rw [hsl]; rfl
        obtain ⟨a1, ha1, own1⟩ := own_at q hs0
        obtain ⟨dx1, zs, hz, rz⟩ := own_ins own1
        -- the instance is the one it was
        have key : ∀ b o, b ∉ x :: fp → H b = some o → b ∉ fp' ∧ H' b = some o := fun b o n e => by
          cases g : G b with
          | some u =>
            have := lg b u g
            rw [e] at this
            cases this
            obtain ⟨_, m2, _, m4⟩ := still_some (l b _ g)
            exact ⟨m2, m4⟩
          | none =>
            have hh : (hidAt H G (x :: fp) fp (some x)).h b = some o := by rw [hidAt_eq n g]; exact e
            exact ⟨fun z => (by rw [q.hap b z] at hh; cases hh), q.hid b o hh⟩
        obtain ⟨a2, em, ea⟩ := q.me 0 c' fs hs0
        rw [ha1] at ea
        cases ea
        cases em
        have inx : x ∈ ownA st0.sl σ' := (ownA_pull (s := Slot.un) hs0 ha1 rfl).mem_iff.mpr List.mem_cons_self
        refine kk H' fp' dx1 zs q.w (fun a ha => q.f0 a ha) (q.ap x inx).1 (fun a o e => ?_) hz fun G' lG new => rz.up (Le.up fun a o e => ?_)
        · obtain ⟨n, e⟩ := without_some e
          obtain ⟨m1, m2⟩ := key a o n e
          exact without_of (fun z => by
            rcases List.mem_cons.mp z with y | y
            · exact n (by rw [y]; exact List.mem_cons_self)
            · exact m1 y) m2
        · obtain ⟨m1, m2, m3, m4⟩ := still_some e
          cases hH : H a with
          | none => exact new a o hH m2 m4
          | some u =>
            cases g : G a with
            | none =>
              have nfp : a ∉ x :: fp := fun z => by
                rcases List.mem_cons.mp z with y | y
                · exact m1 (by rw [y]; exact inx)
                · exact m2 (q.f0 a y)
              rw [hidAt_eq nfp g, hH] at m3
              cases m3
            | some u' =>
              have := l a u' g
              rw [e] at this
              cases this
              exact lG a _ g
      · cases hrun
    · cases hrun
  · cases hrun
end
end Mi
namespace Mi
open PySem PySem.Spec L2
open PyProof.Rows hiding St

mutual
def pyD : D → Option PyData
  | .non => some .none
  | .bl b => some (.bool b)
  | .int i => some (.int i)
  | .str x => some (.str x)
  | .lst l => (pyDs l).map .list
  | .lok l => (pyDs l).map .list
  | .tup l => (pyDs l).map .tuple
  | .tuq l => (pyDs l).map .tuple
  | _ => none
def pyDs : List D → Option (List PyData)
  | [] => some []
  | d :: ds => (match pyD d with
    | some p => (pyDs ds).map (p :: ·)
    | none => none)
end
section
variable {T : Tab} {K : PySem.W.Frag} {H G : Hp}
theorem rep_lst {v : V} {l : List D} (h : Rep T K G v (.lst l)) : ∃ a xs, v = .ref a ∧ SqL K G a xs ∧ Reps T K G xs l := by
  cases h with
  | lst z r => exact ⟨_, _, rfl, SqL.of z, r⟩
theorem rep_lok {v : V} {l : List D} (h : Rep T K G v (.lok l)) : ∃ a xs, v = .ref a ∧ SqL K G a xs ∧ Reps T K G xs l := by
  cases h with
  | lok z r => exact ⟨_, _, rfl, z, r⟩
theorem rep_tup {v : V} {l : List D} (h : Rep T K G v (.tup l)) : ∃ a xs, v = .ref a ∧ SqT K G a xs ∧ Reps T K G xs l := by
  cases h with
  | tup z r => exact ⟨_, _, rfl, z.sqT, r⟩
theorem rep_tuq {v : V} {l : List D} (h : Rep T K G v (.tuq l)) : ∃ a xs, v = .ref a ∧ SqT K G a xs ∧ Reps T K G xs l := by
  cases h with
  | tuq z r => exact ⟨_, _, rfl, z, r⟩
mutual
theorem dp_of : ∀ {d : D} {v : V} {p : PyData}, Rep T K G v d → pyD d = some p → Dp K G v p
  | .non, _, _, r, e => by cases r; cases e; exact .non
  | .bl b, _, _, r, e => by cases r; cases e; exact .bl b
  | .int i, _, _, r, e => by cases r; cases e; exact .int i
  | .str x, _, _, r, e => by cases r; cases e; exact .str x
  | .lst l, _, _, r, e => by
    obtain ⟨a, xs, rfl, h, rr⟩ := rep_lst r
    unfold pyD at e
    cases z : pyDs l with
    | none => rw [z] at e; cases e
    | some ps => rw [z] at e; cases e; exact .lst h (dps_of rr z)
  | .lok l, _, _, r, e => by
    obtain ⟨a, xs, rfl, h, rr⟩ := rep_lok r
    unfold pyD at e
    cases z : pyDs l with
    | none => rw [z] at e; cases e
    | some ps => rw [z] at e; cases e; exact .lst h (dps_of rr z)
  | .tup l, _, _, r, e => by
    obtain ⟨a, xs, rfl, h, rr⟩ := rep_tup r
    unfold pyD at e
    cases z : pyDs l with
    | none => rw [z] at e; cases e
    | some ps => rw [z] at e; cases e; exact .tup h (dps_of rr z)
  | .tuq l, _, _, r, e => by
    obtain ⟨a, xs, rfl, h, rr⟩ := rep_tuq r
    unfold pyD at e
    cases z : pyDs l with
    | none => rw [z] at e; cases e
    | some ps => rw [z] at e; cases e; exact .tup h (dps_of rr z)
  | .dic _, _, _, _, e => by unfold pyD at e; cases e
  | .ins _ _, _, _, _, e => by unfold pyD at e; cases e
  | .cls _, _, _, _, e => by unfold pyD at e; cases e
theorem dps_of : ∀ {ds : List D} {vs : List V} {ps : List PyData}, Reps T K G vs ds → pyDs ds = some ps → DpAll K G vs ps
  | [], _, _, r, e => by cases r; unfold pyDs at e; cases e; exact .nil
  | d :: ds, _, _, r, e => by
    cases r with
    | cons r1 r2 =>
      unfold pyDs at e
      cases z : pyD d with
      | none => rw [z] at e; cases e
      | some p =>
        rw [z] at e
        cases y : pyDs ds with
        | none =>
          rw [y] at e
          cases e
        | some ps =>
          rw [y] at e
          cases e
          exact .cons (dp_of r1 z) (dps_of r2 y)
end
end
/-- == of plain data -/
def eqPy (f : Bool → Bool) (d e : D) : Option D := match pyD d, pyD e with
  | some a, some b => if SeqAt.shaped a = true ∧ SeqAt.shaped b = true then some (.bl (f (PyData.eqv a b))) else none
  | _, _ => none
def gEq : D → D → Option D := eqPy id
def gNe : D → D → Option D := eqPy not
section
variable {T : Tab} {K : PySem.W.Frag} {H G : Hp}
theorem eqPy_of {f : Bool → Bool} {d e r : D} (h : eqPy f d e = some r) : ∃ a b, pyD d = some a ∧ pyD e = some b ∧ SeqAt.shaped a = true ∧ SeqAt.shaped b = true ∧ r = .bl (f (PyData.eqv a b)) := by
  unfold eqPy at h
  split at h
  · rename_i a b h1 h2
    split at h
    · rename_i hc
      cases h
      exact ⟨a, b, h1, h2, hc.1, hc.2, rfl⟩
    · cases h
  · cases h
theorem eq_s : OpS T K (rEqD K) gEq := fun x y H G d1 d2 d Q le r1 r2 e k => by
  obtain ⟨a, b, h1, h2, h3, h4, rfl⟩ := eqPy_of e
  exact ⟨a, b, dp_of (r1.up le.up) h1, dp_of (r2.up le.up) h2, h3, h4, k.scal fun _ => .bl _⟩
theorem ne_s : OpS T K (rNeD K) gNe := fun x y H G d1 d2 d Q le r1 r2 e k => by
  obtain ⟨a, b, h1, h2, h3, h4, rfl⟩ := eqPy_of e
  exact ⟨a, b, dp_of (r1.up le.up) h1, dp_of (r2.up le.up) h2, h3, h4, k.scal fun _ => .bl _⟩
end
/-- flat data -/
def flV : D → Option V
  | .non => some .non
  | .bl b => some (.bl b)
  | .int i => some (.int i)
  | .str x => some (.str x)
  | _ => none
def flVs : List D → Option (List V)
  | [] => some []
  | d :: ds => (match flV d with
    | some v => (flVs ds).map (v :: ·)
    | none => none)
section
variable {T : Tab} {K : PySem.W.Frag} {H G : Hp}
theorem flV_of {d : D} {v w : V} (r : Rep T K G v d) (e : flV d = some w) : v = w ∧ flatV w = true := by
  cases d <;> first | (cases e; done) | (cases r; cases e; exact ⟨rfl, rfl⟩)
theorem flVs_of : ∀ {ds : List D} {vs ws : List V}, Reps T K G vs ds → flVs ds = some ws → vs = ws ∧ ws.all flatV = true
  | [], _, _, r, e => by cases r; cases e; exact ⟨rfl, rfl⟩
  | d :: ds, _, _, r, e => by
    cases r with
    | cons r1 r2 =>
      unfold flVs at e
      cases z : flV d with
      | none => rw [z] at e; cases e
      | some p =>
        rw [z] at e
        cases y : flVs ds with
        | none => rw [y] at e; cases e
        | some ps =>
          rw [y] at e
          cases e
          obtain ⟨rfl, h1⟩ := flV_of r1 z
          obtain ⟨rfl, h2⟩ := flVs_of r2 y
          exact ⟨rfl, by rw [List.all_cons, h1, h2] <;> rfl⟩
end
def rInAll (K : PySem.W.Frag) : R2 := fun x y H Q => rInD K x y H Q ∨ rIn K false x y H Q ∨ ∃ i j, x = .str i ∧ y = .str j ∧ Q (.bl (!(Builtin.Str.occurrences j i 0 j.length 1).isEmpty)) H
def rNotInAll (K : PySem.W.Frag) : R2 := fun x y H Q => rNotInD K x y H Q ∨ rIn K true x y H Q ∨ ∃ i j, x = .str i ∧ y = .str j ∧ Q (.bl (!(!(Builtin.Str.occurrences j i 0 j.length 1).isEmpty))) H
/-- x in a list of plain data, in a tuple of flat ones, in a text -/
def inPy (d e : D) : Option Bool := match e with
  | .str j => (match d with
    | .str i => some (!(Builtin.Str.occurrences j i 0 j.length 1).isEmpty)
    | _ => none)
  | .tup l => (match flV d, flVs l with
    | some v, some vs => some (inV v vs)
    | _, _ => none)
  | e => (match pyD d, pyD e with
    | some a, some (.list bs) => if SeqAt.shaped a = true ∧ SeqAt.shaped (.list bs) = true then some (bs.any fun z => PyData.eqv z a) else none
    | _, _ => none)
def gIn (d e : D) : Option D := (inPy d e).map .bl
def gNotIn (d e : D) : Option D := (inPy d e).map fun b => .bl (!b)
section
variable {T : Tab} {K : PySem.W.Frag} {H G : Hp} {x y : V} {d e : D} {b : Bool}
theorem inPy_of (le : Le G H) (r1 : Rep T K G x d) (r2 : Rep T K G y e) (h : inPy d e = some b) :
    (∃ a bs, Dp K H x a ∧ Dp K H y (.list bs) ∧ SeqAt.shaped a = true ∧ SeqAt.shaped (.list bs) = true ∧ b = bs.any fun z => PyData.eqv z a) ∨
    (∃ p xs, y = .ref p ∧ SqT K H p xs ∧ flatV x = true ∧ xs.all flatV = true ∧ b = inV x xs) ∨ ∃ i j, x = .str i ∧ y = .str j ∧ b = !(Builtin.Str.occurrences j i 0 j.length 1).isEmpty := by
  unfold inPy at h
  split at h
  · split at h
    · cases h; cases r1; cases r2; exact .inr (.inr ⟨_, _, rfl, rfl, rfl⟩)
    · cases h
  · split at h
    · rename_i h1 h2
      cases h
      obtain ⟨a, xs, rfl, hq, rr⟩ := rep_tup (r2.up le.up)
      obtain ⟨rfl, f1⟩ := flV_of r1 h1
      obtain ⟨rfl, f2⟩ := flVs_of rr h2
      exact .inr (.inl ⟨_, _, rfl, hq, f1, f2, rfl⟩)
    · cases h
  · split at h
    · rename_i h1 h2
      split at h
      · rename_i hc
        cases h
        exact .inl ⟨_, _, dp_of (r1.up le.up) h1, dp_of (r2.up le.up) h2, hc.1, hc.2, rfl⟩
      · cases h
    · cases h
theorem in_s : OpS T K (rInAll K) gIn := fun x y H G d1 d2 d Q le r1 r2 e k => by
  unfold gIn at e
  cases z : inPy d1 d2 with
  | none => rw [z] at e; cases e
  | some b =>
    rw [z] at e
    cases e
    have q : Q (.bl b) H := k.scal fun _ => .bl _
    rcases inPy_of le r1 r2 z with ⟨a, bs, h1, h2, h3, h4, rfl⟩ | ⟨p, xs, rfl, h1, h2, h3, rfl⟩ | ⟨i, j, rfl, rfl, rfl⟩
    · exact .inl ⟨a, bs, h1, h2, h3, h4, q⟩
    · exact .inr (.inl ⟨p, xs, rfl, .inr h1, h2, h3, q⟩)
    · exact .inr (.inr ⟨i, j, rfl, rfl, q⟩)
theorem notIn_s : OpS T K (rNotInAll K) gNotIn := fun x y H G d1 d2 d Q le r1 r2 e k => by
  unfold gNotIn at e
  cases z : inPy d1 d2 with
  | none => rw [z] at e; cases e
  | some b =>
    rw [z] at e
    cases e
    have q : Q (.bl (!b)) H := k.scal fun _ => .bl _
    rcases inPy_of le r1 r2 z with ⟨a, bs, h1, h2, h3, h4, rfl⟩ | ⟨p, xs, rfl, h1, h2, h3, rfl⟩ | ⟨i, j, rfl, rfl, rfl⟩
    · exact .inl ⟨a, bs, h1, h2, h3, h4, q⟩
    · exact .inr (.inl ⟨p, xs, rfl, .inr h1, h2, h3, q⟩)
    · exact .inr (.inr ⟨i, j, rfl, rfl, q⟩)
end
section
variable {X : Cx}
theorem op_inAll (hu : X.A.units + 65 < cLine) : OpR X (compareOp .In) (rInAll X.K) := (op_inD hu).or (op_in_seq.or op_in_str)
theorem op_notInAll (hu : X.A.units + 65 < cLine) : OpR X (compareOp .NotIn) (rNotInAll X.K) := (op_notInD hu).or (op_notIn_seq.or op_notIn_str)
end
def rIsN : R2 := fun x y H Q => y = .non ∧ Q (.bl (decide (x = .non))) H
def rNotN : R2 := fun x y H Q => y = .non ∧ Q (.bl (!decide (x = .non))) H
def isNon : D → Bool
  | .non => true
  | _ => false
def gIsN (d e : D) : Option D := match e with
  | .non => some (.bl (isNon d))
  | _ => none
def gNotN (d e : D) : Option D := match e with
  | .non => some (.bl (!isNon d))
  | _ => none
section
variable {T : Tab} {K : PySem.W.Frag} {H G : Hp}
theorem isNon_of {v : V} {d : D} (r : Rep T K G v d) : decide (v = V.non) = isNon d := by cases r <;> rfl
theorem isN_s : OpS T K rIsN gIsN := fun x y H G d1 d2 d Q le r1 r2 e k => by
  unfold gIsN at e
  split at e
  · cases e; cases r2; exact ⟨rfl, by rw [isNon_of r1]; exact k.scal fun _ => .bl _⟩
  · cases e
theorem notN_s : OpS T K rNotN gNotN := fun x y H G d1 d2 d Q le r1 r2 e k => by
  unfold gNotN at e
  split at e
  · cases e; cases r2; exact ⟨rfl, by rw [isNon_of r1]; exact k.scal fun _ => .bl _⟩
  · cases e
end
def gI (C : Int → Int → Bool) (g : Int → Int → D) (d e : D) : Option D := match d, e with
  | .int i, .int j => if C i j = true then some (g i j) else none
  | _, _ => none
def scalV : D → V
  | .bl b => .bl b
  | .int i => .int i
  | _ => .non
section
variable {T : Tab} {K : PySem.W.Frag} {H G : Hp}
theorem int_s {C : Int → Int → Prop} {Cb : Int → Int → Bool} {g : Int → Int → V} {gd : Int → Int → D} (hC : ∀ i j, Cb i j = true → C i j) (hg : ∀ i j G, Rep T K G (g i j) (gd i j)) : OpS T K (rI C g) (gI Cb gd) := fun x y H G d1 d2 d Q le r1 r2 e k => by
  unfold gI at e
  split at e
  · split at e
    · rename_i hc
      cases e; cases r1; cases r2
      exact ⟨_, _, rfl, rfl, hC _ _ hc, k.scal fun G => hg _ _ G⟩
    · cases e
  · cases e
theorem int_s0 {g : Int → Int → V} {gd : Int → Int → D} (hg : ∀ i j G, Rep T K G (g i j) (gd i j)) : OpS T K (rI0 g) (gI (fun _ _ => true) gd) := fun x y H G d1 d2 d Q le r1 r2 e k => by
  unfold gI at e
  split at e
  · split at e
    · cases e; cases r1; cases r2
      exact ⟨_, _, rfl, rfl, k.scal fun G => hg _ _ G⟩
    · cases e
  · cases e
end
/-- r or r' -/
def r2Or (r r' : R2) : R2 := fun x y H Q => r x y H Q ∨ r' x y H Q
def orG (g g' : D → D → Option D) (d e : D) : Option D := match g d e with
  | some r => some r
  | none => g' d e
theorem or_s {T : Tab} {K : PySem.W.Frag} {r r' : R2} {g g' : D → D → Option D} (h : OpS T K r g) (h' : OpS T K r' g') : OpS T K (r2Or r r') (orG g g') := fun x y H G d1 d2 d Q le r1 r2 e k => by
  unfold orG at e
  split at e
  · rename_i z
    cases e
    exact .inl (h x y H G d1 d2 _ Q le r1 r2 z k)
  · exact .inr (h' x y H G d1 d2 d Q le r1 r2 e k)
def rAddS : R2 := fun x y H Q => ∃ i j, x = .str i ∧ y = .str j ∧ i.length + j.length ≤ sizeLine ∧ Q (.str (i ++ j)) H
def gAddS (d e : D) : Option D := match d, e with
  | .str i, .str j => if i.length + j.length ≤ sizeLine then some (.str (i ++ j)) else none
  | _, _ => none
theorem addS_s {T : Tab} {K : PySem.W.Frag} : OpS T K rAddS gAddS := fun x y H G d1 d2 d Q le r1 r2 e k => by
  unfold gAddS at e
  split at e
  · split at e
    · rename_i hc
      cases e; cases r1; cases r2
      exact ⟨_, _, rfl, rfl, hc, k.scal fun G => .str _⟩
    · cases e
  · cases e
end Mi
set_option maxRecDepth 200000
set_option maxHeartbeats 8000000
namespace Mi.TS
open PySem PySem.Spec L2
open PyProof.Rows hiding St strKind

def ltT (x y : Str) : Bool := decide (x.cps.toList < y.cps.toList)
theorem ltT_anti {x y : Str} (h1 : ltT x y = false) (h2 : ltT y x = false) : x = y := by
  have a := List.not_lt.mp (of_decide_eq_false h1)
  have b := List.not_lt.mp (of_decide_eq_false h2)
  have e : x.cps.toList = y.cps.toList := List.le_antisymm b a
  cases x; cases y
  simp at e
  rw [e]
theorem ltT_asym {x y : Str} (h : ltT x y = true) : ltT y x = false := by
  have a : x.cps.toList < y.cps.toList := of_decide_eq_true h
  exact decide_eq_false fun b => List.lt_irrefl _ (List.lt_trans a b)
theorem ltT_tr {x y z : Str} (h1 : ltT y x = false) (h2 : ltT z y = false) : ltT z x = false := by
  have a := List.not_lt.mp (of_decide_eq_false h1)
  have b := List.not_lt.mp (of_decide_eq_false h2)
  exact decide_eq_false (List.not_lt.mpr (List.le_trans a b))
def insT (x : Str) : List Str → List Str
  | [] => [x]
  | y :: r => if ltT y x = true then y :: insT x r else x :: y :: r
def sortT (l : List Str) : List Str := l.foldr insT []
abbrev SrtT (l : List Str) : Prop := l.Pairwise fun x y => ltT y x = false
theorem insT_perm (x : Str) : ∀ l, (insT x l).Perm (x :: l)
  | [] => List.Perm.refl _
  | y :: r => by
    unfold insT
    split
    · exact ((insT_perm x r).cons y).trans (List.Perm.swap x y r)
    · exact List.Perm.refl _
theorem insT_srt (x : Str) : ∀ l, SrtT l → SrtT (insT x l)
  | [], _ => List.pairwise_singleton _ _
  | y :: r, h => by
    obtain ⟨h1, h2⟩ := List.pairwise_cons.mp h
    unfold insT
    split
    · rename_i c
      refine List.pairwise_cons.mpr ⟨fun z hz => ?_, insT_srt x r h2⟩
      rcases List.mem_cons.mp ((insT_perm x r).mem_iff.mp hz) with e | e
      · rw [e]; exact ltT_asym c
      · exact h1 z e
    · rename_i c
      have c : ltT y x = false := by
        cases e : ltT y x with
        | true => exact absurd e c
        | false => rfl
      refine List.pairwise_cons.mpr ⟨fun z hz => ?_, h⟩
      rcases List.mem_cons.mp hz with e | e
      · rw [e]; exact c
      · exact ltT_tr c (h1 z e)
theorem sortT_perm : ∀ l, (sortT l).Perm l
  | [] => List.Perm.refl _
  | x :: l => (insT_perm x (sortT l)).trans ((sortT_perm l).cons x)
theorem sortT_srt : ∀ l, SrtT (sortT l)
  | [] => List.Pairwise.nil
  | x :: l => insT_srt x _ (sortT_srt l)
theorem srt_uniq : ∀ {l m : List Str}, SrtT l → SrtT m → l.Perm m → l = m
  | [], m, _, _, p => (List.Perm.nil_eq p)
  | x :: l, [], _, _, p => absurd p.length_eq (by simp)
  | x :: l, y :: m, h1, h2, p => by
    obtain ⟨a1, a2⟩ := List.pairwise_cons.mp h1
    obtain ⟨b1, b2⟩ := List.pairwise_cons.mp h2
    have e : x = y := by
      rcases List.mem_cons.mp (p.mem_iff.mp List.mem_cons_self) with e | e
      · exact e
      · rcases List.mem_cons.mp (p.mem_iff.mpr List.mem_cons_self) with f | f
        · exact f.symm
        · exact ltT_anti (b1 x e) (a1 y f)
    subst e
    rw [srt_uniq a2 b2 (List.Perm.cons_inv p)]
theorem srt_eq {l m : List Str} (h : SrtT l) (p : l.Perm m) : l = sortT m := srt_uniq h (sortT_srt m) (p.trans (sortT_perm m).symm)

def ltV (v u : Value) : Bool := ltT (strOf v) (strOf u)
theorem swo_T : SrtO.Swo ltV := ⟨fun _ _ h => ltT_asym h, fun _ _ _ h1 h2 => ltT_tr h1 h2⟩
section
variable {P : Program} {w : World} {A : Around} {s : Shared}
theorem cmp_T {vs : List Value} {ts : List Str} (hI : StrsAre vs ts) : SrtO.Cmp P w A s oneType' (fun p => p.1 ∈ vs) (SrtO.lt2 ltV) := fun p q hm hm' => by
  obtain ⟨a, t, e⟩ := hI.all _ hm
  obtain ⟨b, u, e'⟩ := hI.all _ hm'
  show wpAny (model P w) A (keyLt' oneType' p.1 q.1) (fun r s' => s' = s ∧ r = ltV p.1 q.1) (fun _ _ => False) s
  rw [e, e', keyLt'_oneType]
  exact oneLt_str ⟨rfl, rfl⟩
theorem sortable_T {a : Addr} {vs : List Value} {ts : List Str} (hI : StrsAre vs ts) (h2 : 2 ≤ vs.length) : SrtO.SortableO P w A s a vs ltV := fun h' _ => by
  refine ⟨oneType', fun Q E hq => ?_, cmp_T hI⟩
  match vs, hI, h2 with
  | v1 :: v2 :: rest, hI, _ => rw [keyKind_strs hI]; exact wpAny_pure hq
  | [v], _, h => exact absurd h (by simp)
  | [], _, h => exact absurd h (by decide)
theorem out_T {vs out : List Value} {ts : List Str} (hI : StrsAre vs ts) (hs : SrtO.Srtd ltV out) (hb : SrtO.Stb ltV out vs) : StrsAre out (sortT ts) := by
  have h1 := strsAre_map out fun v hv => hI.all v (hb.perm.mem_iff.mp hv)
  have h2 : (out.map strOf).Perm ts := by
    have q := hb.perm.map strOf
    rw [hI.strs] at q
    exact q
  have h3 : SrtT (out.map strOf) := List.pairwise_map.mpr (hs.imp fun {x y} h => h)
  rw [srt_eq h3 h2] at h1
  exact h1
end
/-- sorted(xs), texts -/
def rSortedTx (K : PySem.W.Frag) : List V → Hp → VK → Prop := fun vs H Q => ∃ a ts, vs = [V.ref a] ∧ (SqL K H a (ts.map V.str) ∧ ∀ p, H p = none → Q (.ref p) (upd H p (.lst ((sortT ts).map V.str))))
section
variable {X : Cx}
theorem cr_sortedTx : CallR X (.builtin "sorted") (rSortedTx X.K) := by
  intro pins s σ H vs us Q I r h
  obtain ⟨a, ts, rfl, hs, q⟩ := h
  obtain ⟨its, rv, hl, hz⟩ := I.list hs
  rw [Vals.ref1 r]
  have hi := rv.strs
  refine SrtO.sorted_ord swo_T hl.isList (by rw [← rv.length] ; exact hz) (fun h2 h₁ a' _ _ => sortable_T hi h2) fun out h1 h2 => ?_
  have k1 := out_T hi h1 h2
  obtain ⟨ep, he⟩ := PyProof.Rows.sortedAll_at s.heap its out.toArray
  have hlen : ((sortT ts).map V.str).length ≤ sizeLine := by
    rw [List.length_map, (sortT_perm ts).length_eq]
    simpa using hz
  exact ⟨.ref _, upd H (s.heap.objs.size + 1) (.lst ((sortT ts).map V.str)), I.laid (t' := s.toks) (fun _ _ => PyProof.Rows.sortedAll_old) (Nat.le_succ _) ⟨hlen, out, ep, vals_of_strs k1, he⟩, rfl, q _ (I.hok.fresh (Nat.le_succ _))⟩
/-- a list or tuple of texts -/
def rSetArg (K : PySem.W.Frag) (Q : List Str → Hp → Prop) : V → Hp → Prop := fun x H => ∃ l ts, x = .ref l ∧ (SqL K H l (ts.map V.str) ∨ SqT K H l (ts.map V.str)) ∧ ts.length + 1 < scanBound ∧ Q ts H
theorem set_run {pins : List (Addr × Obj)} {σ : L2.St} {H : Hp} {s : Shared} {x : V} {v : Value} {Q : List Str → Hp → Prop} {QQ : Value → Shared → Prop} (hc : X.calm = true) (I : Inv X pins σ H s) (r : RelV x v) (h : rSetArg X.K Q x H)
    (k : ∀ (ts : List Str) (h' : Heap) (tk : Nat), Q ts H → SetT X.w h' s.heap.objs.size (dis ts) → (∀ b o, s.heap.get? b = some o → h'.get? b = some o) → QQ (.ref s.heap.objs.size) { s with heap := h', toks := tk }) :
    wpAny (model X.prog X.w) X.A (call (.type "set") [v]) QQ X.xe s := by
  obtain ⟨l, ts, rfl, hq, hb, q⟩ := h
  cases r
  rcases hq with hq | hq
  · obtain ⟨its, rv, pl, hz⟩ := I.list hq
    exact set_of_list ts (I.ok.hd hc) pl.isList (by simpa using rv.strs) hb fun h' tk hS hk => k ts h' tk q hS hk
  · obtain ⟨its, rv, pl, hz⟩ := I.tuple hq
    exact set_of_tuple ts (I.ok.hd hc) pl (by simpa using rv.strs) hb fun h' tk hS hk => k ts h' tk q hS hk
def tLenSetT (K : PySem.W.Frag) (ta : TE) : TE := fun σ H Q => ta σ H fun x H1 => rSetArg K (fun ts H2 => Q (.int (dis ts).length) H2) x H1
def tSortSetT (K : PySem.W.Frag) (ta : TE) : TE := fun σ H Q => ta σ H fun x H1 => rSetArg K (fun ts H2 => ∀ p, H2 p = none → Q (.ref p) (upd H2 p (.lst ((sortT (dis ts)).map V.str)))) x H1
theorem pe_lenSetT {a : Expr} {ta : TE} {p p2 q pos : Pos} (hc : X.calm = true) (hg : Gl X "len") (hm : X.mg "len" = none) (hg2 : Gl X "set") (hm2 : X.mg "set" = none) (ha : PE X a ta) (na : starEach [a] X.env = (false, eval a X.env) :: starEach [] X.env) :
    PE X (.Call (.Name "len" p) [.Call (.Name "set" p2) [a] [] q] [] pos) (tLenSetT X.K ta) := by
  refine ⟨fun pins s σ H Q I h => ?_⟩
  refine Call_ (ld_blt I hg hm boot_len (PyProof.Rows.callWith_builtin1 (PyProof.Rows.args_cons ?_ rfl) rfl rfl))
  refine Call_ (ld_blt I hg2 hm2 boot_set (PyProof.Rows.callWith_type1 (PyProof.Rows.args_cons (thn (ha.run pins s σ H _ I h) fun v s1 ⟨x, H1, I1, r1, q1⟩ => PyProof.Rows.args_nil ?_) na) na rfl))
  refine set_run hc I1 r1 q1 fun ts h' tk hq hS hk => PyProof.Rows.args_nil ?_
  obtain ⟨o, es, ep, t, ho, hex, hd, _, pm, _, hb, hf, _, _⟩ := hS
  have I2 : Inv X pins σ H1 { s1 with heap := h', toks := tk } := I1.kept fun b o e => hk b o e
  have en : es.size = (dis ts).length := by rw [← pm.length_eq, List.length_map, Array.length_toList]
  have hs : (es.size : Int) < 2 ^ 63 := by
    have : scanBound = 4096 := rfl
    omega
  exact call_len_set ho hex hd hf hs ⟨.int (dis ts).length, H1, I2.tok _, ⟨_, by rw [en]⟩, hq⟩
end
end Mi.TS
namespace Mi.TS
open PySem PySem.Spec L2
open PyProof.Rows hiding St strKind
theorem strs_of : ∀ (l : List Value), (∀ v ∈ l, ∃ x u, v = Value.str x u) → StrsAre l (l.map strOf) := fun l h => strsAre_map l h
section
variable {P : Program} {w : World} {A : Around} {E : Value → Shared → Prop} {s : Shared} {a : Addr}
theorem sorted_setT {l : List Str} {Q : Value → Shared → Prop} (R : SetT w s.heap a l) (hh : A.handled = none)
    (hQ : ∀ s' p (out : List Value) (c : Nat), (∀ b o, s.heap.get? b = some o → s'.heap.get? b = some o) → s'.gens = s.gens → s'.os = s.os → s.heap.objs.size ≤ p → s'.heap.get? p = some (seqObj "list" out.toArray c) → StrsAre out (sortT l) → Q (.ref p) s') :
    wpAny (model P w) A (call (.builtin "sorted") [.ref a]) Q E s := by
  obtain ⟨o, es, ep, t, ho, hex, hd, g, pm0, nd, hb, hf, hr, hl⟩ := R
  refine Calls.call_function_entry kind_sorted plain_sorted entry_sorted (args_sorted1 _) ?_ ; unfold Builtin.«sorted»
  refine wpAny_bind (m := checkCount "sorted" 1 1 _) (wpAny_pure (wpAny_bind (collect_set (A := A.in1) hh ⟨o, ho, hex.1, hd⟩ hf hb hr hl fun s1 vs k1 hz g1 o1 pm => ?_)))
  have hall : ∀ v ∈ vs, ∃ x u, v = Value.str x u := fun v hv => by
    obtain ⟨e, he, q⟩ := List.mem_map.mp (pm.mem_iff.mp hv)
    obtain ⟨x, u, h1, _⟩ := g e he
    exact ⟨x, u, by rw [← q] ; exact h1⟩
  have hI := strs_of vs hall
  have hp : (vs.map strOf).Perm l := by
    have q := pm.map strOf
    rw [List.map_map] at q
    refine (q.trans (List.Perm.of_eq ?_)).trans pm0
    refine List.map_congr_left fun e he => ?_
    obtain ⟨x, u, h1, _⟩ := g e he
    show strOf e.2 = tx e
    unfold tx
    rw [h1]
    rfl
  have hsz : vs.length ≤ sizeLine := by
    have q : vs.length = es.size := by rw [pm.length_eq, List.length_map, Array.length_toList]
    rw [q]
    exact fits_of_scanBound hb
  refine wpAny_bind (wpAny_newList ?_ hsz)
  have hoL : (s1.heap.push (seqObj "list" vs.toArray 0)).get? s1.heap.objs.size = some (seqObj "list" vs.toArray 0) := Heap.get?_push_size _ rfl
  refine wpAny_bind (wpAny_holding (wpAny_call_entry slot_list_sort ⟨_, hoL, rfl⟩ entry_list_sort (SrtO.list_sort_ord swo_T hoL hsz (fun h2 => sortable_T hI h2) fun out a1 a2 => ⟨_, rfl, ?_⟩) (args_list_sort _)))
  obtain ⟨c, hc⟩ := sortedHeap_at (vs := vs) (out := out.toArray) hoL
  have fin := out_T hI a1 a2
  have e : sortT (vs.map strOf) = sortT l := srt_uniq (sortT_srt _) (sortT_srt _) ((sortT_perm _).trans (hp.trans (sortT_perm _).symm))
  rw [e] at fin
  refine wpAny_pure ⟨_, rfl, hQ _ s1.heap.objs.size out c (fun b u eb => ?_) g1 o1 hz hc fin⟩
  have q := k1 b u eb
  have lt := Heap.lt_size q
  show (sortedHeap (s1.heap.push (seqObj "list" vs.toArray 0)) s1.heap.objs.size vs out.toArray).get? b = some u
  rw [sortedHeap_old (Nat.ne_of_lt lt) (by rw [size_push'] ; exact Nat.lt_succ_of_lt lt)]
  exact Heap.get?_push_of_some _ q
end
section
variable {X : Cx}
/-- sorted(set), as a call -/
theorem sorted_setX {pins : List (Addr × Obj)} {σ : L2.St} {H : Hp} {s : Shared} {a : Addr} {l : List Str} {Q : VK} (hc : X.calm = true) (I : Inv X pins σ H s) (hS : SetT X.w s.heap a l) (hq : ∀ p, H p = none → Q (.ref p) (upd H p (.lst ((sortT l).map V.str)))) :
    wpAny (model X.prog X.w) X.A (call (.builtin "sorted") [.ref a]) (EP X pins σ Q) X.xe s := by
  refine sorted_setT hS (I.ok.hd hc) fun s2 p out c k2 g2 o2 hp hgp hi => ?_
  have hlen : ((sortT l).map V.str).length ≤ sizeLine := by
    obtain ⟨o, es, ep, t, ho, hex, hd, _, pm, _, hb, hf, _, _⟩ := hS
    rw [List.length_map, (sortT_perm _).length_eq, ← pm.length_eq, List.length_map, Array.length_toList]
    exact fits_of_scanBound hb
  have hn : H p = none := I.hok.fresh hp
  have J : Inv X pins σ (upd H p (.lst ((sortT l).map V.str))) { s with heap := s2.heap, gens := s2.gens, drawn := s2.drawn, toks := s2.toks } :=
    I.call (ch := []) (Un.laid k2 hp hn) (I.hok.laid k2 hp ⟨hlen, out, c, vals_of_strs hi, hgp⟩) (by rw [g2] ; exact I.bare) (fun _ z => nomatch z)
  have e : s2 = { s with heap := s2.heap, gens := s2.gens, drawn := s2.drawn, toks := s2.toks } := by
    cases s2
    cases s
    cases o2
    rfl
  rw [e]
  exact ⟨.ref p, _, J, rfl, hq p hn⟩
theorem pe_sortSetT {a : Expr} {ta : TE} {p p2 q pos : Pos} (hc : X.calm = true) (hg : Gl X "sorted") (hm : X.mg "sorted" = none) (hg2 : Gl X "set") (hm2 : X.mg "set" = none) (ha : PE X a ta) (na : starEach [a] X.env = (false, eval a X.env) :: starEach [] X.env) :
    PE X (.Call (.Name "sorted" p) [.Call (.Name "set" p2) [a] [] q] [] pos) (tSortSetT X.K ta) := by
  refine ⟨fun pins s σ H Q I h => ?_⟩
  refine Call_ (ld_blt I hg hm (by rfl) (PyProof.Rows.callWith_builtin1 (PyProof.Rows.args_cons ?_ rfl) rfl rfl) (by decide) (by decide))
  refine Call_ (ld_blt I hg2 hm2 boot_set (PyProof.Rows.callWith_type1 (PyProof.Rows.args_cons (thn (ha.run pins s σ H _ I h) fun v s1 ⟨x, H1, I1, r1, q1⟩ => PyProof.Rows.args_nil ?_) na) na rfl))
  refine set_run hc I1 r1 q1 fun ts h' tk hq hS hk => PyProof.Rows.args_nil ?_
  exact sorted_setX hc (I1.kept fun b o e => hk b o e) hS hq
end
end Mi.TS

namespace Mi
open PySem PySem.Spec L2
open PyProof.Rows hiding St strKind
def strD : D → Option Str
  | .str x => some x
  | _ => none
def strsD : List D → Option (List Str)
  | [] => some []
  | d :: ds => (match strD d with
    | some x => (strsD ds).map (x :: ·)
    | none => none)
theorem strsD_of {T : Tab} {K : PySem.W.Frag} {G : Hp} : ∀ {ds : List D} {vs : List V} {xs : List Str}, Reps T K G vs ds → strsD ds = some xs → vs = xs.map V.str
  | [], _, _, r, e => by cases r; cases e; rfl
  | d :: ds, _, _, r, e => by
    cases r with
    | cons r1 r2 =>
      unfold strsD at e
      cases z : strD d with
      | none => rw [z] at e; cases e
      | some x =>
        rw [z] at e
        cases y : strsD ds with
        | none => rw [y] at e ; cases e
        | some xs =>
          rw [y] at e
          cases e
          cases d <;> first | (cases z ; done) | (cases z; cases r1; rw [strsD_of r2 y]; rfl)
theorem reps_strs {T : Tab} {K : PySem.W.Frag} {G : Hp} : ∀ (xs : List Str), Reps T K G (xs.map V.str) (xs.map D.str)
  | [] => .nil
  | x :: xs => .cons (.str x) (reps_strs xs)
/-- texts in a list or tuple, few enough for a set -/
def setArgD (d : D) : Option (List Str) := match items d with
  | some l => (match strsD l with
    | some xs => if xs.length + 1 < scanBound then some xs else none
    | none => none)
  | none => none
theorem setArg_of {T : Tab} {K : PySem.W.Frag} {G H : Hp} {x : V} {d : D} {xs : List Str} {Q : List Str → Hp → Prop} (le : Le G H) (r : Rep T K G x d) (e : setArgD d = some xs) (q : Q xs H) : TS.rSetArg K Q x H := by
  unfold setArgD at e
  split at e
  · rename_i l hl
    split at e
    · rename_i ys hy
      split at e
      · rename_i hb
        cases e
        cases d with
        | lst l' =>
          cases hl
          obtain ⟨a, vs, rfl, hs, rr⟩ := rep_lst (r.up le.up)
          exact ⟨a, xs, rfl, .inl (by rw [← strsD_of rr hy]; exact hs), hb, q⟩
        | tup l' =>
          cases hl
          obtain ⟨a, vs, rfl, hs, rr⟩ := rep_tup (r.up le.up)
          exact ⟨a, xs, rfl, .inr (by rw [← strsD_of rr hy]; exact hs), hb, q⟩
        | tuq l' =>
          cases hl
          obtain ⟨a, vs, rfl, hs, rr⟩ := rep_tuq (r.up le.up)
          exact ⟨a, xs, rfl, .inr (by rw [← strsD_of rr hy]; exact hs), hb, q⟩
        | _ => cases hl
      · cases e
    · cases e
  · cases e
def gLenSet (d : D) : Option D := (setArgD d).map fun xs => .int (TS.dis xs).length
def gSortSet (d : D) : Option D := (setArgD d).map fun xs => .lst ((TS.sortT (TS.dis xs)).map D.str)
section
variable {W : Type} {T : Tab} {R : WR W} {X : Cx} {a : Expr} {f : Ex W} {p p2 q pos : Pos}
theorem lenSet_s {K : PySem.W.Frag} : UnS T K (fun x H Q => TS.rSetArg K (fun ts H2 => Q (.int (TS.dis ts).length) H2) x H) gLenSet := fun x H G d1 d Q le r e k => by
  unfold gLenSet at e
  cases z : setArgD d1 with
  | none => rw [z] at e ; cases e
  | some xs =>
    rw [z] at e
    cases e
    exact setArg_of le r z (k.scal fun _ => .int _)
theorem sortSet_s {K : PySem.W.Frag} : UnS T K (fun x H Q => TS.rSetArg K (fun ts H2 => ∀ p, H2 p = none → Q (.ref p) (upd H2 p (.lst ((TS.sortT (TS.dis ts)).map V.str)))) x H) gSortSet := fun x H G d1 d Q le r e k => by
  unfold gSortSet at e
  cases z : setArgD d1 with
  | none => rw [z] at e ; cases e
  | some xs =>
    rw [z] at e
    cases e
    exact setArg_of le r z fun p hn => k.new hn fun G' l h => .lst h (reps_strs _)
theorem te_lenSet (hc : X.calm = true) (hg : Gl X "len") (hm : X.mg "len" = none) (hg2 : Gl X "set") (hm2 : X.mg "set" = none) (ha : PE X a (tE T X.K R f)) (na : noStar [a] = true) :
    PE X (.Call (.Name "len" p) [.Call (.Name "set" p2) [a] [] q] [] pos) (tE T X.K R (eUn gLenSet f)) := te_un (ta := fun _ _ _ => True) ha lenSet_s fun t h => TS.pe_lenSetT hc hg hm hg2 hm2 h ((noStar_cons na).2 _)
theorem te_sortSet (hc : X.calm = true) (hg : Gl X "sorted") (hm : X.mg "sorted" = none) (hg2 : Gl X "set") (hm2 : X.mg "set" = none) (ha : PE X a (tE T X.K R f)) (na : noStar [a] = true) :
    PE X (.Call (.Name "sorted" p) [.Call (.Name "set" p2) [a] [] q] [] pos) (tE T X.K R (eUn gSortSet f)) := te_un (ta := fun _ _ _ => True) ha sortSet_s fun t h => TS.pe_sortSetT hc hg hm hg2 hm2 h ((noStar_cons na).2 _)
/-- sorted(xs) of texts -/
def gSorted (ds : List D) : Option D := match ds with
  | [.lst l] => (strsD l).map fun xs => .lst ((TS.sortT xs).map D.str)
  | _ => none
theorem sorted_s {K : PySem.W.Frag} : CallS T K (TS.rSortedTx K) gSorted := fun vs H G ds d Q le r e k => by
  unfold gSorted at e
  split at e
  · rename_i l
    cases z : strsD l with
    | none => rw [z] at e ; cases e
    | some xs =>
      rw [z] at e
      cases e
      obtain ⟨v, rfl, r1⟩ := reps1 r
      obtain ⟨a, ws, rfl, hs, rr⟩ := rep_lst (r1.up le.up)
      exact ⟨a, xs, rfl, by rw [← strsD_of rr z]; exact hs, fun p hn => k.new hn fun G' l h => .lst h (reps_strs _)⟩
  · cases e
end
end Mi
set_option maxRecDepth 100000
set_option maxHeartbeats 4000000
namespace Mi
open PySem PySem.Spec L2
open PyProof.Rows hiding St

section
variable {X : Cx} {es : List Expr} {kws : List Keyword} {t tk : TA} {f : Value} {first : List Value} {ks : List Str} {pos : Pos}
theorem call_withP {Pk : Heap → Prop} {pins : List (Addr × Obj)} (hkp : ∀ h, Pk h → ∃ k, (k = Keeper.frame ∨ k = Keeper.machine ∨ k = Keeper.boundFrame) ∧ PySem.W.Looks (model X.prog X.w) h (keeperOf f) k) (hI : ∀ σ H s, Inv X pins σ H s → Pk s.heap)
    (ha : PA X es t) (hkw : PK X kws tk) (hs : noStar es = true) (hks : kwNames kws = some ks) {s : Shared} {σ : L2.St} {H : Hp} {Q : Value → Shared → Prop} {P : List V → List V → Hp → Prop}
    (I : Inv X pins σ H s) (h : t σ H fun vs H1 => tk σ H1 fun zs H2 => P vs zs H2)
    (go : ∀ us ws s2 vs zs H2, Inv X pins σ H2 s2 → Vals vs us → Vals zs ws → P vs zs H2 → wpAny (model X.prog X.w) X.A (call f (first ++ us) (ks.zip ws)) Q X.xe s2) :
    wpAny (model X.prog X.w) X.A (callWith pos f first (backTo pos (starEach es X.env)) (backToKw pos (keywordEach kws X.env))) Q X.xe s := by
  obtain ⟨k1, k2, k3⟩ := kw_all hks pos X.env
  have step1 := ha.run pos pins s σ H _ I h
  cases es with
  | nil =>
    intro Γ p0 hΓ
    obtain ⟨vs, H1, I1, r1, q1⟩ := (show AP X pins σ _ [] s from step1 Γ p0 hΓ)
    have step2 := hkw.run pos pins s σ H1 _ I1 q1
    cases kws with
    | nil =>
      obtain ⟨zs, H2, I2, r2, q2⟩ := (show AP X pins σ _ [] s from step2 Γ p0 hΓ)
      cases hks
      exact PySem.W.callWith_of rfl hkp (PyProof.Rows.evalArgs_nil3 ⟨hI _ _ _ I2, go [] [] s vs zs H2 I2 r1 r2 q2⟩) Γ p0 hΓ
    | cons kw kws =>
      refine PySem.W.callWith_of (by rw [k3] <;> rfl) hkp (PyProof.Rows.evalArgs_kw2_nil k1 (thn step2 fun ws s2 ⟨zs, H2, I2, r2, q2⟩ => ⟨hI _ _ _ I2, ?_⟩)) Γ p0 hΓ
      rw [k2]
      exact go [] ws s2 vs zs H2 I2 r1 r2 q2
  | cons e es =>
    obtain ⟨h1, h2⟩ := noStar_cons hs
    cases kws with
    | nil =>
      have np : ((backTo pos (starEach (e :: es) X.env)).any (·.1) || (backToKw pos (keywordEach [] X.env)).any (·.1.isNone)) = false := by rw [noStar_any hs]; rfl
      refine PySem.W.callWith_of np hkp ?_
      rw [h2 X.env] at step1 ⊢
      refine Calls.evalArgs_plain (thn step1 fun us s1 ⟨vs, H1, I1, r1, q1⟩ => ⟨hI _ _ _ I1, ?_⟩)
      have step2 := hkw.run pos pins s1 σ H1 _ I1 q1
      intro Γ p0 hΓ
      obtain ⟨zs, H2, I2, r2, q2⟩ := (show AP X pins σ _ [] s1 from step2 Γ p0 hΓ)
      cases hks
      exact go us [] s1 vs zs H2 I2 r1 r2 q2 Γ p0 hΓ
    | cons kw kws =>
      refine PySem.W.callWith_of (by rw [noStar_any hs, k3] <;> rfl) hkp (PyProof.Rows.evalArgs_kw2 k1 (thn step1 fun us s1 ⟨vs, H1, I1, r1, q1⟩ => thn (hkw.run pos pins s1 σ H1 _ I1 q1) fun ws s2 ⟨zs, H2, I2, r2, q2⟩ => ⟨hI _ _ _ I2, ?_⟩) (h2 _))
      rw [k2]
      exact go us ws s2 vs zs H2 I2 r1 r2 q2
end

def CalA (X : Cx) (j : Nat) (f : Value) (n : Nat) (ks : List Str) (r : List V → List V → Hp → VK → Prop) : Prop := ∀ A', Sub X j A' → ∀ (pins : List (Addr × Obj)) (s : Shared) (σ : L2.St) (H : Hp) (vs zs : List V) (us ws : List Value) (Q : VK), Inv X pins σ H s → Vals vs us → Vals zs ws → vs.length = n → zs.length = ks.length → r vs zs H Q →
  codeAny (model X.prog X.w) A' (.call f ⟨us, ks.zip ws⟩) (fun r s' => match r with | .ok (.ret v) => EP X pins σ Q v s' | .ok _ => False | .error e => X.xe e s') s
section
variable {W : Type} {T : Tab} {R : WR W} {X : Cx} {k j : Nat} {f C : Addr} {fd : FuncData} {ps ks : List Str} {n c : Nat} {pl : List D → List D → Option (List D)} {φ : List D → W → Option (D × W)} {r : List V → List V → Hp → VK → Prop} {fv : Value}
theorem CalA.v (h : CalA X j fv n ks r) (hr : Room j X.A) : CalV X fv n ks r := fun pins s σ H vs zs us ws Q I rv rz l1 l2 hq => wpAny_call (h X.A ⟨hr, rfl⟩ pins s σ H vs zs us ws Q I rv rz l1 l2 hq)
theorem env0_sub {A' : Around} (sb : Sub X j A') {pins : List (Addr × Obj)} {s : Shared} {σ : L2.St} {H : Hp} (I : Inv X pins σ H s) : Env0 X.prog X.w X.K X.mg X.base A' X.stack s H := by
  have e := I.env0
  exact ⟨by rw [sb.fr]; exact e.frames, e.mod, e.bs, e.bsz, e.funs, e.frf, e.hok, e.bare⟩
theorem cal_fnA (F : FnOk X.prog X.w X.K X.mg X.base CX0 k f fd ps (spF T X.K R φ ps.length)) (b : BindF T X.K fd ps n ks pl) : CalA X k (.ref f) n ks (rCal T X.K R pl φ) := by
  rintro A' sb pins s σ H vs zs us ws Q I rv rz l1 l2 ⟨σ', hd, st, fp, ds, es, d, w', q, r1, r2, ⟨ds', e1, e2⟩, kk⟩
  obtain ⟨vals, hb, pk⟩ := b.to s us ws I.kIn (by rw [← rv.length]; exact l1) (by rw [← rz.length]; exact l2)
  obtain ⟨vs', rv', hl', rep⟩ := pk vs zs rv rz
  have hs : spF T X.K R φ ps.length vs' H Q E0 := call_sp q hl' (rep _ ds es ds' r1 r2 e1) e2 kk
  refine codeAny_mono (F.run A' X.stack s H ⟨us, ks.zip ws⟩ vals vs' Q E0 sb.room (env0_sub sb I) hb rv' hs) fun r s' hq => ?_
  cases r with
  | ok fl => cases fl with
    | ret u => exact I.after hq
    | _ => exact False.elim hq
  | error e => exact (show False from hq).elim
end

/-- the classes' own method nm -/
def DunOk {W : Type} (T : Tab) (R : WR W) (X : Cx) (j : Nat) (nm : Str) (mt : Nat → Option (Cal W)) : Prop := ∀ c cd, mt c = some cd → ∃ fm, PySem.W.findIn X.K (.ref (T.cls c)) nm = some (some (.ref fm)) ∧ PySem.W.isFn X.K (.ref fm) = true ∧ PySem.W.fnIn X.K fm = true ∧ CalA X j (.ref fm) cd.n [] (rCal T X.K R cd.pl cd.fn)
section
variable {W : Type}
/-- str(a) -/
def eStr (mt : Nat → Option (Cal W)) (a : Ex W) : Ex W := fun st => match a st with
  | some (.str x, st1) => some (.str x, st1)
  | some (.ins c fs, st1) => (match mt c with
    | some cd => (match eGo cd 0 [.ins c fs] [] st1 with
      | some (.str x, st2) => some (.str x, st2)
      | _ => none)
    | none => none)
  | _ => none
/-- a == b -/
def eEq (mt : Nat → Option (Cal W)) (nf : Nat → Nat → Bool) (a b : Ex W) : Ex W := fun st => match a st with
  | some (x, st1) => (match b st1 with
    | some (y, st2) => (match x with
      | .ins c fs => (match mt c with
        | some cd => (match y with
          | .ins c' fs' => if nf c c' = true then (match eGo cd 0 [.ins c fs, .ins c' fs'] [] st2 with
            | some (.bl r, st3) => some (.bl r, st3)
            | _ => none) else none
          | _ => none)
        | none => none)
      | x => (match gEq x y with
        | some d => some (d, st2)
        | none => none))
    | none => none)
  | none => none
end
section
variable {W : Type} {T : Tab} {R : WR W} {X : Cx} {j : Nat} {a b e : Expr} {es : List Expr} {f f1 f2 : Ex W} {mt : Nat → Option (Cal W)} {pos p : Pos}
theorem cal1 {f : Value} {n : Nat} {r : List V → List V → Hp → VK → Prop} (h : CalA X j f n [] r) {A' : Around} (sb : Sub X j A') {pins : List (Addr × Obj)} {s : Shared} {σ : L2.St} {H : Hp} {vs : List V} {us : List Value} {Q : VK} (I : Inv X pins σ H s) (rv : Vals vs us) (hl : vs.length = n) (hr : r vs [] H Q) :
    wpAny (model X.prog X.w) A' (call f us) (EP X pins σ Q) X.xe s := wpAny_call (h A' sb pins s σ H vs [] us [] Q I rv .nil hl rfl hr)
/-- str(x) by values -/
def rStr (T : Tab) (R : WR W) (X : Cx) (mt : Nat → Option (Cal W)) : List V → Hp → VK → Prop := fun xs H Q => (∃ y, xs = [.str y] ∧ Q (.str y) H) ∨ ∃ ad c dx vs cd, xs = [.ref ad] ∧ H ad = some (.ins (T.cls c) dx vs) ∧ mt c = some cd ∧ cd.n = 1 ∧ rCal T X.K R cd.pl cd.fn [.ref ad] [] H (fun v H' => (∃ y, v = .str y) ∧ Q v H')
theorem call_strO (hr : Room (j + 2) X.A) (hmt : DunOk T R X j "__str__" mt) : CallR X (.type "str") (rStr T R X mt) := by
  intro pins s σ H xs us Q I r h
  rcases h with ⟨y, rfl, q⟩ | ⟨ad, c, dx, vs, cd, rfl, eh, hc, hn, q⟩
  · exact SkE.call_str_str pins s σ H _ us Q I r ⟨y, rfl, q⟩
  · obtain ⟨u, rfl, rx⟩ := vals1 r
    cases rx
    obtain ⟨fm, h1, h2, h3, cal⟩ := hmt c cd hc
    obtain ⟨mA, O, _⟩ := ins_get I.hok eh
    obtain ⟨od, J, _⟩ := O.look
    have sb : Sub X j X.A.in1.in1 := (Sub.in1 (n := j) (Sub.in1 (n := j + 1) ⟨hr, rfl⟩))
    refine PySem.W.kso_call sb.room.units0 I.kIn J h1 h2 (thn (cal1 cal sb I (vs := [.ref ad]) (.cons rfl .nil) hn.symm q) fun v s1 ⟨x, H1, I1, rx, ⟨y, ey⟩, q1⟩ => ?_)
    subst ey
    obtain ⟨t, rfl⟩ := rx
    exact ⟨.str y, H1, I1, ⟨t, rfl⟩, q1⟩
theorem te_str (hr : Room (j + 2) X.A) (hg : Gl X "str") (hm : X.mg "str" = none) (hmt : DunOk T R X j "__str__" mt) (ha : PE X a (tE T X.K R f)) (hs : noStar [a] = true) : PE X (.Call (.Name "str" p) [a] [] pos) (tE T X.K R (eStr mt f)) := by
  have h1 : PA X [a] (tCons (tE T X.K R f) tNil) := pa_cons ha pa_nil ((noStar_cons hs).2 _)
  refine (pe_callTy (call_strO hr hmt) hg hm (by rfl) h1 (by decide) (by decide) ((noStar_cons hs).2 _) rfl).imp fun σ H Q ⟨st, fp, hd, q, d, st', h', k⟩ => ?_
  unfold eStr at h'
  split at h'
  · rename_i x st1 hx
    cases h'
    exact ⟨st, fp, hd, q, _, _, hx, fun v H1 fp1 q1 l1 r1 => by cases r1; exact .inl ⟨_, rfl, k _ H1 fp1 q1 l1 (.str _)⟩⟩
  · rename_i c fs st1 hx
    split at h'
    · rename_i cd hc
      split at h'
      · rename_i x st2 hgo
        cases h'
        refine ⟨st, fp, hd, q, _, _, hx, fun v H1 fp1 q1 l1 r1 => ?_⟩
        cases r1 with
        | ins z rf =>
          obtain ⟨n1, _, hh⟩ := go_cal (X := X) (n := 0) (zs := []) (Q := fun v H' => (∃ y, v = .str y) ∧ Q v H') q1 (.cons (.ins z rf) .nil) .nil hgo fun v H' fp' q4 l4 r4 => by
            cases r4
            exact ⟨⟨_, rfl⟩, k _ H' fp' q4 (l1.trans l4) (.str _)⟩
          exact .inr ⟨_, c, _, _, cd, rfl, still_le _ _ z, hc, n1.symm, hh⟩
      · cases h'
    · cases h'
  · cases h'
end
section
variable {W : Type} {T : Tab} {R : WR W} {X : Cx} {j : Nat} {a b e : Expr} {es : List Expr} {f f1 f2 : Ex W} {mt : Nat → Option (Cal W)} {nf : Nat → Nat → Bool} {pos p : Pos}
def rOwnEq (T : Tab) (R : WR W) (X : Cx) (mt : Nat → Option (Cal W)) (nf : Nat → Nat → Bool) : R2 := fun x y H Q => ∃ ad c dx vs bd c' dy ws cd, x = .ref ad ∧ H ad = some (.ins (T.cls c) dx vs) ∧ y = .ref bd ∧ H bd = some (.ins (T.cls c') dy ws) ∧ nf c c' = true ∧ mt c = some cd ∧ 2 = cd.n ∧
  rCal T X.K R cd.pl cd.fn [.ref ad, .ref bd] [] H (fun v H' => (∃ r, v = .bl r) ∧ Q v H')
theorem op_eqOwn (hr : Room j X.A) (hmt : DunOk T R X j "__eq__" mt) (hnf : ∀ c c', nf c c' = true → PySem.W.notFirst X.K (T.cls c) (.ref (T.cls c')) = true) : OpR X (compareOp .Eq) (rOwnEq T R X mt nf) := by
  intro pins s σ H x y v u Q I rx ry h
  obtain ⟨ad, c, dx, vs, bd, c', dy, ws, cd, rfl, ha, rfl, hb, n, hc, hn, q⟩ := h
  cases rx
  cases ry
  obtain ⟨fm, h1, h2, h3, cal⟩ := hmt c cd hc
  obtain ⟨mA, O, _⟩ := ins_get I.hok ha
  obtain ⟨od, J, _⟩ := O.look
  obtain ⟨mB, O', _⟩ := ins_get I.hok hb
  obtain ⟨od', J', _⟩ := O'.look
  obtain ⟨m, hF⟩ := I.fr
  show wpAny (model X.prog X.w) X.A (richCompare .Eq (.ref ad) (.ref bd)) (EP X pins σ Q) X.xe s
  refine PySem.W.cmp_K (op := .Eq) (tb := .ref (T.cls c')) hr.units0 hF I.ok.mod.kin J J'.type (hnf c c' n) h1 h2 ?_
  refine thn (cal1 cal ⟨hr, rfl⟩ I (vs := [.ref ad, .ref bd]) (.cons rfl (.cons rfl .nil)) hn q) fun v s1 ⟨x, H1, I1, rx, ⟨r, er⟩, q1⟩ => ?_
  subst er
  cases rx
  exact ⟨.bl r, H1, I1, rfl, q1⟩
theorem te_eq (hu : X.A.units + 64 < cLine) (hr : Room j X.A) (hmt : DunOk T R X j "__eq__" mt) (hnf : ∀ c c', nf c c' = true → PySem.W.notFirst X.K (T.cls c) (.ref (T.cls c')) = true) (ha : PE X a (tE T X.K R f1)) (hb : PE X b (tE T X.K R f2)) (hm : behindInMarks .Eq b = false) :
    PE X (.Compare a [.Eq] [b] pos) (tE T X.K R (eEq mt nf f1 f2)) := (pe_cmpR ((op_eqD hu).or (op_eqOwn hr hmt hnf)) ha hb hm).imp fun σ H Q ⟨st, fp, hd, q, d, st', h', k⟩ => by
  unfold eEq at h'
  split at h'
  · rename_i x st1 hx
    split at h'
    · rename_i y st2 hy
      refine ⟨st, fp, hd, q, x, _, hx, fun v H1 fp1 q1 l1 r1 => ⟨st1, fp1, hd, q1, y, _, hy, fun v2 H2 fp2 q2 l2 r2 => ?_⟩⟩
      split at h'
      · rename_i c fs
        split at h'
        · rename_i cd hc
          split at h'
          · rename_i c' fs'
            split at h'
            · rename_i n
              split at h'
              · rename_i r st3 hgo
                cases h'
                have r1' := r1.up l2.up
                cases r1' with
                | ins z rf =>
                  cases r2 with
                  | ins z2 rf2 =>
                    obtain ⟨n1, _, hh⟩ := go_cal (X := X) (n := 0) (zs := []) (Q := fun v H' => (∃ r, v = .bl r) ∧ Q v H') q2 (.cons (.ins z rf) (.cons (.ins z2 rf2) .nil)) .nil hgo fun v H' fp' q4 l4 r4 => by
                      cases r4
                      exact ⟨⟨_, rfl⟩, k _ H' fp' q4 ((l1.trans l2).trans l4) (.bl _)⟩
                    exact .inr ⟨_, c, _, _, _, c', _, _, cd, rfl, still_le _ _ z, rfl, still_le _ _ z2, n, hc, n1, hh⟩
              · cases h'
            · cases h'
          · cases h'
        · cases h'
      · split at h'
        · rename_i d' hdd
          cases h'
          exact .inl (eq_s v v2 H2 _ x y _ Q still_le (r1.up l2.up) r2 hdd (ans_of q2 fun v3 H3 fp3 q3 l3 r3 => k v3 H3 fp3 q3 ((l1.trans l2).trans l3) r3))
        · cases h'
    · cases h'
  · cases h'
end

section
variable {W : Type}
def eCallO (mt : Nat → Option (Cal W)) (m : Nat) (a : Ex W) (f g : As W) : Ex W := fun st => match a st with
  | some (.ins c fs, st1) => (match f st1 with
    | some (ds, st2) => (match g st2 with
      | some (es, st3) => (match mt c with
        | some cd => eGo cd m (.ins c fs :: ds) es st3
        | none => none)
      | none => none)
    | none => none)
  | _ => none
end
/-- with these names of keywords -/
def DunK {W : Type} (T : Tab) (R : WR W) (X : Cx) (j : Nat) (nm : Str) (ks : List Str) (mt : Nat → Option (Cal W)) : Prop := ∀ c cd, mt c = some cd → ∃ fm, PySem.W.findIn X.K (.ref (T.cls c)) nm = some (some (.ref fm)) ∧ PySem.W.isFn X.K (.ref fm) = true ∧ PySem.W.fnIn X.K fm = true ∧ CalA X j (.ref fm) cd.n ks (rCal T X.K R cd.pl cd.fn)
theorem callO_syn {M : Model} {A : Around} {E : Value → Shared → Prop} {s : Shared} {a : Addr} {pos : Pos} {Q : Value → Shared → Prop} {args : List (Bool × Sem Value)} {kws : List (Option Str × Sem Value)} (hplain : (args.any (·.1) || kws.any (·.1.isNone)) = false)
    (h : wpAny M A (evalArgs (.ref a) true args kws) (fun z s₁ => (∃ C ox od, PySem.W.InstAt s₁.heap a ox C od ∧ ox.data = .plain) ∧ wpAny M A (call (.ref a) z.pos z.kw) Q E s₁) E s) : wpAny M A (callWith pos (.ref a) [] args kws) Q E s := by
  unfold callWith
  refine wpAny_bind (wpAny_holding (wpAny_mono h (fun z s₁ h₁ => wpAny_bind (wpAny_standAt ?_)) fun _ _ y => y))
  obtain ⟨⟨C, ox, od, J, hd⟩, h₁⟩ := h₁
  have L := PySem.W.kco_keeper (M := M) J hd
  simp only [hplain]
  refine wpAny_bind (L.here ?_)
  have tail : ∀ {t : Sem Value}, wpAny M A t Q E s₁ → wpAny M A (t >>= fun r => holding [r] point >>= fun _ => pure r) Q E s₁ := fun {t} ht => wpAny_bind (wpAny_mono ht (fun r s₂ hr => wpAny_bind (wpAny_holding (wpAny_point (wpAny_pure hr)))) fun _ _ y => y)
  exact tail (wpAny_operateT h₁)
section
variable {W : Type} {T : Tab} {R : WR W} {X : Cx} {es : List Expr} {kws : List Keyword} {f g : As W} {ks : List Str} {pos p apos : Pos} {nm : Str} {o e : Expr} {a : Ex W} {mt : Nat → Option (Cal W)} {j : Nat}
theorem insPlain {pins : List (Addr × Obj)} {σ : L2.St} {H : Hp} {s : Shared} {ad C dx : Addr} {vs : List (Str × V)} (I : Inv X pins σ H s) (h : H ad = some (.ins C dx vs)) : ∃ C ox od, PySem.W.InstAt s.heap ad ox C od ∧ ox.data = .plain := by
  obtain ⟨mA, O, _⟩ := ins_get I.hok h
  obtain ⟨od, J, _⟩ := O.look
  exact ⟨_, _, _, J, rfl⟩
theorem te_callO (ho : PE X o (tE T X.K R a)) (hr : Room j X.A) (hmt : DunK T R X j "__call__" ks mt) (ha : PA X es (tA T X.K R f)) (hkw : PK X kws (tA T X.K R g)) (hs : noStar es = true) (hks : kwNames kws = some ks)
    (ht : eval (.Call o es kws pos) X.env = (do callWith pos (← eval o X.env) [] (backTo pos (starEach es X.env)) (backToKw pos (keywordEach kws X.env)))) : PE X (.Call o es kws pos) (tE T X.K R (eCallO mt ks.length a f g)) := by
  refine ⟨fun pins s σ H Q I ⟨st, fp, hd, q, d, st', h', k⟩ => ?_⟩
  unfold eCallO at h'
  split at h'
  · rename_i c fs st1 h1
    split at h'
    · rename_i ds st2 h2
      split at h'
      · rename_i es' st3 h3
        split at h'
        · rename_i cd hcd
          obtain ⟨fm, c1, c2, c3, cal⟩ := hmt c cd hcd
          rw [ht]
          refine wpAny_bind (thn (ho.run pins s σ H (fun v H1 => ∃ ad, v = .ref ad ∧
              tA T X.K R f σ H1 fun vs H2 => (∃ dx vs0, H2 ad = some (.ins (T.cls c) dx vs0)) ∧ tA T X.K R g σ H2 fun zs H3 => (∃ dx vs0, H3 ad = some (.ins (T.cls c) dx vs0)) ∧ (V.ref ad :: vs).length = cd.n ∧ zs.length = ks.length ∧ rCal T X.K R cd.pl cd.fn (V.ref ad :: vs) zs H3 Q) I ⟨st, fp, hd, q, _, st1, h1, fun v H1 fp1 q1 l1 r1 => ?_⟩) fun ov s1 ⟨v, H1, I1, rv, ad, ev, hh⟩ => ?_)
          · cases r1 with
            | ins z rf =>
              refine ⟨_, rfl, st1, fp1, hd, q1, ds, st2, h2, fun vs H2 fp2 q2 l2 r2 => ⟨⟨_, _, still_le _ _ (l2 _ _ z)⟩, st2, fp2, hd, q2, es', st3, h3, fun zs H3 fp3 q3 l3 r3 => ?_⟩⟩
              have z3 := (l2.trans l3) _ _ z
              exact ⟨⟨_, _, still_le _ _ z3⟩, go_cal (X := X) (n := 0) q3 (.cons (.ins z3 (rf.up (l2.trans l3).up)) (r2.up l3.up)) r3 h' fun v H' fp' q4 l4 r4 => k v H' fp' q4 (((l1.trans l2).trans l3).trans l4) r4⟩
          · subst ev
            obtain rfl : ov = Value.ref ad := rv
            have fin : ∀ us ws s2 vs zs H2, Inv X pins σ H2 s2 → Vals vs us → Vals zs ws → ((∃ dx vs0, H2 ad = some (.ins (T.cls c) dx vs0)) ∧ (V.ref ad :: vs).length = cd.n ∧ zs.length = ks.length ∧ rCal T X.K R cd.pl cd.fn (V.ref ad :: vs) zs H2 Q) →
                (∃ C ox od, PySem.W.InstAt s2.heap ad ox C od ∧ ox.data = .plain) ∧ wpAny (model X.prog X.w) X.A (call (.ref ad) us (ks.zip ws)) (EP X pins σ Q) X.xe s2 := fun us ws s2 vs zs H2 I2 rv rz ⟨⟨dx, vs0, z⟩, n1, n2, hq⟩ => by
              refine ⟨insPlain I2 z, ?_⟩
              obtain ⟨mA, O, _⟩ := ins_get I2.hok z
              obtain ⟨od, J, _⟩ := O.look
              have step := cal X.A ⟨hr, rfl⟩ pins s2 σ H2 (V.ref ad :: vs) zs (Value.ref ad :: us) ws Q I2 (.cons (show RelV (.ref ad) (Value.ref ad) from rfl) rv) rz n1 n2 hq
              exact wpAny_call (PySem.W.kco_code (a := ⟨us, ks.zip ws⟩) I2.kIn J rfl c1 c2 c3 step)
            obtain ⟨k1, k2, k3⟩ := kw_all hks pos X.env
            have step1 := ha.run pos pins s1 σ H1 _ I1 hh
            cases es with
            | nil =>
              intro Γ p0 hΓ
              obtain ⟨vs, H2, I2, r2, _, q2⟩ := (show AP X pins σ _ [] s1 from step1 Γ p0 hΓ)
              have step2 := hkw.run pos pins s1 σ H2 _ I2 q2
              cases kws with
              | nil =>
                obtain ⟨zs, H3, I3, r3, q3⟩ := (show AP X pins σ _ [] s1 from step2 Γ p0 hΓ)
                cases hks
                exact callO_syn rfl (PyProof.Rows.evalArgs_nil3 (fin [] [] s1 vs zs H3 I3 r2 r3 q3)) Γ p0 hΓ
              | cons kw kws =>
                refine callO_syn (by rw [k3] <;> rfl) (PyProof.Rows.evalArgs_kw2_nil k1 (thn step2 fun ws s2 ⟨zs, H3, I3, r3, q3⟩ => ?_)) Γ p0 hΓ
                rw [k2]
                exact fin [] ws s2 vs zs H3 I3 r2 r3 q3
            | cons e es =>
              obtain ⟨h1, h2⟩ := noStar_cons hs
              cases kws with
              | nil =>
                have np : ((backTo pos (starEach (e :: es) X.env)).any (·.1) || (backToKw pos (keywordEach [] X.env)).any (·.1.isNone)) = false := by rw [noStar_any hs]; rfl
                refine callO_syn np ?_
                rw [h2 X.env] at step1 ⊢
                refine Calls.evalArgs_plain (thn step1 fun us s2 ⟨vs, H2, I2, r2, ⟨dx, vs0, z2⟩, q2⟩ => ?_)
                have step2 := hkw.run pos pins s2 σ H2 _ I2 q2
                cases hks
                refine ⟨insPlain I2 z2, fun Γ p0 hΓ => ?_⟩
                obtain ⟨zs, H3, I3, r3, q3⟩ := (show AP X pins σ _ [] s2 from step2 Γ p0 hΓ)
                exact (fin us [] s2 vs zs H3 I3 r2 r3 q3).2 Γ p0 hΓ
              | cons kw kws =>
                refine callO_syn (by rw [noStar_any hs, k3] <;> rfl) (PyProof.Rows.evalArgs_kw2 k1 (thn step1 fun us s2 ⟨vs, H2, I2, r2, _, q2⟩ => thn (hkw.run pos pins s2 σ H2 _ I2 q2) fun ws s3 ⟨zs, H3, I3, r3, q3⟩ => ?_) (h2 _))
                rw [k2]
                exact fin us ws s3 vs zs H3 I3 r2 r3 q3
        · cases h'
      · cases h'
    · cases h'
  · cases h'
end
section
variable {W : Type}
def eCMeth (cd : Cal W) (c m : Nat) (f g : As W) : Ex W := fun st => match f st with
  | some (ds, st1) => (match g st1 with
    | some (es, st2) => eGo cd m (.cls c :: ds) es st2
    | none => none)
  | none => none
end
section
variable {W : Type} {T : Tab} {R : WR W} {X : Cx} {es : List Expr} {kws : List Keyword} {f g : As W} {ks : List Str} {pos p apos : Pos} {nm : Str} {o e : Expr} {cd : Cal W} {c j : Nat} {mc : Value} {pa fm : Addr} {pl : Sem Bool}
/-- o is the class c itself -/
theorem te_cmeth (ho : PE X o (tC (.ref (T.cls c)))) (r : ClX.CRead X.K (T.cls c) mc) (cm : ClX.CMet X.K (T.cls c) mc nm pa fm) (hr : Room j X.A) (cal : CalA X j (.ref fm) cd.n ks (rCal T X.K R cd.pl cd.fn)) (ha : PA X es (tA T X.K R f)) (hkw : PK X kws (tA T X.K R g)) (hs : noStar es = true) (hks : kwNames kws = some ks)
    (ht : eval (.Call (.Attribute o nm apos) es kws pos) X.env = (do
      let ov ← eval o X.env
      standAt apos.atName
      let (f, first) ← holding [ov] (getMethod ov nm pl)
      callWith pos f first (backTo pos (starEach es X.env)) (backToKw pos (keywordEach kws X.env)))) :
    PE X (.Call (.Attribute o nm apos) es kws pos) (tE T X.K R (eCMeth cd c ks.length f g)) := by
  refine ⟨fun pins s σ H Q I ⟨st, fp, hd, q, d, st', h', k⟩ => ?_⟩
  unfold eCMeth at h'
  split at h'
  · rename_i ds st1 h1
    split at h'
    · rename_i es' st2 h2
      refine PySem.W.methodCall_KW (pl := pl) (thn (ho.run pins s σ H (fun v H1 => v = .ref (T.cls c) ∧ H1 = H) I ⟨rfl, rfl⟩) fun ov s1 ⟨v, H1, I1, rv, ev, eH⟩ => ?_) ht
      subst ev eH
      obtain rfl : ov = Value.ref (T.cls c) := rv
      refine ClX.getmethcm_ok I1 r cm fun s2 I2 => ?_
      have hb := ClX.base_none I1 (Nat.le_refl _)
      refine call_withP (Pk := PySem.W.MethP X.K s1.heap.objs.size fm (.ref (T.cls c))) (pins := (s1.heap.objs.size, PySem.W.methodObj (.ref fm) (.ref (T.cls c))) :: pins) (first := []) (P := fun vs zs H2 => (V.ref (T.cls c) :: vs).length = cd.n ∧ zs.length = ks.length ∧ rCal T X.K R cd.pl cd.fn (V.ref (T.cls c) :: vs) zs H2 Q)
        (PySem.W.keeps_M cm.fi) (fun σ H s I => ⟨ClX.pin_at I, I.kIn⟩) ha hkw hs hks I2
        ⟨st, fp, hd, q, ds, st1, h1, fun vs H1 fp1 q1 l1 r1 => ⟨st1, fp1, hd, q1, es', st2, h2, fun zs H2 fp2 q2 l2 r2 => go_cal (X := X) (n := 0) q2 (.cons (.cls c) (r1.up l2.up)) r2 h' fun v H' fp' q3 l3 r3 => k v H' fp' q3 ((l1.trans l2).trans l3) r3⟩⟩
        fun us ws s3 vs zs H2 I3 rv rz ⟨n1, n2, hq⟩ => ?_
      have step := cal X.A ⟨hr, rfl⟩ _ s3 σ H2 (V.ref (T.cls c) :: vs) zs (Value.ref (T.cls c) :: us) ws Q I3 (.cons (show RelV (.ref (T.cls c)) (Value.ref (T.cls c)) from rfl) rv) rz n1 n2 hq
      exact thn (wpAny_call (PySem.W.method_call (ClX.pin_at I3) step)) fun _ _ y => ClX.unpinE y
    · cases h'
  · cases h'
end
end Mi
namespace Mi.EN
open PySem PySem.Spec L2
open PyProof.Rows hiding St

/-- a row of values at a: a list or a tuple that stays -/
def Sq (K : PySem.W.Frag) (tp : Bool) (H : Hp) (a : Addr) (xs : List V) : Prop := if tp = true then SqT K H a xs else SqL K H a xs
/-- .. as an object -/
def SqO (tp : Bool) (h : Heap) (a : Addr) (items : Array Value) : Prop := if tp = true then h.IsTuple a items else h.IsList a items
def SqI (tp : Bool) (h : Heap) (it a : Addr) (i : Nat) : Prop := if tp = true then h.IsTupleIter it a i else h.IsListIter it a i
section
variable {X : Cx} {pins : List (Addr × Obj)} {σ : L2.St} {H : Hp} {s : Shared} {a : Addr} {xs : List V} {tp : Bool}
theorem sq_obj (I : Inv X pins σ H s) (h : Sq X.K tp H a xs) : ∃ its : List Value, Vals xs its ∧ SqO tp s.heap a its.toArray ∧ xs.length ≤ sizeLine := by
  cases tp with
  | true =>
    obtain ⟨its, r, pl, hz⟩ := I.tuple (show SqT X.K H a xs from h)
    exact ⟨its, r, pl, hz⟩
  | false =>
    obtain ⟨its, r, pl, hz⟩ := I.list (show SqL X.K H a xs from h)
    exact ⟨its, r, pl.isList, hz⟩
theorem sq_inj {ys : List V} (I : Inv X pins σ H s) (h1 : Sq X.K tp H a ys) (h2 : Sq X.K tp H a xs) : ys = xs := by
  cases tp with
  | true => exact I.tuple_inj (show SqT X.K H a ys from h1) (show SqT X.K H a xs from h2)
  | false => exact I.list_inj (show SqL X.K H a ys from h1) (show SqL X.K H a xs from h2)
theorem sqO_inj {h : Heap} {x y : Array Value} (h1 : SqO tp h a x) (h2 : SqO tp h a y) : x = y := by
  cases tp with
  | true =>
    obtain ⟨o, e, c, n, d⟩ := (show h.IsTuple a x from h1)
    obtain ⟨o', e', c', n', d'⟩ := (show h.IsTuple a y from h2)
    rw [e] at e'
    cases e'
    rw [d] at d'
    cases d'
    rfl
  | false =>
    obtain ⟨o, e, c, n, d⟩ := (show h.IsList a x from h1)
    obtain ⟨o', e', c', n', d'⟩ := (show h.IsList a y from h2)
    rw [e] at e'
    cases e'
    rw [d] at d'
    cases d'
    rfl
end
theorem draws {P : Program} {w : World} {A : Around} (hh : A.handled = none) (tp : Bool) (it t : Addr) (hne : t ≠ it) (items : Array Value) : Draws P w A it [it, t] items.size (fun i v => items[i]? = some v) (fun i h => SqI tp h it t i ∧ SqO tp h t items) := by
  cases tp with
  | true => exact Draws.tuple hh it t hne items
  | false => exact Draws.list hh it t hne items
/-- pairs (k + i, the i-th) of the row at a -/
def Iten (K : PySem.W.Frag) (tp : Bool) (k : Int) (n : Nat) (a : Addr) : It :=
  ⟨fun i H => ∃ (xs : List V) (x : V), Sq K tp H a xs ∧ xs.length = n ∧ xs[i]? = some x, fun i H v H' => ∃ T x, v = .ref T ∧ H T = none ∧ H' = upd H T (.tup [.int (k + (i : Int)), x]) ∧ (∀ xs, Sq K tp H a xs → xs[i]? = some x), fun i H => ∃ xs : List V, Sq K tp H a xs ∧ xs.length = n ∧ n ≤ i⟩
theorem turn {P : Program} {w : World} {K : PySem.W.Frag} {elts : List Expr} {kk : Nat} {tpos : Pos} {tp : Bool} (k : Int) (n : Nat) (a e it : Addr) (hei : e ≠ it) (hea : e ≠ a) (hai : a ≠ it) :
    Turn P w K (.Tuple elts kk tpos) (Iten K tp k n a) [e, it] e (fun i h => i ≤ n ∧ (∃ old, IsEnum h e it (k + (i : Int)) old) ∧ SqI tp h it a i ∧ (∃ o, h.get? it = some o ∧ ∀ v, o.data ≠ .cell v)) where
  mem := by simp
  obj := fun i h st b hb => by
    obtain ⟨_, ⟨old, he⟩, hi, ho⟩ := st
    rcases List.mem_cons.mp hb with z | z
    · rw [z]; exact ⟨_, he, fun v q => nomatch q⟩
    · rw [List.mem_singleton.mp z]; exact ho
  keep := fun i h h' st kp => by
    obtain ⟨hin, ⟨old, he⟩, hi, o, ho, hv⟩ := st
    refine ⟨hin, ⟨old, kp e (by simp) _ he⟩, ?_, o, kp it (by simp) o ho, hv⟩
    cases tp with
    | true => exact (show h.IsTupleIter it a i from hi).at fun o q => kp it (by simp) o q
    | false => exact (show h.IsListIter it a i from hi).at fun o q => kp it (by simp) o q
  item := by
    intro X hP hw hK hc i pins s σ H E I hf st hg
    subst hP hw hK
    obtain ⟨hin, ⟨old, he⟩, hi, oi, hoi, _⟩ := st
    obtain ⟨xs, x, hq, hn, hx⟩ := hg
    obtain ⟨its, rv, p, hz⟩ := sq_obj I hq
    obtain ⟨u, hu, ru⟩ := rv.get hx
    have hlt : i < its.toArray.size := by
      have := (List.getElem?_eq_some_iff.mp hu).1
      simpa using this
    have hel : e < s.heap.objs.size := Heap.lt_size he
    have hil : it < s.heap.objs.size := Heap.lt_size hoi
    have hi1 : i + 1 ≤ n := by
      have := (List.getElem?_eq_some_iff.mp hx).1
      omega
    have D := draws (P := X.prog) (w := X.w) (A := X.A.in1) (I.ok.hd hc) tp it a hai its.toArray
    refine wpAny_pyNext_enum_itemC D he ⟨hi, p⟩ hlt hei (by simp [hei, hea]) fun y h' tk hy ho st' hT hsz hk => ?_
    refine ⟨_, rfl, wpAny_letOwnedTupleGo_enum (s := { s with heap := h', toks := tk + 1 }) ho fun h2 he' sb => ?_⟩
    have hyu : y = u := by
      have hy : its.toArray[i]? = some y := hy
      have : its[i]? = some y := by simpa using hy
      rw [hu] at this
      exact (Option.some.inj this).symm
    subst hyu
    have hT2 : h2.get? s.heap.objs.size = some { cls := .type "tuple", data := .seq #[.int (k + (i : Int)) tk, y] } := (sb.2 _ (Nat.ne_of_gt hel)).trans hT
    have new : ObjOk X.prog X.w (upd H s.heap.objs.size (.tup [.int (k + (i : Int)), x])) h2 s.heap.objs.size (.tup [.int (k + (i : Int)), x]) :=
      ⟨by show 2 ≤ sizeLine; decide, [.int (k + (i : Int)) tk, y], .cons ⟨_, rfl⟩ (.cons ru .nil), ⟨_, hT2, rfl, _, rfl⟩⟩
    have I1 : Inv X pins σ (upd H s.heap.objs.size (.tup [.int (k + (i : Int)), x])) { s with heap := h2, toks := tk + 1 } :=
      I.turnedNew (ch := [e, it]) (fun b ob hb q => (sb.2 b (fun z => hb (by simp [z]))).trans (hk b ob (fun z => hb (by simp [z])) (fun z => hb (by simp [z])) q)) hf (Nat.le_refl _) new
    have e1 : k + ((i + 1 : Nat) : Int) = k + (i : Int) + 1 := by omega
    refine ⟨.ref s.heap.objs.size, _, I1, rfl, ⟨_, x, rfl, I.hok.fresh (Nat.le_refl _), rfl, fun ys hy => by rw [sq_inj I hy hq]; exact hx⟩, ⟨hi1, ⟨y, ?_⟩, ?_, ?_⟩, fun b hb => ?_⟩
    · rw [e1]; exact he'
    · cases tp with
      | true => exact (show h'.IsTupleIter it a (i + 1) from st'.1).at fun o q => (sb.2 it (Ne.symm hei)).trans q
      | false => exact (show h'.IsListIter it a (i + 1) from st'.1).at fun o q => (sb.2 it (Ne.symm hei)).trans q
    · cases tp with
      | true =>
        obtain ⟨o, q, c, d⟩ := (show h'.IsTupleIter it a (i + 1) from st'.1)
        exact ⟨o, (sb.2 it (Ne.symm hei)).trans q, fun v z => by rw [d] at z; cases z⟩
      | false =>
        obtain ⟨o, q, c, d⟩ := (show h'.IsListIter it a (i + 1) from st'.1)
        exact ⟨o, (sb.2 it (Ne.symm hei)).trans q, fun v z => by rw [d] at z; cases z⟩
    · have hb' : b < s.heap.objs.size := by
        rcases List.mem_cons.mp hb with z | z
        · rw [z]; exact hel
        · rw [List.mem_singleton.mp z]; exact hil
      rw [upd_ne (Nat.ne_of_lt hb')]
      exact (hf b hb).1
  done := by
    intro X hP hw hK hc i pins s σ H E I hf st hg
    subst hP hw hK
    obtain ⟨hin, ⟨old, he⟩, hi, _⟩ := st
    obtain ⟨xs, hq, hn, hx⟩ := hg
    obtain ⟨its, rv, p, hz⟩ := sq_obj I hq
    obtain ⟨f0, f1, f2, f3, f4, f5⟩ := hf it (by simp)
    have hl : its.toArray.size = n := by rw [List.size_toArray, ← rv.length]; exact hn
    have ei : i = its.toArray.size := by omega
    have D := draws (P := X.prog) (w := X.w) (A := X.A.in1) (I.ok.hd hc) tp it a hai its.toArray
    exact wpAny_pyNext_enum_endD D he ⟨by rw [← ei]; exact hi, p⟩ fun h' eb => ⟨rfl, I.turned (t' := s.toks) (fun b o hb q => eb b o hb q) f0 f1 f3 f4 f5⟩
  self := fun A i s Q E st h => let ⟨_, ⟨_, he⟩, _⟩ := st; wpAny_pyIter_enum he h

theorem begins (tp : Bool) (a : Addr) (items : Array Value) : Begins (.ref a) (if tp = true then { cls := .type "tuple_iterator", data := .fields #[.ref a, .int 0 0] } else { cls := .type "list_iterator", data := .fields #[.ref a, .int 0 0] }) fun h => SqO tp h a items := by
  cases tp with
  | true => exact begins_tuple a items
  | false => exact begins_list a items
theorem first (tp : Bool) {h : Heap} {it a : Addr} (e : h.get? it = some (if tp = true then { cls := .type "tuple_iterator", data := .fields #[.ref a, .int 0 0] } else { cls := .type "list_iterator", data := .fields #[.ref a, .int 0 0] })) : SqI tp h it a 0 ∧ (∃ o, h.get? it = some o ∧ ∀ v, o.data ≠ .cell v) := by
  cases tp with
  | true => exact ⟨⟨_, e, rfl, rfl⟩, _, e, fun v z => nomatch z⟩
  | false => exact ⟨⟨_, e, rfl, rfl⟩, _, e, fun v z => nomatch z⟩
/-- enumerate(v), any v that begins -/
theorem new1 {v : Value} {o : Obj} {H : Heap → Prop} (B : Begins v o H) :
    Meets (Builtin.«enumerate.__new__» ⟨[.type "enumerate", v], []⟩) (fun _ R s => H s.heap ∧
      R (.ok (.ret (.ref (s.heap.push o).objs.size))) { s with heap := (s.heap.push o).push { cls := .type "enumerate", data := .fields #[.none, .bool false, .ref s.heap.objs.size, rawInt 0, .none, .none] } }) :=
  .of_wp fun prog w A R s h => by
    obtain ⟨hp, g, d, tk, os⟩ := s ; obtain ⟨h1, h⟩ := h
    have hsub := sub_enumerate
    have q1 : ∀ {A' : Around} {E : Value → Shared → Prop} {Q : Value → Shared → Prop}, Q (.ref hp.objs.size) ⟨hp.push o, g, d, tk, os⟩ → wpAny (model prog w) A' (pyIter v) Q E ⟨hp, g, d, tk, os⟩ := fun q => B.iter prog w _ _ ⟨hp, g, d, tk, os⟩ _ h1 q
    wp_walk using q1
    refine wpAny_stack_any fun st => wpAny_pure ?_
    split
    · rename_i c _ _ _ _ _
      cases (c == Value.type "enumerate")
      · wp_walk using q1
        exact ⟨_, rfl, h⟩
      · wp_walk using q1
        exact ⟨_, rfl, h⟩
    · wp_walk using q1
      exact ⟨_, rfl, h⟩
theorem begins1 {P : Program} {w : World} {A : Around} {E : Value → Shared → Prop} {s : Shared} {v : Value} {o : Obj} {H : Heap → Prop} {Q : Value → Shared → Prop} (B : Begins v o H) (h1 : H s.heap)
    (h : ∀ h', IsEnum h' (s.heap.objs.size + 1) s.heap.objs.size 0 .none → h'.get? s.heap.objs.size = some o → (∀ b o, s.heap.get? b = some o → h'.get? b = some o) → Q (.ref (s.heap.objs.size + 1)) { s with heap := h' }) :
    wpAny (model P w) A (call (.type "enumerate") [v]) Q E s := by
  refine callType_new F.called_enumerate (by decide) (F.typeCall_enumerate_1 _) (F.newCall_enumerate_1 _) (fun obj => F.args_object_init_2 obj _) F.entry_enumerate_new (new1 B) ⟨h1, ?_⟩
  have hz : (s.heap.push o).objs.size = s.heap.objs.size + 1 := Heap.size_push ..
  show _ ∧ _
  rw [hz]
  have he : IsEnum ((s.heap.push o).push { cls := .type "enumerate", data := .fields #[.none, .bool false, .ref s.heap.objs.size, rawInt 0, .none, .none] }) (s.heap.objs.size + 1) s.heap.objs.size 0 .none := by
    have z := Heap.get?_push_size (s.heap.push o) (o := { cls := .type "enumerate", data := .fields #[.none, .bool false, .ref s.heap.objs.size, rawInt 0, .none, .none] }) rfl
    rw [hz] at z ; exact z
  exact ⟨⟨_, he, rfl⟩, h _ he (Heap.get?_push_of_some _ (Heap.get?_push_size _ B.free)) fun b o x => Heap.get?_push_of_some _ (Heap.get?_push_of_some _ x)⟩

/-- enumerate(row), enumerate(row, k) -/
def iEn (K : PySem.W.Frag) (ta : TA) : TI := fun σ H R => ta σ H fun vs H1 => ∃ tp a xs, (vs = [.ref a] ∧ Sq K tp H1 a xs ∧ R (Iten K tp 0 xs.length a) H1) ∨ ∃ k : Int, vs = [.ref a, .int k] ∧ Sq K tp H1 a xs ∧ -(2 ^ 63) ≤ k ∧ k < 2 ^ 63 ∧ R (Iten K tp k xs.length a) H1
theorem pi_en {X : Cx} {e : Expr} {es : List Expr} {ta : TA} {p pos tpos : Pos} {elts : List Expr} {kk : Nat} (hg : Gl X "enumerate") (hm : X.mg "enumerate" = none) (ha : PA X (e :: es) ta) (hs : starEach (e :: es) X.env = (false, eval e X.env) :: starEach es X.env) (hpl : (backTo pos (starEach es X.env)).any (·.1) = false) :
    PI X (.Tuple elts kk tpos) (.Call (.Name "enumerate" p) (e :: es) [] pos) (iEn X.K ta) := by
  refine ⟨fun pins s σ H R I h => ?_⟩
  refine Call_ (ld_blt I hg hm boot_enumerate (PyProof.Rows.callWith_type1 (thn (ha.run pos pins s σ H _ I h) fun us s1 ⟨vs, H1, I1, r1, q1⟩ => ?_) hs hpl))
  obtain ⟨tp, a, xs, q1⟩ := q1
  have fin : ∀ (k : Int) (its : List Value), Vals xs its → SqO tp s1.heap a its.toArray → R (Iten X.K tp k xs.length a) H1 → ∀ h', IsEnum h' (s1.heap.objs.size + 1) s1.heap.objs.size k .none → h'.get? s1.heap.objs.size = some (if tp = true then { cls := .type "tuple_iterator", data := .fields #[.ref a, .int 0 0] } else { cls := .type "list_iterator", data := .fields #[.ref a, .int 0 0] }) →
      (∀ b o, s1.heap.get? b = some o → h'.get? b = some o) → wpAny (model X.prog X.w) X.A (pyIter (.ref (s1.heap.objs.size + 1))) (PIE X pins σ (.Tuple elts kk tpos) R) X.xe { s1 with heap := h' } := fun k its rv p q h' he hit hk => by
    have I2 : Inv X pins σ H1 { s1 with heap := h' } := I1.kept (t' := s1.toks) hk
    have hal : a < s1.heap.objs.size := by
      cases tp with
      | true => obtain ⟨o, e, _⟩ := (show s1.heap.IsTuple a its.toArray from p); exact Heap.lt_size e
      | false => obtain ⟨o, e, _⟩ := (show s1.heap.IsList a its.toArray from p); exact Heap.lt_size e
    obtain ⟨f1, f2⟩ := first tp hit
    refine wpAny_pyIter_enum he ⟨s1.heap.objs.size + 1, [s1.heap.objs.size + 1, s1.heap.objs.size], _, _, H1, rfl, I2, turn k xs.length a (s1.heap.objs.size + 1) s1.heap.objs.size (Nat.succ_ne_self _) (Nat.ne_of_gt (Nat.lt_succ_of_lt hal)) (Nat.ne_of_lt hal), ⟨Nat.zero_le _, ⟨.none, ?_⟩, f1, f2⟩, fun b hb => ?_, q⟩
    · rw [show k + ((0 : Nat) : Int) = k by omega]
      exact he
    · have hle : s1.heap.objs.size ≤ b := by
        rcases List.mem_cons.mp hb with z | z
        · rw [z]; exact Nat.le_succ _
        · rw [List.mem_singleton.mp z]; exact Nat.le_refl _
      exact I1.fpOk hle (I1.hok.fresh hle)
  rcases q1 with ⟨ex, hq, q⟩ | ⟨k, ex, hq, k0, k1, q⟩
  · subst ex
    obtain ⟨u, rfl, r⟩ := vals1 r1
    cases r
    obtain ⟨its, rv, p, hz⟩ := sq_obj I1 hq
    exact begins1 (begins tp a its.toArray) p fun h' he hit hk => fin 0 its rv p q h' he hit hk
  · subst ex
    obtain ⟨u1, u2, rfl, r, r2⟩ := vals2 r1
    cases r
    obtain ⟨t, rfl⟩ := r2
    obtain ⟨its, rv, p, hz⟩ := sq_obj I1 hq
    exact enum_begins (begins tp a its.toArray) p k0 k1 fun h' he hit hz hk => fin k its rv p q h' he hit hk
end Mi.EN

namespace Mi
open PySem PySem.Spec L2
open PyProof.Rows hiding St
section
variable {T : Tab} {K : PySem.W.Frag} {G : Hp}
theorem it_en {tp : Bool} {a : Addr} {xs : List V} {l : List D} {k : Int} (up : ∀ H, Le G H → EN.Sq K tp H a xs) (r : Reps T K G xs l) : ItOk T K (EN.Iten K tp k xs.length a) (enumD k l) G := fun H le i => by
  have hl := r.length
  constructor
  · intro d e
    unfold enumD at e
    rw [List.getElem?_mapIdx] at e
    cases z : l[i]? with
    | none => rw [z] at e ; cases e
    | some d0 =>
      rw [z] at e
      cases e
      obtain ⟨v, hv, rv⟩ := r.get z
      refine ⟨⟨xs, v, up H le, rfl, hv⟩, fun x H' y => ?_⟩
      obtain ⟨p, x', rfl, hn, rfl, hy⟩ := y
      have hx := hy xs (up H le)
      rw [hv] at hx
      cases hx
      exact ⟨le_upd hn, fun G' s => pair_rep s.1 (s.2 p _ hn upd_same) (.int _) rv⟩
  · intro hle
    refine ⟨xs, up H le, rfl, ?_⟩
    unfold enumD at hle
    rw [List.length_mapIdx] at hle
    omega
end
/-- enumerate(row), enumerate(row, k) -/
def gEn : List D → Option (List D)
  | [.lst l] => some (enumD 0 l)
  | [.tup l] => some (enumD 0 l)
  | [.lst l, .int k] => if -(2 ^ 63) ≤ k ∧ k < 2 ^ 63 then some (enumD k l) else none
  | [.tup l, .int k] => if -(2 ^ 63) ≤ k ∧ k < 2 ^ 63 then some (enumD k l) else none
  | _ => none
section
variable {W : Type} {T : Tab} {R : WR W} {X : Cx} {e : Expr} {es : List Expr} {pos p : Pos}
theorem ti_en {f : As W} {elts : List Expr} {kk : Nat} {tpos : Pos} (hg : Gl X "enumerate") (hm : X.mg "enumerate" = none) (ha : PA X (e :: es) (tA T X.K R f)) (hs : noStar (e :: es) = true) :
    PI X (.Tuple elts kk tpos) (.Call (.Name "enumerate" p) (e :: es) [] pos) (tI T X.K R (iArgs gEn f)) :=
  ti_args ha (fun t h => EN.pi_en hg hm h ((noStar_cons hs).2 _) (noStar_any (noStar_cons hs).1 _ _)) fun vs H G ds l Q le r e k => by
    unfold gEn at e
    split at e
    · cases e
      obtain ⟨v, rfl, q1⟩ := reps1 r
      cases q1 with
      | lst z r => exact ⟨false, _, _, .inl ⟨rfl, SqL.of (le _ _ z), k _ (it_en (tp := false) (fun H l => SqL.of (l _ _ z)) r)⟩⟩
    · cases e
      obtain ⟨v, rfl, q1⟩ := reps1 r
      cases q1 with
      | tup z r => exact ⟨true, _, _, .inl ⟨rfl, le.up.sqT z.sqT, k _ (it_en (tp := true) (fun H l => l.up.sqT z.sqT) r)⟩⟩
    · split at e
      · rename_i hk
        cases e
        obtain ⟨v, w, rfl, q1, r2⟩ := reps2 r
        cases r2
        cases q1 with
        | lst z r => exact ⟨false, _, _, .inr ⟨_, rfl, SqL.of (le _ _ z), hk.1, hk.2, k _ (it_en (tp := false) (fun H l => SqL.of (l _ _ z)) r)⟩⟩
      · cases e
    · split at e
      · rename_i hk
        cases e
        obtain ⟨v, w, rfl, q1, r2⟩ := reps2 r
        cases r2
        cases q1 with
        | tup z r => exact ⟨true, _, _, .inr ⟨_, rfl, le.up.sqT z.sqT, hk.1, hk.2, k _ (it_en (tp := true) (fun H l => l.up.sqT z.sqT) r)⟩⟩
      · cases e
    · cases e
end
end Mi
namespace Mi
open PySem PySem.Spec L2
open PyProof.Rows hiding St

abbrev Ty := String ⊕ Nat
def tyD : D → Option Ty
  | .non => some (.inl "NoneType")
  | .bl _ => some (.inl "bool")
  | .int _ => some (.inl "int")
  | .str _ => some (.inl "str")
  | .lst _ => some (.inl "list")
  | .lok _ => some (.inl "list")
  | .tup _ => some (.inl "tuple")
  | .tuq _ => some (.inl "tuple")
  | .dic _ => none
  | .ins c _ => some (.inr c)
  | .cls _ => none
def tyV' (T : Tab) : Ty → Value
  | .inl n => .type n
  | .inr c => .ref (T.cls c)
def tyW (T : Tab) : Ty → V
  | .inl n => .ty n
  | .inr c => .ref (T.cls c)
structure KitOk (T : Tab) (K : PySem.W.Frag) (kt : Ty → Ty → Option Bool) (ic : Nat → Bool) : Prop where
  one : ∀ a b r, kt a b = some r → PySem.W.kitOne K (tyV' T a) (tyV' T b) = some r
  ins : ∀ c, ic c = true → Cls K (T.cls c) ∧ PySem.W.findIn K (.ref (T.cls c)) "__class__" = some (some (.builtin "object.__class__")) ∧ PySem.W.mroIn K (T.cls c) (.type "object") = some true
  get : PySem.W.specialIn K (.builtin "object.__class__") "__get__" = some (some (.builtin "getset_descriptor.__get__"))
  takes : PySem.W.takesIn K (.builtin "object.__class__") = some true
def icOk (ic : Nat → Bool) : Ty → Bool
  | .inl _ => true
  | .inr c => ic c
def isiA (kt : Ty → Ty → Option Bool) (t : Ty) : List Ty → Option Bool
  | [] => some false
  | u :: us => (match kt t u with
    | some true => some true
    | some false => isiA kt t us
    | none => none)
def isiD (kt : Ty → Ty → Option Bool) (ic : Nat → Bool) (us : List Ty) (d : D) : Option D := match tyD d with
  | some t => if icOk ic t = true then (isiA kt t us).map .bl else none
  | none => none
section
variable {T : Tab} {K : PySem.W.Frag} {H G : Hp} {kt : Ty → Ty → Option Bool} {ic : Nat → Bool}
theorem tyX_of (ok : KitOk T K kt ic) {v : V} {d : D} {t : Ty} (le : Le G H) (r : Rep T K G v d) (e : tyD d = some t) (hi : icOk ic t = true) : TyX K H v (tyV' T t) := by
  cases d with
  | non => cases r; cases e; exact .base .non
  | bl b => cases r; cases e; exact .base (.bl b)
  | int i => cases r; cases e; exact .base (.int i)
  | str x => cases r; cases e; exact .base (.str x)
  | lst l =>
    cases e
    cases r with
    | lst z _ => exact .base (.lst (le _ _ z))
  | lok l =>
    cases e
    cases r with
    | lok z _ =>
      rcases le.up.sqL z with (z | ⟨ob, z⟩) | ⟨o, its, n, z, c, _⟩
      · exact .base (.lst z)
      · exact .base (.frz z)
      · exact .kList z c
  | tup l =>
    cases e
    cases r with
    | tup z _ =>
      rcases le.up.sqT z.sqT with (z | ⟨ob, z⟩) | ⟨o, its, n, z, c, _⟩
      · exact .base (.tup z)
      · exact .fTuple z
      · exact .kTuple z c
  | tuq l =>
    cases e
    cases r with
    | tuq z _ =>
      rcases le.up.sqT z with (z | ⟨ob, z⟩) | ⟨o, its, n, z, c, _⟩
      · exact .base (.tup z)
      · exact .fTuple z
      · exact .kTuple z c
  | dic l => cases e
  | ins c fs =>
    cases e
    cases r with
    | ins z _ =>
      obtain ⟨h1, h2, h3⟩ := ok.ins c hi
      exact .base (.ins (le _ _ z) h1 h2 ok.get ok.takes h3)
  | cls c => cases e
theorem kitAny_of (ok : KitOk T K kt ic) {t : Ty} : ∀ {us : List Ty} {b : Bool}, isiA kt t us = some b → PySem.W.kitAny K (tyV' T t) (us.map (tyV' T)) = some b
  | [], b, e => by cases e; rfl
  | u :: us, b, e => by
    unfold isiA at e
    cases z : kt t u with
    | none => rw [z] at e; cases e
    | some r =>
      rw [z] at e
      have h := ok.one t u r z
      cases r with
      | true => cases e; exact kitAny_cons h (fun y => by cases y) fun _ => rfl
      | false => exact kitAny_cons h (fun _ => kitAny_of ok e) fun y => by cases y
end
theorem clsV_ty {T : Tab} (t : Ty) : ClsV (tyW T t) (tyV' T t) := by
  cases t with
  | inl n => exact .ty n
  | inr c => exact .own _
theorem clsV_all {T : Tab} : ∀ us : List Ty, Paired ClsV (us.map (tyW T)) (us.map (tyV' T))
  | [] => .nil
  | u :: us => .cons (clsV_ty u) (clsV_all us)
section
variable {W : Type} {T : Tab} {R : WR W} {X : Cx} {a c : Expr} {es : List Expr} {f : Ex W} {p pos tpos : Pos} {kt : Ty → Ty → Option Bool} {ic : Nat → Bool} {us : List Ty} {u : Ty} {x1 : Nat}
/-- a class by its name -/
def tK (vs : List V) : TA := fun _ H Q => Q vs H
theorem pa_k {e : Expr} {v : V} {vs : List V} (h : PE X e (tC v)) (hr : PA X es (tK vs)) (hs : starEach (e :: es) X.env = (false, eval e X.env) :: starEach es X.env) : PA X (e :: es) (tK (v :: vs)) := (pa_cons h hr hs).imp fun σ H Q h => h
theorem pa_k0 : PA X [] (tK []) := pa_nil.imp fun σ H Q h => h
theorem te_isi (ok : KitOk T X.K kt ic) (hg : Gl X "isinstance") (hm : X.mg "isinstance" = none) (ha : PE X a (tE T X.K R f)) (hc : PE X c (tC (tyW T u))) (hs : noStar [a, c] = true) : PE X (.Call (.Name "isinstance" p) [a, c] [] pos) (tE T X.K R (eUn (isiD kt ic [u]) f)) := by
  obtain ⟨s1, s2⟩ := noStar_cons hs
  have h1 : PA X [a, c] (tCons (tE T X.K R f) (tCons (tC (tyW T u)) tNil)) := pa_cons ha (pa_cons hc pa_nil ((noStar_cons s1).2 _)) (s2 _)
  refine (pe_callB call_isi hg hm (by rfl) h1 (by decide) (by decide) (s2 _) (noStar_any s1 _ _)).imp fun σ H Q ⟨st, fp, hd, q, d, st', h', k⟩ => ?_
  unfold eUn at h'
  split at h'
  · rename_i x st1 hx
    split at h'
    · rename_i d' hdd
      cases h'
      refine ⟨st, fp, hd, q, x, _, hx, fun v H1 fp1 q1 l1 r1 => ?_⟩
      unfold isiD at hdd
      split at hdd
      · rename_i t ht
        split at hdd
        · rename_i hi
          cases z : isiA kt t [u] with
          | none => rw [z] at hdd; cases hdd
          | some b =>
            rw [z] at hdd
            cases hdd
            have e1 : PySem.W.kitOne X.K (tyV' T t) (tyV' T u) = some b := by
              unfold isiA at z
              cases y : kt t u with
              | none => rw [y] at z; cases z
              | some r =>
                rw [y] at z
                cases r with
                | true => cases z; exact ok.one _ _ _ y
                | false => cases z; exact ok.one _ _ _ y
            exact ⟨v, tyW T u, tyV' T t, tyV' T u, b, rfl, clsV_ty u, tyX_of ok still_le r1 ht hi, e1, k _ H1 fp1 q1 l1 (.bl b)⟩
        · cases hdd
      · cases hdd
    · cases h'
  · cases h'
theorem te_isiT (ok : KitOk T X.K kt ic) (hg : Gl X "isinstance") (hm : X.mg "isinstance" = none) (ha : PE X a (tE T X.K R f)) (hc : PA X es (tK (us.map (tyW T)))) (hn : us.length ≤ 100) (hs : noStar [a] = true) : PE X (.Call (.Name "isinstance" p) [a, .Tuple es x1 tpos] [] pos) (tE T X.K R (eUn (isiD kt ic us) f)) := by
  have h2 : PE X (.Tuple es x1 tpos) (tTup (tK (us.map (tyW T)))) := pe_tup hc
  have s2 := (noStar_cons hs).2
  have e2 : starEach [a, .Tuple es x1 tpos] X.env = (false, eval a X.env) :: starEach [.Tuple es x1 tpos] X.env := by
    cases a <;> first | rfl | (cases hs)
  have h1 : PA X [a, .Tuple es x1 tpos] (tCons (tE T X.K R f) (tCons (tTup (tK (us.map (tyW T)))) tNil)) := pa_cons ha (pa_cons h2 pa_nil rfl) e2
  refine (pe_callB call_isiT hg hm (by rfl) h1 (by decide) (by decide) e2 rfl).imp fun σ H Q ⟨st, fp, hd, q, d, st', h', k⟩ => ?_
  unfold eUn at h'
  split at h'
  · rename_i x st1 hx
    split at h'
    · rename_i d' hdd
      cases h'
      refine ⟨st, fp, hd, q, x, _, hx, fun v H1 fp1 q1 l1 r1 => ⟨by rw [List.length_map, sizeLine_eq]; omega, fun pp hn => ?_⟩⟩
      unfold isiD at hdd
      split at hdd
      · rename_i t ht
        split at hdd
        · rename_i hi
          cases z : isiA kt t us with
          | none => rw [z] at hdd; cases hdd
          | some b =>
            rw [z] at hdd
            cases hdd
            have l2 : Le H1 (upd H1 pp (.tup (us.map (tyW T)))) := le_upd hn
            exact ⟨v, pp, us.map (tyW T), tyV' T t, us.map (tyV' T), b, rfl, upd_same, clsV_all us, tyX_of ok (still_le.trans l2) r1 ht hi, kitAny_of ok z, k _ _ fp1 (q1.grow l2) (l1.trans (still_grow q1 l2)) (.bl b)⟩
        · cases hdd
      · cases hdd
    · cases h'
  · cases h'
end
def nonS (r : List V → Hp → VK → Prop) : List V → Hp → VK → Prop := r
def rLen (K : PySem.W.Frag) : List V → Hp → VK → Prop := fun xs H Q => ∃ x n, xs = [x] ∧ LenV K x H n ∧ Q (.int n) H
def lenD : D → Option Nat
  | .str x => if x.length ≤ sizeLine then some x.length else none
  | .lst l => some l.length
  | .lok l => some l.length
  | .tup l => some l.length
  | _ => none
def gLen (ds : List D) : Option D := match ds with
  | [d] => (lenD d).map fun n => .int n
  | _ => none
/-- all bools -/
def blsD : List D → Option (List Bool)
  | [] => some []
  | .bl b :: ds => (blsD ds).map (b :: ·)
  | _ => none
def gAny (ds : List D) : Option D := match ds with
  | [.lst l] => (blsD l).map fun bs => .bl (bs.any id)
  | _ => none
def gAll (ds : List D) : Option D := match ds with
  | [.lst l] => (blsD l).map fun bs => .bl (bs.all id)
  | _ => none
def rTupOf (K : PySem.W.Frag) : List V → Hp → VK → Prop := fun xs H Q => ∃ p ys, xs = [.ref p] ∧ ((SqL K H p ys ∧ ∀ l ob, H l = none → ob.dict = none → Q (.ref l) (upd H l (.frz ob (.tup ys)))) ∨ (SqT K H p ys ∧ Q (.ref p) H))
theorem call_tupN {X : Cx} : CallR X (.type "tuple") (rTupOf X.K) := by
  intro pins s σ H xs us Q I r h
  obtain ⟨p, ys, rfl, h⟩ := h
  obtain ⟨u, rfl, rx⟩ := vals1 r
  cases rx
  rcases h with ⟨hq, q⟩ | ⟨hq, q⟩
  · obtain ⟨its, r', pl, hz⟩ := I.list hq
    refine call_tuple_list pl.isList (fun h' kp => ?_) (by have := r'.length; simp only [List.size_toArray]; omega)
    have I1 : Inv X pins σ H { s with heap := h' } := I.kept (t' := s.toks) kp
    have new := Heap.get?_push_size h' (o := { cls := .type "tuple", data := .seq its.toArray }) rfl
    exact ⟨.ref h'.objs.size, _, I1.laid (t' := s.toks) (o := .frz { cls := .type "tuple", data := .seq its.toArray } (.tup ys)) (fun b o e => Heap.get?_push_of_some _ e) (Nat.le_refl _) ⟨new, hz, its, r', _, new, rfl, _, rfl⟩, rfl, q _ _ (I1.hok.fresh (Nat.le_refl _)) rfl⟩
  · obtain ⟨its, r', pl, hz⟩ := I.tuple hq
    exact call_tuple_same pl ⟨.ref p, H, I, rfl, q⟩
def gTupOf (ds : List D) : Option D := match ds with
  | [.lst l] => some (.tup l)
  | [.lok l] => some (.tup l)
  | [.tup l] => some (.tup l)
  | _ => none
def rLstOf (K : PySem.W.Frag) : List V → Hp → VK → Prop := fun xs H Q => ∃ p ys, xs = [.ref p] ∧ (SqL K H p ys ∨ SqT K H p ys) ∧ ∀ l, H l = none → Q (.ref l) (upd H l (.lst ys))
def rowD : D → Option (List D)
  | .lst l => some l
  | .lok l => some l
  | .tup l => some l
  | _ => none
def gLstOf (ds : List D) : Option D := match ds with
  | [d] => (rowD d).map .lst
  | _ => none
def rAbs : List V → Hp → VK → Prop := fun xs H Q => ∃ i, xs = [.int i] ∧ Q (.int (if i < 0 then -i else i)) H
def gAbs (ds : List D) : Option D := match ds with
  | [.int i] => some (.int (if i < 0 then -i else i))
  | _ => none
def rMax2 : List V → Hp → VK → Prop := fun xs H Q => ∃ i j, xs = [.int i, .int j] ∧ Q (.int (if j > i then j else i)) H
def rMin2 : List V → Hp → VK → Prop := fun xs H Q => ∃ i j, xs = [.int i, .int j] ∧ Q (.int (if j < i then j else i)) H
def gMax2 (ds : List D) : Option D := match ds with
  | [.int i, .int j] => some (.int (if j > i then j else i))
  | _ => none
def gMin2 (ds : List D) : Option D := match ds with
  | [.int i, .int j] => some (.int (if j < i then j else i))
  | _ => none
def rInt1 : List V → Hp → VK → Prop := fun xs H Q => (∃ i, xs = [.int i] ∧ Q (.int i) H) ∨ ∃ k, xs = [.bl k] ∧ Q (.int (if k then 1 else 0)) H
def gInt1 (ds : List D) : Option D := match ds with
  | [.int i] => some (.int i)
  | [.bl k] => some (.int (if k then 1 else 0))
  | _ => none
section
variable {T : Tab} {K : PySem.W.Frag} {H G : Hp}
theorem row_of {v : V} {d : D} {l : List D} (le : Le G H) (r : Rep T K G v d) (e : rowD d = some l) : ∃ a xs, v = .ref a ∧ (SqL K H a xs ∨ SqT K H a xs) ∧ Reps T K G xs l := by
  cases d with
  | lst l' => cases e; cases r with | lst z q => exact ⟨_, _, rfl, .inl (SqL.of (le _ _ z)), q⟩
  | lok l' => cases e; cases r with | lok z q => exact ⟨_, _, rfl, .inl (le.up.sqL z), q⟩
  | tup l' => cases e; cases r with | tup z q => exact ⟨_, _, rfl, .inr (le.up.sqT z.sqT), q⟩
  | _ => cases e
theorem len_of {v : V} {d : D} {n : Nat} (le : Le G H) (r : Rep T K G v d) (e : lenD d = some n) : LenV K v H n := by
  cases d with
  | str x =>
    cases r
    have e : (if x.length ≤ sizeLine then some x.length else none) = some n := e
    split at e
    · rename_i h; cases e; exact ⟨h, rfl⟩
    · cases e
  | lst l => cases e; cases r with | lst z q => exact .inl ⟨_, SqL.of (le _ _ z), q.length.symm⟩
  | lok l => cases e; cases r with | lok z q => exact .inl ⟨_, le.up.sqL z, q.length.symm⟩
  | tup l => cases e; cases r with | tup z q => exact .inr ⟨_, le.up.sqT z.sqT, q.length.symm⟩
  | _ => cases e
theorem bls_of : ∀ {ds : List D} {vs : List V} {bs : List Bool}, Reps T K G vs ds → blsD ds = some bs → vs = bs.map V.bl
  | [], _, _, r, e => by cases r; cases e; rfl
  | d :: ds, _, _, r, e => by
    cases r with
    | cons r1 r2 =>
      cases d with
      | bl b =>
        unfold blsD at e
        cases z : blsD ds with
        | none => rw [z] at e ; cases e
        | some bs =>
          rw [z] at e
          cases e
          cases r1
          rw [bls_of r2 z]
          rfl
      | _ => cases e
theorem len_s : CallS T K (rLen K) gLen := fun xs H G ds d Q le r e k => by
  unfold gLen at e
  split at e
  · rename_i d0
    cases z : lenD d0 with
    | none => rw [z] at e ; cases e
    | some n =>
      rw [z] at e
      cases e
      obtain ⟨v, rfl, r1⟩ := reps1 r
      exact ⟨v, n, rfl, len_of le r1 z, k.scal fun _ => .int _⟩
  · cases e
theorem any_s : CallS T K (rAny K) gAny := fun xs H G ds d Q le r e k => by
  unfold gAny at e
  split at e
  · rename_i l
    cases z : blsD l with
    | none => rw [z] at e ; cases e
    | some bs =>
      rw [z] at e
      cases e
      obtain ⟨v, rfl, r1⟩ := reps1 r
      obtain ⟨a, ys, rfl, hs, rr⟩ := rep_lst (r1.up le.up)
      exact ⟨a, bs, rfl, by rw [← bls_of rr z]; exact hs, k.scal fun _ => .bl _⟩
  · cases e
theorem all_s : CallS T K (rAll K) gAll := fun xs H G ds d Q le r e k => by
  unfold gAll at e
  split at e
  · rename_i l
    cases z : blsD l with
    | none => rw [z] at e ; cases e
    | some bs =>
      rw [z] at e
      cases e
      obtain ⟨v, rfl, r1⟩ := reps1 r
      obtain ⟨a, ys, rfl, hs, rr⟩ := rep_lst (r1.up le.up)
      exact ⟨a, bs, rfl, by rw [← bls_of rr z]; exact hs, k.scal fun _ => .bl _⟩
  · cases e
theorem tupOf_s : CallS T K (rTupOf K) gTupOf := fun xs H G ds d Q le r e k => by
  unfold gTupOf at e
  split at e
  · cases e
    obtain ⟨v, rfl, r1⟩ := reps1 r
    cases r1 with
    | lst z q => exact ⟨_, _, rfl, .inl ⟨SqL.of (le _ _ z), fun p ob hn nd => k.new hn fun G' l h => .tup (TupN.of h nd) (q.up l.up)⟩⟩
  · cases e
    obtain ⟨v, rfl, r1⟩ := reps1 r
    cases r1 with
    | lok z q => exact ⟨_, _, rfl, .inl ⟨le.up.sqL z, fun p ob hn nd => k.new hn fun G' l h => .tup (TupN.of h nd) (q.up l.up)⟩⟩
  · cases e
    obtain ⟨v, rfl, r1⟩ := reps1 r
    cases r1 with
    | tup z q => exact ⟨_, _, rfl, .inr ⟨le.up.sqT z.sqT, k.plain (.tup z q)⟩⟩
  · cases e
theorem lstOf_s : CallS T K (rLstOf K) gLstOf := fun xs H G ds d Q le r e k => by
  unfold gLstOf at e
  split at e
  · rename_i d0
    cases z : rowD d0 with
    | none => rw [z] at e ; cases e
    | some l =>
      rw [z] at e
      cases e
      obtain ⟨v, rfl, r1⟩ := reps1 r
      obtain ⟨a, ys, rfl, hs, rr⟩ := row_of le r1 z
      exact ⟨a, ys, rfl, hs, fun p hn => k.new hn fun G' l h => .lst h (rr.up l.up)⟩
  · cases e
theorem abs_s : CallS T K rAbs gAbs := fun xs H G ds d Q le r e k => by
  unfold gAbs at e
  split at e
  · cases e
    obtain ⟨v, rfl, r1⟩ := reps1 r
    cases r1
    exact ⟨_, rfl, k.scal fun _ => .int _⟩
  · cases e
theorem max2_s : CallS T K rMax2 gMax2 := fun xs H G ds d Q le r e k => by
  unfold gMax2 at e
  split at e
  · cases e
    obtain ⟨v, w, rfl, r1, r2⟩ := reps2 r
    cases r1; cases r2
    exact ⟨_, _, rfl, k.scal fun _ => .int _⟩
  · cases e
theorem min2_s : CallS T K rMin2 gMin2 := fun xs H G ds d Q le r e k => by
  unfold gMin2 at e
  split at e
  · cases e
    obtain ⟨v, w, rfl, r1, r2⟩ := reps2 r
    cases r1; cases r2
    exact ⟨_, _, rfl, k.scal fun _ => .int _⟩
  · cases e
theorem int1_s : CallS T K rInt1 gInt1 := fun xs H G ds d Q le r e k => by
  unfold gInt1 at e
  split at e
  · cases e
    obtain ⟨v, rfl, r1⟩ := reps1 r
    cases r1
    exact .inl ⟨_, rfl, k.scal fun _ => .int _⟩
  · cases e
    obtain ⟨v, rfl, r1⟩ := reps1 r
    cases r1
    exact .inr ⟨_, rfl, k.scal fun _ => .int _⟩
  · cases e
end
section
variable {W : Type} {T : Tab} {R : WR W} {X : Cx} {e : Expr} {es : List Expr} {f : As W} {x : Str} {p pos : Pos} {id : String} {r : List V → Hp → VK → Prop} {g : List D → Option D}
theorem te_callB (hc : CallR X (.builtin id) r) (hg : CallS T X.K r g) (gl : Gl X x) (hm : X.mg x = none) (hv : bootBuiltins x = some (.builtin id)) (ha : PA X (e :: es) (tA T X.K R f)) (hs : noStar (e :: es) = true) (hn : x ≠ "__name__") (hdb : (x == ("__debug__" : Str)) = false) :
    PE X (.Call (.Name x p) (e :: es) [] pos) (tE T X.K R (ePure g f)) := te_pure ha hg fun t h => pe_callB hc gl hm hv h hn hdb ((noStar_cons hs).2 _) (noStar_any (noStar_cons hs).1 _ _)
theorem te_callT (hc : CallR X (.type id) r) (hg : CallS T X.K r g) (gl : Gl X x) (hm : X.mg x = none) (hv : bootBuiltins x = some (.type id)) (ha : PA X (e :: es) (tA T X.K R f)) (hs : noStar (e :: es) = true) (hn : x ≠ "__name__") (hdb : (x == ("__debug__" : Str)) = false) :
    PE X (.Call (.Name x p) (e :: es) [] pos) (tE T X.K R (ePure g f)) := te_pure ha hg fun t h => pe_callTy hc gl hm hv h hn hdb ((noStar_cons hs).2 _) (noStar_any (noStar_cons hs).1 _ _)
end

def gAddL (d e : D) : Option D := match d, e with
  | .lst l, .lst m => if l.length + m.length ≤ sizeLine then some (.lst (l ++ m)) else none
  | _, _ => none
def gAddT (d e : D) : Option D := match d, e with
  | .tup l, .tup m => if l.length + m.length ≤ sizeLine then some (.tup (l ++ m)) else none
  | _, _ => none
section
variable {T : Tab} {K : PySem.W.Frag}
/-- a new thing of two -/
def NewB (T : Tab) (K : PySem.W.Frag) (r : R2) (g : D → D → Option D) : Prop := ∀ x y H G d1 d2 d Q, Le G H → Rep T K G x d1 → Rep T K G y d2 → g d1 d2 = some d → (∀ p o, H p = none → Own T K (upd H p o) G p d → Q (.ref p) (upd H p o)) → r x y H Q
theorem tf_bin {W : Type} {R : WR W} {X : Cx} {a b e : Expr} {f1 f2 : Ex W} {r : R2} {g : D → D → Option D} (ha : PE X a (tE T X.K R f1)) (hb : PE X b (tE T X.K R f2)) (hg : NewB T X.K r g) (h : ∀ ta tb : TE, PE X a ta → PE X b tb → PE X e (tOp r ta tb)) : PE X e (tF T X.K R (eBin g f1 f2)) := (h _ _ ha hb).imp fun σ H Q ⟨st, fp, hd, q, d, st', h', k⟩ => by
  unfold eBin at h'
  split at h'
  · rename_i x st1 hx
    split at h'
    · rename_i y st2 hy
      split at h'
      · rename_i d' hdd
        cases h'
        refine ⟨st, fp, hd, q, x, _, hx, fun v H1 fp1 q1 l1 r1 => ⟨st1, fp1, hd, q1, y, _, hy, fun v2 H2 fp2 q2 l2 r2 => ?_⟩⟩
        exact hg v v2 H2 _ x y d Q still_le (r1.up l2.up) r2 hdd fun p o n own => k p o H2 fp2 q2 (l1.trans l2) n own
      · cases h'
    · cases h'
  · cases h'
theorem addL_n : NewB T K rCat gAddL := fun x y H G d1 d2 d Q le r1 r2 e k => by
  unfold gAddL at e
  split at e
  · split at e
    · rename_i hc
      cases e
      cases r1 with
      | lst z q =>
        cases r2 with
        | lst z2 q2 => exact ⟨_, _, _, _, rfl, rfl, le _ _ z, le _ _ z2, by rw [q.length, q2.length]; exact hc, fun p hn => k p _ hn (.lst upd_same (q.append q2))⟩
    · cases e
  · cases e
theorem addL_s : OpS T K rCat gAddL := fun x y H G d1 d2 d Q le r1 r2 e k => by
  unfold gAddL at e
  split at e
  · split at e
    · rename_i hc
      cases e
      cases r1 with
      | lst z q =>
        cases r2 with
        | lst z2 q2 => exact ⟨_, _, _, _, rfl, rfl, le _ _ z, le _ _ z2, by rw [q.length, q2.length]; exact hc, fun p hn => k.new hn fun G' l h => .lst h ((q.append q2).up l.up)⟩
    · cases e
  · cases e
def rCatN (K : PySem.W.Frag) : R2 := fun x y H Q => ∃ a b xs ys, x = .ref a ∧ y = .ref b ∧ SqT K H a xs ∧ SqT K H b ys ∧ xs.length + ys.length ≤ sizeLine ∧
  (xs = [] → Q (.ref b) H) ∧ (xs ≠ [] → ys = [] → Q (.ref a) H) ∧ (xs ≠ [] → ys ≠ [] → ∀ p ob, H p = none → ob.dict = none → Q (.ref p) (upd H p (.frz ob (.tup (xs ++ ys)))))
theorem op_catN {X : Cx} : OpR X (binaryOp .Add) (rCatN X.K) := by
  intro pins s σ H x y v u Q I rx ry h
  obtain ⟨a, b, xs, ys, rfl, rfl, ha, hb, hz, q0, q1, q2⟩ := h
  cases rx
  cases ry
  obtain ⟨its, r1, p1, _⟩ := I.tuple ha
  obtain ⟨its2, r2, p2, _⟩ := I.tuple hb
  by_cases hx : xs = []
  · subst hx
    cases r1
    exact cat_tup0 p1 p2 ⟨.ref b, H, I, rfl, q0 rfl⟩
  · refine HT.cat_tup p1 p2 (fun z => hx (r1.nil_iff.mp z)) (fun z => ⟨.ref a, H, I, rfl, q1 hx (r2.nil_iff.mp z)⟩) (fun z => ?_) (by rw [← r1.length, ← r2.length] ; exact hz)
    have new := Heap.get?_push_size s.heap (o := { cls := .type "tuple", data := .seq (its ++ its2).toArray }) rfl
    exact ⟨.ref s.heap.objs.size, _, I.laid (t' := s.toks) (o := .frz { cls := .type "tuple", data := .seq (its ++ its2).toArray } (.tup (xs ++ ys))) (fun b ob q => Heap.get?_push_of_some _ q) (Nat.le_refl _) ⟨new, by rw [List.length_append] ; exact hz, _, r1.append r2, _, new, rfl, _, rfl⟩, rfl, q2 hx (fun w => z (r2.nil_iff.mpr w)) _ _ (I.hok.fresh (Nat.le_refl _)) rfl⟩
theorem addT_s : OpS T K (rCatN K) gAddT := fun x y H G d1 d2 d Q le r1 r2 e k => by
  unfold gAddT at e
  split at e
  · rename_i l m
    split at e
    · rename_i hc
      cases e
      cases r1 with
      | tup z q =>
        cases r2 with
        | tup z2 q2 =>
          refine ⟨_, _, _, _, rfl, rfl, le.up.sqT z.sqT, le.up.sqT z2.sqT, by rw [q.length, q2.length]; exact hc, fun h0 => ?_, fun _ h0 => ?_, fun _ _ p ob hn nd => k.new hn fun G' l h => .tup (TupN.of h nd) ((q.append q2).up l.up)⟩
          · subst h0
            cases q
            exact k.plain (.tup z2 q2)
          · subst h0
            cases q2
            rw [List.append_nil] at k
            exact k.plain (.tup z q)
    · cases e
  · cases e
end
def rIxAll (K : PySem.W.Frag) : R2 := rIx K
def ixD (d e : D) : Option D := match e with
  | .int i => (match d with
    | .lst l => atI l i
    | .lok l => atI l i
    | .tup l => atI l i
    | .tuq l => atI l i
    | .str z => if z.length ≤ sizeLine then (atI z.cps.toList i).map fun c => .str ⟨#[c]⟩ else none
    | _ => none)
  | _ => none
section
variable {T : Tab} {K : PySem.W.Frag} {H G : Hp}
theorem reps_atI {vs : List V} {ds : List D} {i : Int} {d : D} (r : Reps T K G vs ds) (e : atI ds i = some d) : ∃ v, atI vs i = some v ∧ Rep T K G v d := by
  unfold atI at e ⊢
  rw [r.length]
  cases z : ixN ds.length i with
  | none => rw [z] at e ; cases e
  | some j => rw [z] at e; exact r.get e
theorem ix_s : OpS T K (rIx K) ixD := fun x y H G d1 d2 d Q le r1 r2 e k => by
  unfold ixD at e
  split at e
  · split at e
    · cases r2
      cases r1 with
      | lst z q =>
        obtain ⟨v, hv, rv⟩ := reps_atI q e
        exact .inl ⟨_, _, _, v, rfl, rfl, SqL.of (le _ _ z), hv, k.plain rv⟩
    · cases r2
      cases r1 with
      | lok z q =>
        obtain ⟨v, hv, rv⟩ := reps_atI q e
        exact .inl ⟨_, _, _, v, rfl, rfl, le.up.sqL z, hv, k.plain rv⟩
    · cases r2
      cases r1 with
      | tup z q =>
        obtain ⟨v, hv, rv⟩ := reps_atI q e
        exact .inr (.inl ⟨_, _, _, v, rfl, rfl, le.up.sqT z.sqT, hv, k.plain rv⟩)
    · cases r2
      cases r1 with
      | tuq z q =>
        obtain ⟨v, hv, rv⟩ := reps_atI q e
        exact .inr (.inl ⟨_, _, _, v, rfl, rfl, le.up.sqT z, hv, k.plain rv⟩)
    · split at e
      · rename_i z hz
        cases r1; cases r2
        cases y : atI z.cps.toList _ with
        | none => rw [y] at e ; cases e
        | some c =>
          rw [y] at e
          cases e
          exact .inr (.inr ⟨_, _, c, rfl, rfl, hz, y, k.scal fun _ => .str _⟩)
      · cases e
    · cases e
  · cases e
end
section
variable {W : Type} {T : Tab} {R : WR W} {X : Cx} {a b : Expr} {f1 f2 : Ex W} {pos : Pos}
theorem te_ix (ha : PE X a (tE T X.K R f1)) (hb : PE X b (tE T X.K R f2)) (hs : PlainIx b) : PE X (.Subscript a b pos) (tE T X.K R (eBin ixD f1 f2)) := te_bin ha hb ix_s fun ta tb h1 h2 => pe_ix ix_seq h1 h2 hs
end
/-- lo and hi of a slice -/
def partD : D → Option (Option Int)
  | .int i => some (some i)
  | _ => none
section
variable {W : Type}
abbrev Op (W : Type) := S W → Option (Option Int × S W)
def oNo : Op W := fun st => some (none, st)
def oYes (f : Ex W) : Op W := fun st => match f st with
  | some (.int i, st1) => some (some i, st1)
  | _ => none
def cutD (d : D) (lo hi : Option Int) : Option D := match d with
  | .lst l => some (.lst ((l.drop (HT.sIx l.length 0 lo)).take (HT.sIx l.length l.length hi - HT.sIx l.length 0 lo)))
  | .lok l => some (.lst ((l.drop (HT.sIx l.length 0 lo)).take (HT.sIx l.length l.length hi - HT.sIx l.length 0 lo)))
  | .tup l => some (.tup ((l.drop (HT.sIx l.length 0 lo)).take (HT.sIx l.length l.length hi - HT.sIx l.length 0 lo)))
  | .str z => if z.length ≤ sizeLine then some (.str (cutS z lo hi)) else none
  | _ => none
def eSl (a : Ex W) (l h : Op W) : Ex W := fun st => match a st with
  | some (x, st1) => (match l st1 with
    | some (lo, st2) => (match h st2 with
      | some (hi, st3) => (match cutD x lo hi with
        | some d => some (d, st3)
        | none => none)
      | none => none)
    | none => none)
  | none => none
def tO (T : Tab) (K : PySem.W.Frag) (R : WR W) (f : Op W) : TO := fun σ H Q => ∃ st fp hd, SR T K R hd st σ H fp ∧ ∃ b st', f st = some (b, st') ∧
  ∀ H' fp', SR T K R hd st' σ H' fp' → Le (still hd st σ H fp) (still hd st' σ H' fp') → Q b H'
end
section
variable {T : Tab} {K : PySem.W.Frag} {H G : Hp}
theorem Reps.drop : ∀ {vs : List V} {ds : List D} (n : Nat), Reps T K G vs ds → Reps T K G (vs.drop n) (ds.drop n)
  | _, _, 0, r => r
  | _, _, n + 1, .nil => .nil
  | _, _, n + 1, .cons _ t => Reps.drop n t
theorem Reps.take : ∀ {vs : List V} {ds : List D} (n : Nat), Reps T K G vs ds → Reps T K G (vs.take n) (ds.take n)
  | _, _, 0, r => by rw [List.take_zero, List.take_zero]; exact .nil
  | _, _, n + 1, .nil => .nil
  | _, _, n + 1, .cons r t => .cons r (Reps.take n t)
def rSlN (K : PySem.W.Frag) : V → Option Int → Option Int → Hp → VK → Prop := fun x lo hi H Q => ∃ a xs, x = .ref a ∧ SqT K H a xs ∧
  (HT.sIx xs.length 0 lo = 0 ∧ HT.sIx xs.length xs.length hi = xs.length → Q (.ref a) H) ∧ (¬ (HT.sIx xs.length 0 lo = 0 ∧ HT.sIx xs.length xs.length hi = xs.length) → ∀ p ob, H p = none → ob.dict = none → Q (.ref p) (upd H p (.frz ob (.tup (cutV xs lo hi)))))
theorem sl_tupN {X : Cx} : SlR X (rSlN X.K) := by
  intro pins s σ H x v vl vu lo hi sl Q I rx hs pl pu h
  obtain ⟨a, xs, rfl, hx, q1, q2⟩ := h
  cases rx
  obtain ⟨its, r, ht, hz⟩ := I.tuple hx
  have hlen : its.toArray.size = xs.length := by rw [List.size_toArray] ; exact r.length.symm
  refine ⟨"tuple", _, PyProof.Rows.slot_tuple_getitem.lookup, ht.typeIs, ?_⟩
  by_cases hw : HT.sIx xs.length 0 lo = 0 ∧ HT.sIx xs.length xs.length hi = xs.length
  · exact getItem_tuple_whole ht hs pl pu (by rw [hlen] ; exact hw) ⟨.ref a, H, I, rfl, q1 hw⟩
  · refine HT.getItem_tuple_cut ht hs pl pu (by rw [hlen] ; exact hw) ?_ (by rw [hlen] ; exact hz)
    rw [hlen]
    have new := Heap.get?_push_size s.heap (o := { cls := .type "tuple", data := .seq ((its.toArray.toList.drop (HT.sIx xs.length 0 lo)).take (HT.sIx xs.length xs.length hi - HT.sIx xs.length 0 lo)).toArray }) rfl
    refine ⟨.ref s.heap.objs.size, _, I.laid (t' := s.toks) (o := .frz _ (.tup (cutV xs lo hi))) (fun b ob q => Heap.get?_push_of_some _ q) (Nat.le_refl _) ⟨new, Nat.le_trans (cutV_length xs lo hi) hz, _, ?_, _, new, rfl, _, rfl⟩, rfl, q2 hw _ _ (I.hok.fresh (Nat.le_refl _)) rfl⟩
    exact (r.drop (HT.sIx xs.length 0 lo)).take (HT.sIx xs.length xs.length hi - HT.sIx xs.length 0 lo)
def rSlAll (K : PySem.W.Frag) : V → Option Int → Option Int → Hp → VK → Prop := fun x lo hi H Q => rSlL K x lo hi H Q ∨ rSlN K x lo hi H Q ∨ rSlS x lo hi H Q
theorem cut_reps {vs : List V} {ds : List D} (r : Reps T K G vs ds) (lo hi : Option Int) : Reps T K G (cutV vs lo hi) ((ds.drop (HT.sIx ds.length 0 lo)).take (HT.sIx ds.length ds.length hi - HT.sIx ds.length 0 lo)) := by
  unfold cutV
  rw [r.length]
  exact (r.drop _).take _
theorem cut_s {x : V} {d d' : D} {lo hi : Option Int} {Q : VK} (le : Le G H) (r : Rep T K G x d) (e : cutD d lo hi = some d') (k : Ans T K H G d' Q) : rSlAll K x lo hi H Q := by
  cases d with
  | lst l =>
    cases e
    cases r with
    | lst z q => exact .inl ⟨_, _, rfl, SqL.of (le _ _ z), fun p hn => k.new hn fun G' l h => .lst h ((cut_reps q lo hi).up l.up)⟩
  | lok l =>
    cases e
    cases r with
    | lok z q => exact .inl ⟨_, _, rfl, le.up.sqL z, fun p hn => k.new hn fun G' l h => .lst h ((cut_reps q lo hi).up l.up)⟩
  | tup l =>
    cases e
    cases r with
    | @tup a xs l z q =>
      refine .inr (.inl ⟨_, _, rfl, le.up.sqT z.sqT, fun hw => ?_, fun _ p ob hn nd => k.new hn fun G' l h => .tup (TupN.of h nd) ((cut_reps q lo hi).up l.up)⟩)
      have e2 : cutV xs lo hi = xs := by
        unfold cutV
        rw [hw.1, hw.2]
        simp
      have q2 := cut_reps q lo hi
      rw [e2] at q2
      exact k.plain (.tup z q2)
  | str z =>
    have e : (if z.length ≤ sizeLine then some (D.str (cutS z lo hi)) else none) = some d' := e
    split at e
    · rename_i hz
      cases e
      cases r
      exact .inr (.inr ⟨z, rfl, hz, k.scal fun _ => .str _⟩)
    · cases e
  | _ => cases e
end
section
variable {W : Type} {T : Tab} {R : WR W} {X : Cx} {a b e : Expr} {lo hi : Option Expr} {f : Ex W} {l h : Op W} {pos p2 : Pos}
theorem _root_.L2.PO.imp {t u : TO} (h : PO X lo t) (i : ∀ σ H Q, u σ H Q → t σ H Q) : PO X lo u := ⟨fun pins s σ H Q I q => h.run pins s σ H Q I (i σ H Q q)⟩
theorem to_no : PO X none (tO T X.K R (oNo (W := W))) := po_none.imp fun σ H Q ⟨st, fp, hd, q, b, st', h', k⟩ => by
  cases h'
  exact k H fp q (Le.refl _)
theorem to_yes (ha : PE X a (tE T X.K R f)) : PO X (some a) (tO T X.K R (oYes f)) := (po_some ha).imp fun σ H Q ⟨st, fp, hd, q, b, st', h', k⟩ => by
  unfold oYes at h'
  split at h'
  · rename_i i st1 h1
    cases h'
    exact ⟨st, fp, hd, q, _, _, h1, fun v H1 fp1 q1 l1 r1 => by cases r1; exact ⟨i, rfl, k H1 fp1 q1 l1⟩⟩
  · cases h'
theorem sl_all : SlR X (rSlAll X.K) := sl_list.or (sl_tupN.or sl_str)
theorem te_sl (ha : PE X a (tE T X.K R f)) (hl : PO X lo (tO T X.K R l)) (hh : PO X hi (tO T X.K R h)) : PE X (.Subscript a (.Slice lo hi none p2) pos) (tE T X.K R (eSl f l h)) := (pe_slice sl_all ha hl hh).imp fun σ H Q ⟨st, fp, hd, q, d, st', h', k⟩ => by
  unfold eSl at h'
  split at h'
  · rename_i x st1 h1
    split at h'
    · rename_i lo' st2 h2
      split at h'
      · rename_i hi' st3 h3
        split at h'
        · rename_i d' hdd
          cases h'
          refine ⟨st, fp, hd, q, x, _, h1, fun v H1 fp1 q1 l1 r1 => ⟨st1, fp1, hd, q1, lo', _, h2, fun H2 fp2 q2 l2 => ⟨st2, fp2, hd, q2, hi', _, h3, fun H3 fp3 q3 l3 => ?_⟩⟩⟩
          exact cut_s still_le (r1.up (l2.trans l3).up) hdd (ans_of q3 fun v4 H4 fp4 q4 l4 r4 => k v4 H4 fp4 q4 (((l1.trans l2).trans l3).trans l4) r4)
        · cases h'
      · cases h'
    · cases h'
  · cases h'
end
end Mi
namespace Mi
open PySem PySem.Spec L2
open PyProof.Rows hiding St

/-- not super() -/
def notSup : Expr → Bool
  | .Call .. => false
  | _ => true
theorem base_of {o : Expr} (h : notSup o = true) (nm : Str) (env : Env) (whole : Sem Value) : attributeBase o nm env whole = whole := by
  cases o <;> first | rfl | (cases h)
theorem few_args {es : List Expr} (h : noStar es = true) (pos : Pos) (env : Env) : (backTo pos (starEach es env)).all (fun x => !x.1) = true := by
  induction es with
  | nil => rfl
  | cons e es ih =>
    obtain ⟨h1, h2⟩ := noStar_cons h
    rw [h2 env]
    show (true && (backTo pos (starEach es env)).all (fun x => !x.1)) = true
    rw [ih h1] <;> rfl
theorem call_form {o : Expr} {nm : Str} {apos pos : Pos} {es : List Expr} {kws : List Keyword} {ks : List Str} (env : Env) (hb : notSup o = true) (hs : noStar es = true) (hks : kwNames kws = some ks) (hn : es.length + kws.length < 29) (hl : (apos.endLine == pos.line) = true) :
    eval (.Call (.Attribute o nm apos) es kws pos) env = (do
      let ov ← eval o env
      standAt apos.atName
      let (f, first) ← holding [ov] (getMethod ov nm (do return (← importBound o env).getD true))
      callWith pos f first (backTo pos (starEach es env)) (backToKw pos (keywordEach kws env))) := by
  rw [arm_eval_Call, base_of hb]
  have hf : methodCallForm (es.length + kws.length) (backTo pos (starEach es env)) (backToKw pos (keywordEach kws env)) = true := by
    unfold methodCallForm
    have k1 : (backTo pos (starEach es env)).all (!·.1) = true := few_args hs pos env
    rw [k1, (kw_all hks pos env).1]
    have : es.length + kws.length + (if (backToKw pos (keywordEach kws env)).isEmpty then 0 else 1) < 30 := by split <;> omega
    simpa using this
  have hp : methodCallPos true o env apos pos = pure pos := by
    unfold methodCallPos
    simp [hl]
  unfold methodCall calleeOf
  rw [hf]
  simp only [if_true, hp, pure_bind]
theorem call_form0 {x : Str} {p pos : Pos} {es : List Expr} {kws : List Keyword} (env : Env) : eval (.Call (.Name x p) es kws pos) env = (do callWith pos (← eval (.Name x p) env) [] (backTo pos (starEach es env)) (backToKw pos (keywordEach kws env))) := rfl

section
variable {W : Type}
/-- o.m(..) of built-in things -/
def eBm (g : D → List D → Option D) (a : Ex W) (f : As W) : Ex W := fun st => match a st with
  | some (x, st1) => (match f st1 with
    | some (ds, st2) => (match g x ds with
      | some d => some (d, st2)
      | none => none)
    | none => none)
  | none => none
end
/-- a method of a built-in type: the types it may be of, what it does -/
structure BmS (T : Tab) (X : Cx) (nm : Str) (Tn id : String) (r : V → List V → Hp → VK → Prop) (g : D → List D → Option D) : Prop where
  pa : PlainAttrs Tn
  slot : PySem.Slot Tn nm id
  ty : typeOf (.builtin id) = pure (.type "method_descriptor")
  mt : MtR X id r
  kind : ∀ {v : V} {d : D} {G H : Hp} {ds : List D} {d' : D}, Le G H → Rep T X.K G v d → g d ds = some d' → tyV X.K Tn v H
  does : ∀ {v : V} {d : D} {G H : Hp} {vs : List V} {ds : List D} {d' : D} {Q : VK}, Le G H → Rep T X.K G v d → Reps T X.K G vs ds → g d ds = some d' → Ans T X.K H G d' Q → r v vs H Q
section
variable {W : Type} {T : Tab} {R : WR W} {X : Cx} {o e : Expr} {es : List Expr} {nm : Str} {apos pos : Pos} {Tn id : String} {r : V → List V → Hp → VK → Prop} {g : D → List D → Option D} {a : Ex W} {f : As W}
theorem te_bm (b : BmS T X nm Tn id r g) (ho : PE X o (tE T X.K R a)) (ha : PA X (e :: es) (tA T X.K R f)) (hb : notSup o = true) (hs : noStar (e :: es) = true) (hn : (e :: es).length < 29) (hl : (apos.endLine == pos.line) = true) : PE X (.Call (.Attribute o nm apos) (e :: es) [] pos) (tE T X.K R (eBm g a f)) := by
  have few : ((backTo pos (starEach (e :: es) X.env)).all (fun x => !x.1) && (backToKw pos (keywordEach [] X.env)).all (fun x => x.1.isSome) && decide ((e :: es).length + ([] : List Keyword).length + (if ([] : List Keyword).isEmpty then 0 else 1) < 30)) = true := by
    rw [few_args hs pos X.env]
    have : decide ((e :: es).length + ([] : List Keyword).length + (if ([] : List Keyword).isEmpty then 0 else 1) < 30) = true := decide_eq_true (by simp at hn ⊢; omega)
    rw [this]
    rfl
  refine (pe_bm b.pa b.slot b.ty b.mt ho ha (base_of hb _ _ _) few hl ((noStar_cons hs).2 _) (noStar_any (noStar_cons hs).1 _ _)).imp fun σ H Q ⟨st, fp, hd, q, d, st', h', k⟩ => ?_
  unfold eBm at h'
  split at h'
  · rename_i x st1 h1
    split at h'
    · rename_i ds st2 h2
      split at h'
      · rename_i d' hg
        cases h'
        refine ⟨st, fp, hd, q, x, _, h1, fun v H1 fp1 q1 l1 r1 => ⟨b.kind still_le r1 hg, st1, fp1, hd, q1, ds, _, h2, fun vs H2 fp2 q2 l2 r2 => ?_⟩⟩
        exact b.does still_le (r1.up l2.up) r2 hg (ans_of q2 fun v3 H3 fp3 q3 l3 r3 => k v3 H3 fp3 q3 ((l1.trans l2).trans l3) r3)
      · cases h'
    · cases h'
  · cases h'
end
/-- either of two built-in types -/
theorem pe_bmD {X : Cx} {o e : Expr} {es : List Expr} {to : TE} {t : TA} {name : Str} {apos cpos : Pos} {T1 T2 id1 id2 : String} {r1 r2 : V → List V → Hp → VK → Prop} (pa1 : PlainAttrs T1) (slot1 : PySem.Slot T1 name id1) (ty1 : typeOf (.builtin id1) = pure (.type "method_descriptor")) (m1 : MtR X id1 r1)
    (pa2 : PlainAttrs T2) (slot2 : PySem.Slot T2 name id2) (ty2 : typeOf (.builtin id2) = pure (.type "method_descriptor")) (m2 : MtR X id2 r2) (ho : PE X o to) (ha : PA X (e :: es) t) (hbase : attributeBase o name X.env (eval o X.env) = eval o X.env)
    (hfew : ((backTo cpos (starEach (e :: es) X.env)).all (fun x => !x.1) && (backToKw cpos (keywordEach [] X.env)).all (fun x => x.1.isSome) && decide ((e :: es).length + ([] : List Keyword).length + (if ([] : List Keyword).isEmpty then 0 else 1) < 30)) = true)
    (hline : (apos.endLine == cpos.line) = true) (hs : starEach (e :: es) X.env = (false, eval e X.env) :: starEach es X.env) (hplain : (backTo cpos (starEach es X.env)).any (·.1) = false) :
    PE X (.Call (.Attribute o name apos) (e :: es) [] cpos) (fun σ H Q => to σ H fun x H1 => (tyV X.K T1 x H1 ∧ t σ H1 fun xs H2 => r1 x xs H2 Q) ∨ (tyV X.K T2 x H1 ∧ t σ H1 fun xs H2 => r2 x xs H2 Q)) := by
  refine ⟨fun pins s σ H Q I h => ?_⟩
  refine wpAny_Call_method_late hbase hfew hline rfl (thn (ho.run pins s σ H _ I h) fun v s1 ⟨x, H1, I1, rx, q1⟩ => ?_)
  rcases q1 with ⟨ty, q1⟩ | ⟨ty, q1⟩
  · obtain ⟨h1, h2⟩ := tyV_is I1 rx ty
    refine ⟨T1, id1, pa1, slot1, ty1, h1, h2, ?_⟩
    have hA := ha.run cpos pins s1 σ H1 _ I1 q1
    rw [hs] at hA ⊢
    exact Calls.callWith_builtin (by show (false || (backTo cpos (starEach es X.env)).any (·.1)) = false; rw [hplain] ; rfl) (Calls.evalArgs_plain (thn hA fun us s2 ⟨vs, H2, I2, r2, q2⟩ => m1 pins s2 σ H2 x vs v us Q I2 rx r2 q2))
  · obtain ⟨h1, h2⟩ := tyV_is I1 rx ty
    refine ⟨T2, id2, pa2, slot2, ty2, h1, h2, ?_⟩
    have hA := ha.run cpos pins s1 σ H1 _ I1 q1
    rw [hs] at hA ⊢
    exact Calls.callWith_builtin (by show (false || (backTo cpos (starEach es X.env)).any (·.1)) = false; rw [hplain] ; rfl) (Calls.evalArgs_plain (thn hA fun us s2 ⟨vs, H2, I2, r2, q2⟩ => m2 pins s2 σ H2 x vs v us Q I2 rx r2 q2))
def gSplit (d : D) (ds : List D) : Option D := match d, ds with
  | .str a, [.str b] => if (b.length == 0) = false ∧ a.length + 2 ≤ sizeLine then some (.lst ((Txt.split a b).map D.str)) else none
  | _, _ => none
def gJoin (d : D) (ds : List D) : Option D := match d, ds with
  | .str a, [x] => (match items x with
    | some l => (match strsD l with
      | some ys => if (ys.map (·.length)).sum + ys.length * a.length ≤ 16777216 then some (.str (Txt.join a ys)) else none
      | none => none)
    | none => none)
  | _, _ => none
section
variable {T : Tab} {X : Cx}
theorem split_b : BmS T X "split" "str" "str.split" (fun x xs H Q => ∃ a b, x = .str a ∧ xs = [.str b] ∧ (b.length == 0) = false ∧ a.length + 2 ≤ sizeLine ∧ rNewStrs (Txt.split a b) H Q) gSplit where
  pa := F.plainAttrs_str
  slot := F.slot_str_split
  ty := F.type_str_split
  mt := mt_split
  kind := fun le r e => by
    unfold gSplit at e
    split at e
    · cases r; rfl
    · cases e
  does := fun le r r2 e k => by
    unfold gSplit at e
    split at e
    · split at e
      · rename_i hc
        cases e
        cases r
        obtain ⟨v, rfl, q⟩ := reps1 r2
        cases q
        exact ⟨_, _, rfl, rfl, hc.1, hc.2, fun p hn => k.new hn fun G' l h => .lst h (reps_strs _)⟩
      · cases e
    · cases e
theorem items_row {K : PySem.W.Frag} {G H : Hp} {v : V} {d : D} {l : List D} (le : Le G H) (r : Rep T K G v d) (e : items d = some l) : ∃ a xs, v = .ref a ∧ (SqL K H a xs ∨ SqT K H a xs) ∧ Reps T K G xs l := by
  cases d with
  | lst l' => cases e; cases r with | lst z q => exact ⟨_, _, rfl, .inl (SqL.of (le _ _ z)), q⟩
  | tup l' => cases e; cases r with | tup z q => exact ⟨_, _, rfl, .inr (le.up.sqT z.sqT), q⟩
  | tuq l' => cases e; cases r with | tuq z q => exact ⟨_, _, rfl, .inr (le.up.sqT z), q⟩
  | _ => cases e
theorem join_b : BmS T X "join" "str" "str.join" (fun x xs H Q => ∃ a p, ∃ ys : List Str, x = .str a ∧ xs = [.ref p] ∧ (SqL X.K H p (ys.map V.str) ∨ SqT X.K H p (ys.map V.str)) ∧ (ys.map (·.length)).sum + ys.length * a.length ≤ 16777216 ∧ Q (.str (Txt.join a ys)) H) gJoin where
  pa := F.plainAttrs_str
  slot := F.slot_str_join
  ty := F.type_str_join
  mt := mt_join
  kind := fun le r e => by
    unfold gJoin at e
    split at e
    · cases r; rfl
    · cases e
  does := fun {v d G H vs ds d' Q} le r r2 e k => by
    unfold gJoin at e
    split at e
    · split at e
      · rename_i hl
        split at e
        · rename_i ys hy
          split at e
          · rename_i hc
            cases e
            cases r
            obtain ⟨v, rfl, q⟩ := reps1 r2
            obtain ⟨a, xs, rfl, hs, rr⟩ := items_row le q hl
            have ex := strsD_of rr hy
            subst ex
            exact ⟨_, a, ys, rfl, rfl, hs, hc, k.scal fun _ => .str _⟩
          · cases e
        · cases e
      · cases e
    · cases e
end
end Mi
namespace Mi
open PySem PySem.Spec L2
open PyProof.Rows hiding St

def keyIs (k : Key) (d : D) : Bool := match k, d with
  | .inl i, .int j => i == j
  | .inr x, .str y => x == y
  | _, _ => false
def keyOfD : D → Option Key
  | .int i => some (.inl i)
  | .str x => some (.inr x)
  | _ => none
def putKD (l : List (D × D)) (k : Key) (v : D) : List (D × D) := if (l.any fun p => keyIs k p.1) = true then l.map (fun p => if keyIs k p.1 = true then (p.1, v) else p) else l ++ [(keyD k, v)]
def valKD (l : List (D × D)) (k : Key) : Option D := (l.find? fun p => keyIs k p.1).map (·.2)
theorem keyIs_keyD (k k' : Key) : keyIs k (keyD k') = decide (k' = k) := by
  cases k with
  | inl a => cases k' with
    | inl b =>
      show (a == b) = decide (Sum.inl b = Sum.inl a)
      by_cases h : a = b
      · simp [h]
      · simp [h, Ne.symm h]
    | inr b => simp [keyIs, keyD]
  | inr a => cases k' with
    | inl b => simp [keyIs, keyD]
    | inr b =>
      show (a == b) = decide (Sum.inr b = Sum.inr a)
      by_cases h : a = b
      · simp [h]
      · simp [h, Ne.symm h]
theorem keyOfD_of {T : Tab} {K : PySem.W.Frag} {G : Hp} {v : V} {d : D} {k : Key} (r : Rep T K G v d) (e : keyOfD d = some k) : v = kV k := by
  cases d <;> first | (cases e; done) | (cases e; cases r; rfl)
section
variable {T : Tab} {K : PySem.W.Frag} {G : Hp}
theorem RepK.length : ∀ {vs : List (Key × V)} {ds : List (D × D)}, RepK T K G vs ds → vs.length = ds.length
  | _, _, .nil => rfl
  | _, _, .cons _ t => congrArg Nat.succ (RepK.length t)
theorem RepK.any (k : Key) : ∀ {vs : List (Key × V)} {ds : List (D × D)}, RepK T K G vs ds → (vs.any fun p => decide (p.1 = k)) = (ds.any fun p => keyIs k p.1)
  | _, _, .nil => rfl
  | _, _, .cons (k := k') r t => by
    rw [List.any_cons, List.any_cons, RepK.any k t]
    show (decide (k' = k) || _) = (keyIs k (keyD k') || _)
    rw [keyIs_keyD]
theorem RepK.mapPut (k : Key) {v : V} {d : D} (h : Rep T K G v d) : ∀ {vs : List (Key × V)} {ds : List (D × D)}, RepK T K G vs ds → RepK T K G (vs.map fun p => if p.1 = k then (p.1, v) else p) (ds.map fun p => if keyIs k p.1 = true then (p.1, d) else p)
  | _, _, .nil => .nil
  | _, _, .cons (k := k') r t => by
    rw [List.map_cons, List.map_cons]
    have e : keyIs k (keyD k') = decide (k' = k) := keyIs_keyD k k'
    by_cases z : k' = k
    · rw [if_pos (show (k', _).1 = k from z), if_pos (show keyIs k (keyD k', _).1 = true from by rw [e]; exact decide_eq_true z)]
      exact .cons h (RepK.mapPut k h t)
    · rw [if_neg (show ¬ (k', _).1 = k from z), if_neg (show ¬ keyIs k (keyD k', _).1 = true from by rw [e]; simp [z])]
      exact .cons r (RepK.mapPut k h t)
theorem RepK.snoc (k : Key) {v : V} {d : D} (h : Rep T K G v d) : ∀ {vs : List (Key × V)} {ds : List (D × D)}, RepK T K G vs ds → RepK T K G (vs ++ [(k, v)]) (ds ++ [(keyD k, d)])
  | _, _, .nil => .cons h .nil
  | _, _, .cons r t => .cons r (RepK.snoc k h t)
theorem RepK.put (k : Key) {v : V} {d : D} (h : Rep T K G v d) {vs : List (Key × V)} {ds : List (D × D)} (r : RepK T K G vs ds) : RepK T K G (putK vs k v) (putKD ds k d) := by
  unfold putK putKD
  rw [r.any k]
  split
  · exact r.mapPut k h
  · exact r.snoc k h
theorem RepK.val (k : Key) : ∀ {vs : List (Key × V)} {ds : List (D × D)}, RepK T K G vs ds → (∀ d, valKD ds k = some d → ∃ v, valV vs k = some v ∧ Rep T K G v d) ∧ (valKD ds k = none → valV vs k = none)
  | _, _, .nil => ⟨fun d e => (by cases e), fun _ => rfl⟩
  | _, _, .cons (k := k') (v := v) (d := d0) (vs := vs) (ds := ds) r t => by
    obtain ⟨h1, h2⟩ := RepK.val k t
    have e : keyIs k (keyD k') = decide (k' = k) := keyIs_keyD k k'
    unfold valKD valV at *
    rw [List.find?_cons, List.find?_cons]
    show (∀ d, Option.map _ (match keyIs k (keyD k') with | true => some (keyD k', d0) | false => _) = some d → ∃ w, Option.map _ (match decide (k' = k) with | true => some (k', v) | false => _) = some w ∧ _) ∧ (Option.map _ (match keyIs k (keyD k') with | true => some (keyD k', d0) | false => _) = none → Option.map _ (match decide (k' = k) with | true => some (k', v) | false => _) = none)
    rw [e]
    cases decide (k' = k) with
    | true => exact ⟨fun d z => by cases z; exact ⟨v, rfl, r⟩, fun z => by cases z⟩
    | false => exact ⟨h1, h2⟩
theorem RepK.at_ : ∀ {vs : List (Key × V)} {ds : List (D × D)} {i : Nat} {p : D × D}, RepK T K G vs ds → ds[i]? = some p → ∃ k v, vs[i]? = some (k, v) ∧ p.1 = keyD k ∧ Rep T K G v p.2
  | _, _, _, _, .nil, e => by simp at e
  | _, _, 0, _, .cons r _, e => by simp at e; subst e; exact ⟨_, _, rfl, rfl, r⟩
  | _, _, i + 1, p, .cons _ t, e => by
    obtain ⟨k, v, h1, h2, h3⟩ := RepK.at_ (i := i) (p := p) t (by simpa using e)
    exact ⟨k, v, by simpa using h1, h2, h3⟩
theorem rep_dic {v : V} {l : List (D × D)} (h : Rep T K G v (.dic l)) : ∃ a ob kvs, v = .ref a ∧ G a = some (.frz ob (.dK kvs)) ∧ RepK T K G kvs l := by
  cases h with
  | dK z r => exact ⟨_, _, _, rfl, z, r⟩
theorem rep_key {k : Key} : Rep T K G (kV k) (keyD k) := by
  cases k
  · exact .int _
  · exact .str _
end
def rIxDict : R2 := fun x y H Q => ∃ a v, x = .ref a ∧ DGet H a y (some v) ∧ Q v H
def rInDict (neg : Bool) : R2 := fun y x H Q => ∃ a o, x = .ref a ∧ DGet H a y o ∧ Q (.bl (if neg then !o.isSome else o.isSome)) H
section
variable {X : Cx}
theorem ix_dict (hu : X.A.units + 1 < cLine) : IxR X rIxDict := by
  intro value slice pins s σ H x y v u Q I rx ry h hs
  obtain ⟨a, w, rfl, g, q⟩ := h
  cases rx
  exact tail_any (dict_typeIs I g) PySem.F.slot_dict_getitem.lookup (d_getItem hu I g ry fun w' s3 I3 rw' => ⟨w, H, I3, rw', q⟩) hs
theorem op_inDict (hu : X.A.units + 1 < cLine) : OpR X (compareOp .In) (rInDict false) := by
  intro pins s σ H x y v u Q I rx ry h
  obtain ⟨a, o, rfl, g, q⟩ := h
  cases ry
  exact d_in hu I g rx fun s3 I3 => ⟨.bl o.isSome, H, I3, rfl, q⟩
theorem op_notInDict (hu : X.A.units + 1 < cLine) : OpR X (compareOp .NotIn) (rInDict true) := by
  intro pins s σ H x y v u Q I rx ry h
  obtain ⟨a, o, rfl, g, q⟩ := h
  cases ry
  exact d_notIn hu I g rx fun s3 I3 => ⟨.bl (!o.isSome), H, I3, rfl, q⟩
end
def ixDict (d e : D) : Option D := match d with
  | .dic l => (match keyOfD e with
    | some k => valKD l k
    | none => none)
  | _ => none
def inDict (d e : D) : Option Bool := match e with
  | .dic l => (match keyOfD d with
    | some k => some (valKD l k).isSome
    | none => none)
  | _ => none
section
variable {T : Tab} {K : PySem.W.Frag}
theorem ixDict_s : OpS T K rIxDict ixDict := fun x y H G d1 d2 d Q le r1 r2 e k => by
  unfold ixDict at e
  split at e
  · split at e
    · rename_i l kk hk
      obtain ⟨a, ob, kvs, rfl, z, rk⟩ := rep_dic r1
      obtain ⟨v, hv, rv⟩ := (rk.val kk).1 d e
      have ey := keyOfD_of r2 hk
      subst ey
      exact ⟨a, v, rfl, .inl ⟨kvs, kk, .inr ⟨ob, le _ _ z⟩, rfl, hv.symm⟩, k.plain rv⟩
    · cases e
  · cases e
theorem dget_of {H G : Hp} {x y : V} {l : List (D × D)} {e : D} {kk : Key} (le : Le G H) (r1 : Rep T K G x (.dic l)) (r2 : Rep T K G y e) (hk : keyOfD e = some kk) : ∃ a o, x = .ref a ∧ DGet H a y o ∧ o.isSome = (valKD l kk).isSome ∧ (∀ d, valKD l kk = some d → ∃ v, o = some v ∧ Rep T K G v d) := by
  obtain ⟨a, ob, kvs, rfl, z, rk⟩ := rep_dic r1
  have ey := keyOfD_of r2 hk
  subst ey
  refine ⟨a, valV kvs kk, rfl, .inl ⟨kvs, kk, .inr ⟨ob, le _ _ z⟩, rfl, rfl⟩, ?_, fun d e => ?_⟩
  · cases h : valKD l kk with
    | none => rw [(rk.val kk).2 h]; rfl
    | some d => obtain ⟨v, hv, _⟩ := (rk.val kk).1 d h; rw [hv]; rfl
  · exact (rk.val kk).1 d e
theorem inDict_of {H G : Hp} {x y : V} {d e : D} {b : Bool} (le : Le G H) (r1 : Rep T K G x d) (r2 : Rep T K G y e) (h : inDict d e = some b) : ∃ a o, y = .ref a ∧ DGet H a x o ∧ o.isSome = b := by
  unfold inDict at h
  split at h
  · rename_i l
    split at h
    · rename_i kk hk
      cases h
      obtain ⟨a, o, rfl, g, hs, _⟩ := dget_of le r2 r1 hk
      exact ⟨a, o, rfl, g, hs⟩
    · cases h
  · cases h
theorem inDict_s : OpS T K (rInDict false) (fun d e => (inDict d e).map .bl) := fun x y H G d1 d2 d Q le r1 r2 e k => by
  cases z : inDict d1 d2 with
  | none => simp only [z] at e; cases e
  | some b =>
    simp only [z] at e
    cases e
    obtain ⟨a, o, rfl, g, rfl⟩ := inDict_of le r1 r2 z
    exact ⟨a, o, rfl, g, k.scal fun _ => .bl _⟩
theorem notInDict_s : OpS T K (rInDict true) (fun d e => (inDict d e).map fun b => .bl (!b)) := fun x y H G d1 d2 d Q le r1 r2 e k => by
  cases z : inDict d1 d2 with
  | none => simp only [z] at e; cases e
  | some b =>
    simp only [z] at e
    cases e
    obtain ⟨a, o, rfl, g, rfl⟩ := inDict_of le r1 r2 z
    exact ⟨a, o, rfl, g, k.scal fun _ => .bl _⟩
end
def gIxA : D → D → Option D := orG ixD ixDict
def gInA : D → D → Option D := orG gIn fun d e => (inDict d e).map .bl
def gNotInA : D → D → Option D := orG gNotIn fun d e => (inDict d e).map fun b => .bl (!b)
section
variable {W : Type} {T : Tab} {R : WR W} {X : Cx} {a b e f o : Expr} {f1 f2 f3 : Ex W} {pos p apos cpos : Pos}
theorem te_ixA (hu : X.A.units + 1 < cLine) (ha : PE X a (tE T X.K R f1)) (hb : PE X b (tE T X.K R f2)) (hs : PlainIx b) : PE X (.Subscript a b pos) (tE T X.K R (eBin gIxA f1 f2)) := te_bin ha hb (or_s ix_s ixDict_s) fun ta tb h1 h2 => pe_ix (ix_seq.or (ix_dict hu)) h1 h2 hs
theorem te_in (hu : X.A.units + 65 < cLine) (ha : PE X a (tE T X.K R f1)) (hb : PE X b (tE T X.K R f2)) (hm : behindInMarks .In b = false) : PE X (.Compare a [.In] [b] pos) (tE T X.K R (eBin gInA f1 f2)) := te_bin ha hb (or_s in_s inDict_s) fun ta tb h1 h2 => pe_cmpR ((op_inAll hu).or (op_inDict (by omega))) h1 h2 hm
theorem te_notIn (hu : X.A.units + 65 < cLine) (ha : PE X a (tE T X.K R f1)) (hb : PE X b (tE T X.K R f2)) (hm : behindInMarks .NotIn b = false) : PE X (.Compare a [.NotIn] [b] pos) (tE T X.K R (eBin gNotInA f1 f2)) := te_bin ha hb (or_s notIn_s notInDict_s) fun ta tb h1 h2 => pe_cmpR ((op_notInAll hu).or (op_notInDict (by omega))) h1 h2 hm
/-- d.get(k, x) -/
def eGet2 {W : Type} (a b c : Ex W) : Ex W := fun st => match a st with
  | some (.dic l, st1) => (match b st1 with
    | some (kd, st2) => (match c st2 with
      | some (x, st3) => (match keyOfD kd with
        | some k => (match valKD l k with
          | some d => some (d, st3)
          | none => some (x, st3))
        | none => none)
      | none => none)
    | none => none)
  | _ => none
theorem te_get2 (hu : X.A.units + 1 < cLine) (ho : PE X o (tE T X.K R f1)) (he : PE X e (tE T X.K R f2)) (hf : PE X f (tE T X.K R f3)) (m : M2 X o "get" apos e f cpos) : PE X (.Call (.Attribute o "get" apos) [e, f] [] cpos) (tE T X.K R (eGet2 f1 f2 f3)) := (pe_dget2 hu ho he hf m).imp fun σ H Q ⟨st, fp, hd, q, d, st', h', k⟩ => by
  unfold eGet2 at h'
  split at h'
  · rename_i l st1 h1
    split at h'
    · rename_i kd st2 h2
      split at h'
      · rename_i x st3 h3
        split at h'
        · rename_i kk hk
          refine ⟨st, fp, hd, q, _, _, h1, fun v H1 fp1 q1 l1 r1 => ?_⟩
          obtain ⟨ad, ob, kvs, rfl, z, rk⟩ := rep_dic r1
          refine ⟨ad, rfl, .inl ⟨kvs, .inr ⟨ob, still_le _ _ z⟩⟩, st1, fp1, hd, q1, kd, _, h2, fun y H2 fp2 q2 l2 r2 => ⟨st2, fp2, hd, q2, x, _, h3, fun w H3 fp3 q3 l3 r3 => ?_⟩⟩
          obtain ⟨a', o, ea, g, hs, hv⟩ := dget_of still_le (Rep.up (l2.trans l3).up (.dK z rk)) (r2.up l3.up) hk
          cases ea
          refine ⟨o, g, ?_⟩
          cases y1 : valKD l kk with
          | some d0 =>
            rw [y1] at h'
            cases h'
            obtain ⟨v0, rfl, rv⟩ := hv d y1
            exact k v0 H3 fp3 q3 ((l1.trans l2).trans l3) rv
          | none =>
            rw [y1] at h' hs
            cases h'
            cases o with
            | some _ => cases hs
            | none => exact k w H3 fp3 q3 ((l1.trans l2).trans l3) r3
        · cases h'
      · cases h'
    · cases h'
  · cases h'
end
/-- the keys -/
def keysOf : D → Option (List D)
  | .dic l => some (l.map (·.1))
  | _ => none
def valsOf : D → Option (List D)
  | .dic l => some (l.map (·.2))
  | _ => none
def itemsOf : D → Option (List D)
  | .dic l => some (l.map fun p => .tuq [p.1, p.2])
  | _ => none
section
variable {T : Tab} {K : PySem.W.Frag} {G : Hp} {a : Addr} {ob : Obj} {kvs : List (Key × V)} {l : List (D × D)}
theorem it_keys (z : G a = some (.frz ob (.dK kvs))) (rk : RepK T K G kvs l) : ItOk T K (Itk a ob kvs) (l.map (·.1)) G := fun H le i => by
  constructor
  · intro d e
    rw [List.getElem?_map] at e
    cases y : l[i]? with
    | none => rw [y] at e ; cases e
    | some p =>
      rw [y] at e
      cases e
      obtain ⟨k, v, h1, h2, h3⟩ := rk.at_ y
      refine ⟨⟨le _ _ z, (List.getElem?_eq_some_iff.mp h1).1⟩, fun x H' hy => ?_⟩
      obtain ⟨rfl, k2, v2, h4, rfl⟩ := hy
      rw [h1] at h4
      cases h4
      refine ⟨Le.refl _, fun G' s => ?_⟩
      show Rep T K G' (kV k) p.1
      rw [h2]
      exact rep_key
  · intro hl
    rw [List.length_map, ← rk.length] at hl
    exact ⟨le _ _ z, hl⟩
theorem it_vals (z : G a = some (.frz ob (.dK kvs))) (rk : RepK T K G kvs l) : ItOk T K (Itd a ob kvs) (l.map (·.2)) G := fun H le i => by
  constructor
  · intro d e
    rw [List.getElem?_map] at e
    cases y : l[i]? with
    | none => rw [y] at e ; cases e
    | some p =>
      rw [y] at e
      cases e
      obtain ⟨k, v, h1, h2, h3⟩ := rk.at_ y
      refine ⟨⟨le _ _ z, (List.getElem?_eq_some_iff.mp h1).1⟩, fun x H' hy => ?_⟩
      obtain ⟨rfl, k2, h4⟩ := hy
      rw [h1] at h4
      cases h4
      exact ⟨Le.refl _, fun G' s => h3.up s.1.up⟩
  · intro hl
    rw [List.length_map, ← rk.length] at hl
    exact ⟨le _ _ z, hl⟩
theorem it_items (z : G a = some (.frz ob (.dK kvs))) (rk : RepK T K G kvs l) : ItOk T K (Iti a ob kvs) (l.map fun p => .tuq [p.1, p.2]) G := fun H le i => by
  constructor
  · intro d e
    rw [List.getElem?_map] at e
    cases y : l[i]? with
    | none => rw [y] at e ; cases e
    | some p =>
      rw [y] at e
      cases e
      obtain ⟨k, v, h1, h2, h3⟩ := rk.at_ y
      refine ⟨⟨le _ _ z, (List.getElem?_eq_some_iff.mp h1).1⟩, fun x H' hy => ?_⟩
      obtain ⟨p2, k2, v2, h4, rfl, hn, rfl⟩ := hy
      rw [h1] at h4
      cases h4
      refine ⟨le_upd hn, fun G' s => pair_rep s.1 (s.2 p2 _ hn upd_same) ?_ h3⟩
      show Rep T K G (kV k) p.1
      rw [h2]
      exact rep_key
  · intro hl
    rw [List.length_map, ← rk.length] at hl
    exact ⟨le _ _ z, hl⟩
end
section
variable {W : Type} {T : Tab} {R : WR W} {X : Cx} {e tg : Expr} {f : Ex W} {apos cpos tpos : Pos} {elts : List Expr} {kk : Nat}
/-- the walk of something that is read from a dict -/
theorem ti_ofD {g : D → Option (List D)} {ri : V → Hp → (It → Hp → Prop) → Prop} {iter : Expr} (he : PE X e (tE T X.K R f)) (hh : ∀ t : TE, PE X e t → PI X tg iter (fun σ H Q => t σ H fun x H1 => ri x H1 Q))
    (hr : ∀ {x : V} {H G : Hp} {d : D} {ds : List D} {Q : It → Hp → Prop}, Le G H → Rep T X.K G x d → g d = some ds → (∀ J, ItOk T X.K J ds G → Q J H) → ri x H Q) : PI X tg iter (tI T X.K R (iOf g f)) := (hh _ he).imp fun σ H Q ⟨st, fp, hd, q, ds, st', h', k⟩ => by
  unfold iOf at h'
  split at h'
  · rename_i d st1 h1
    split at h'
    · rename_i l hl
      cases h'
      exact ⟨st, fp, hd, q, d, _, h1, fun v H1 fp1 q1 l1 r1 => hr still_le r1 hl fun J ok => k J H1 fp1 q1 l1 ok⟩
    · cases h'
  · cases h'
theorem ti_keys (he : PE X e (tE T X.K R f)) : PI X tg e (tI T X.K R (iOf keysOf f)) := ti_ofD he (fun t h => pi_keys h) fun {x H G d ds Q} le r e k => by
  unfold keysOf at e
  split at e
  · cases e
    obtain ⟨a, ob, kvs, rfl, z, rk⟩ := rep_dic r
    exact ⟨a, ob, rfl, .inl ⟨kvs, le _ _ z, k _ (it_keys z rk)⟩⟩
  · cases e
theorem ti_items (he : PE X e (tE T X.K R f)) (hb : notSup e = true) (hl : (apos.endLine == cpos.line) = true) : PI X (.Tuple elts kk tpos) (.Call (.Attribute e "items" apos) [] [] cpos) (tI T X.K R (iOf itemsOf f)) := ti_ofD he (fun t h => pi_items h (base_of hb _ _ _) hl) fun {x H G d ds Q} le r e k => by
  unfold itemsOf at e
  split at e
  · cases e
    obtain ⟨a, ob, kvs, rfl, z, rk⟩ := rep_dic r
    exact ⟨a, ob, kvs, rfl, le _ _ z, k _ (it_items z rk)⟩
  · cases e
theorem ti_values (he : PE X e (tE T X.K R f)) (hb : notSup e = true) (hl : (apos.endLine == cpos.line) = true) : PI X tg (.Call (.Attribute e "values" apos) [] [] cpos) (tI T X.K R (iOf valsOf f)) := ti_ofD he (fun t h => pi_values h (base_of hb _ _ _) hl) fun {x H G d ds Q} le r e k => by
  unfold valsOf at e
  split at e
  · cases e
    obtain ⟨a, ob, kvs, rfl, z, rk⟩ := rep_dic r
    exact ⟨a, ob, kvs, rfl, le _ _ z, k _ (it_vals z rk)⟩
  · cases e
end
/-- a list, a tuple, a text, a dict's keys -/
def walkA (d : D) : Option (List D) := match walkD d with
  | some l => some l
  | none => keysOf d
section
variable {W : Type} {T : Tab} {R : WR W} {X : Cx} {e tg : Expr} {f : Ex W}
theorem ti_walkA (h : PE X e (tE T X.K R f)) : PI X tg e (tI T X.K R (iOf walkA f)) := by
  have h1 : PI X tg e (tI T X.K R (iOf walkD f)) := ti_walk h
  have h2 : PI X tg e (tI T X.K R (iOf keysOf f)) := ti_keys h
  refine ⟨fun pins s σ H Q I ⟨st, fp, hd, q, ds, st', h', k⟩ => ?_⟩
  unfold iOf at h'
  split at h'
  · rename_i d st1 hf
    split at h'
    · rename_i l hl
      cases h'
      unfold walkA at hl
      split at hl
      · rename_i l2 hw
        cases hl
        exact h1.run pins s σ H Q I ⟨st, fp, hd, q, _, _, by unfold iOf; rw [hf]; simp only [hw], k⟩
      · exact h2.run pins s σ H Q I ⟨st, fp, hd, q, _, _, by unfold iOf; rw [hf]; simp only [hl], k⟩
    · cases h'
  · cases h'
end
end Mi
namespace Mi
open PySem PySem.Spec L2
open PyProof.Rows hiding St

section
variable {W : Type}
/-- the dict l, put in what comes -/
def dcL (g : Tg W) (t : Tx W) (ek ev : Ex W) (vs : List Nat) : List D → List (D × D) → S W → Option (List (D × D) × S W)
  | [], l, st => some (l, st)
  | d :: ds, l, st => (match g d st with
    | some st1 => (match t st1 with
      | some (true, st2) => (match ek st2 with
        | some (kd, st3) => (match ev st3 with
          | some (y, st4) => (match keyOfD kd with
            | some k => if l.length < sizeLine ∧ noOw vs st4.sl = true then dcL g t ek ev vs ds (putKD l k y) (wipeW vs st4) else none
            | none => none)
          | none => none)
        | none => none)
      | some (false, st2) => if noOw vs st2.sl = true then dcL g t ek ev vs ds l (wipeW vs st2) else none
      | none => none)
    | none => none)
def eDc (it : As W) (g : Tg W) (t : Tx W) (ek ev : Ex W) (vs : List Nat) : Ex W := fun st => match it st with
  | some (ds, st1) => if noOw vs st1.sl = true then (match dcL g t ek ev vs ds [] (wipeW vs st1) with
    | some (l, st2) => some (.dic l, { st2 with sl := backS vs st1.sl st2.sl })
    | none => none) else none
  | none => none
end
section
variable {W : Type} {T : Tab} {R : WR W} {X : Cx} {kx vx tg iter : Expr} {ifs : List Expr} {scope : Scope} {own : List (Str × Nat)} {pos : Pos}
theorem dc_imp {K : PySem.W.Frag} {f : As W} {g : Tg W} {ix : List Nat} {t : Tx W} {ek ev : Ex W} {vs : List Nat} (hix : ∀ i ∈ ix, i ∈ vs) {σ : L2.St} {H : Hp} {Q : VK} : tF T K R (eDc f g t ek ev vs) σ H Q → tDc (tI T K R f) (tG T K R ix g) (tT T K R t) (tE T K R ek) (tE T K R ev) vs σ H Q := fun ⟨st, fp, hd, q, d, st', h', k⟩ => by
  unfold eDc at h'
  split at h'
  · rename_i ds st1 h1
    split at h'
    · rename_i n1
      split at h'
      · rename_i lf st2 h2
        cases h'
        refine ⟨st, fp, hd, q, ds, st1, h1, fun J H1 fp1 q1 l1 okJ => fun Dp nD => ?_⟩
        have hidD : hd.h Dp = none := (q1.notin nD).2.2
        refine ⟨fun i m H2 => m = ds.length - i ∧ ∃ s2 fp2 acc ls, SR T K R (hd.put Dp (.dK acc)) s2 (L2.wipe σ vs) H2 fp2 ∧ noOw vs s2.sl = true ∧ Le (still hd st1 σ H1 fp1) (still (hd.put Dp (.dK acc)) s2 (L2.wipe σ vs) H2 fp2) ∧
          RepK T K (still (hd.put Dp (.dK acc)) s2 (L2.wipe σ vs) H2 fp2) acc ls ∧ dcL g t ek ev vs (ds.drop i) ls s2 = some (lf, st2), ⟨ds.length, rfl, ?_⟩, ?_⟩
        · obtain ⟨w1, e1⟩ := q1.wipe n1
          obtain ⟨w2, e2⟩ := w1.hide (o := .dK []) nD
          refine ⟨_, fp1, [], [], w2, noOw_wipe, ?_, .nil, h2⟩
          rw [e2, e1]
          exact Le.refl _
        · rintro i m H2 ⟨rfl, s2, fp2, acc, ls, q2, n2, l2, ra, hl⟩
          have okH := okJ H2 (l2.trans still_le) i
          have hD2 : H2 Dp = some (.dK acc) := q2.at_put
          cases e : ds.drop i with
          | nil =>
            have hlen : ds.length ≤ i := List.drop_eq_nil_iff.mp e
            rw [e] at hl
            cases hl
            refine .inl ⟨okH.2 hlen, ?_⟩
            obtain ⟨u1, eu⟩ := q2.unhide hidD
            rw [← eu] at l2 ra
            obtain ⟨b1, eb⟩ := SR.back q1 n1 u1 n2 l2
            rw [← eb] at l2 ra
            have := k Dp (.dK acc) (hideA H2 Dp) fp2 b1 (l1.trans l2) hideA_self (.dK upd_same ra)
            rw [hideA_upd hD2] at this
            exact this
          | cons dd rest =>
            obtain ⟨ei, er⟩ := drop_cons e
            have hlt : i < ds.length := (List.getElem?_eq_some_iff.mp ei).1
            obtain ⟨go, yl⟩ := okH.1 dd ei
            rw [e] at hl
            refine .inr ⟨go, fun H3 => ∃ s2 fp2 acc ls, SR T K R (hd.put Dp (.dK acc)) s2 (L2.wipe σ vs) H3 fp2 ∧ noOw vs s2.sl = true ∧ Le (still hd st1 σ H1 fp1) (still (hd.put Dp (.dK acc)) s2 (L2.wipe σ vs) H3 fp2) ∧
              RepK T K (still (hd.put Dp (.dK acc)) s2 (L2.wipe σ vs) H3 fp2) acc ls ∧ dcL g t ek ev vs rest ls s2 = some (lf, st2), fun H3 z => ⟨ds.length - (i + 1), by omega, rfl, by rw [er]; exact z⟩, fun x H3 y => ?_⟩
            obtain ⟨lh, rp⟩ := yl x H3 y
            have q3 := q2.grow lh
            have l3 := still_grow q2 lh
            have r3 : Rep T K (still (hd.put Dp (.dK acc)) s2 (L2.wipe σ vs) H3 fp2) x dd := rp _ ⟨l2.trans l3, fun a o n z => still_new q2 lh n z⟩
            unfold dcL at hl
            split at hl
            · rename_i s4 hg4
              refine ⟨s2, fp2, hd.put Dp (.dK acc), dd, s4, q3, r3, hg4, fun σ4 H4 fp4 q4 l4 b4 => ?_⟩
              have ew := bar_wipe b4 hix
              refine ⟨ew, ?_⟩
              have l04 := (l2.trans l3).trans l4
              cases ht4 : t s4 with
              | none => rw [ht4] at hl; cases hl
              | some r =>
                obtain ⟨bb, s5⟩ := r
                rw [ht4] at hl
                refine ⟨s4, fp4, _, q4, bb, s5, ht4, fun H5 fp5 q5 l5 => ?_⟩
                cases bb with
                | true =>
                  refine iteT ?_
                  dsimp only at hl
                  split at hl
                  · rename_i kd s6 he6
                    split at hl
                    · rename_i yd s7 he7
                      split at hl
                      · rename_i kk hkk
                        split at hl
                        · rename_i hc7
                          refine ⟨s5, fp5, _, q5, kd, s6, he6, fun v6 H6 fp6 q6 l6 r6 => ⟨s6, fp6, _, q6, yd, s7, he7, fun v7 H7 fp7 q7 l7 r7 => ?_⟩⟩
                          have hD7 : H7 Dp = some (.dK acc) := q7.at_put
                          refine ⟨acc, kk, keyOfD_of r6 hkk, hD7, by rw [ra.length]; exact hc7.1, ?_⟩
                          obtain ⟨w1, e1⟩ := q7.wipe2 hc7.2 ew
                          obtain ⟨w2, e2⟩ := w1.rehide (o' := .dK (putK acc kk v7))
                          have l07 := ((l04.trans l5).trans l6).trans l7
                          refine ⟨_, fp7, putK acc kk v7, putKD ls kk yd, w2, noOw_wipe, ?_, ?_, hl⟩
                          · rw [e2, e1]; exact l07
                          · rw [e2, e1]
                            exact RepK.put kk r7 (ra.up (((l3.trans l4).trans (l5.trans l6)).trans l7).up)
                        · cases hl
                      · cases hl
                    · cases hl
                  · cases hl
                | false =>
                  refine iteF ?_
                  have hl : (if noOw vs s5.sl = true then dcL g t ek ev vs rest ls (wipeW vs s5) else none) = some (lf, st2) := hl
                  split at hl
                  · rename_i hc6
                    obtain ⟨w1, e1⟩ := q5.wipe2 hc6 ew
                    exact ⟨_, fp5, acc, ls, w1, noOw_wipe, by rw [e1]; exact l04.trans l5, by rw [e1]; exact ra.up ((l3.trans l4).trans l5).up, hl⟩
                  · cases hl
            · cases hl
      · cases h'
    · cases h'
  · cases h'
theorem tf_dc {f : As W} {g : Tg W} {ix : List Nat} {t : Tx W} {ek ev : Ex W} (hc : X.calm = true) (hN : X.N.Nodup) (hi : PI X tg iter (tI T X.K R f)) (ok : BlkOk X.N X.env.scope scope own) (hix : ∀ i ∈ ix, i ∈ own.map (·.2))
    (hg : ∀ (s : Shared) (H : Hp) (C : Addr) (cl : List (Str × Addr)) (b : List Addr), PG (X.blk s H scope (compEnvC scope cl C X.env) b) tg (tG T X.K R ix g))
    (ht : ∀ (s : Shared) (H : Hp) (C : Addr) (cl : List (Str × Addr)) (b : List Addr), PTs (X.blk s H scope (compEnvC scope cl C X.env) b) ifs (tT T X.K R t))
    (hk : ∀ (s : Shared) (H : Hp) (C : Addr) (cl : List (Str × Addr)) (b : List Addr), PE (X.blk s H scope (compEnvC scope cl C X.env) b) kx (tE T X.K R ek))
    (he : ∀ (s : Shared) (H : Hp) (C : Addr) (cl : List (Str × Addr)) (b : List Addr), PE (X.blk s H scope (compEnvC scope cl C X.env) b) vx (tE T X.K R ev)) (hs : ∀ x, foldedSetIterable iter X.env x = pure x) :
    PE X (.DictComp kx vx [⟨tg, iter, ifs, 0⟩] scope pos) (tF T X.K R (eDc f g t ek ev (own.map (·.2)))) := (pe_dc hc hN hi ok hg ht hk he hs).imp fun σ H Q h => dc_imp hix h
end
end Mi
namespace Mi
open PySem PySem.Spec L2
open PyProof.Rows hiding St

def gFmt (d : D) : Option D := match d with
  | .str y => if y.length ≤ sizeLine then some (.str y) else none
  | .int i => if i.natAbs.log2 < 1920 then some (.str (toString i)) else none
  | _ => none
def rFmt : V → Hp → VK → Prop := fun x H1 Q => (∃ y : Str, x = .str y ∧ y.length ≤ sizeLine ∧ Q (.str y) H1) ∨ ∃ i : Int, x = .int i ∧ i.natAbs.log2 < 1920 ∧ Q (.str (toString i)) H1
theorem fmt_s {T : Tab} {K : PySem.W.Frag} : UnS T K rFmt gFmt := fun x H G d1 d Q le r e k => by
  unfold gFmt at e
  split at e
  · split at e
    · rename_i h; cases e; cases r; exact .inl ⟨_, rfl, h, k.scal fun _ => .str _⟩
    · cases e
  · split at e
    · rename_i h; cases e; cases r; exact .inr ⟨_, rfl, h, k.scal fun _ => .str _⟩
    · cases e
  · cases e
section
variable {W : Type}
def goJs : List (Ex W) → Str → S W → Option (Str × S W)
  | [], acc, st => some (acc, st)
  | f :: fs, acc, st => (match f st with
    | some (.str y, st1) => if (acc ++ y).length ≤ sizeLine then goJs fs (acc ++ y) st1 else none
    | _ => none)
def eJs (fs : List (Ex W)) : Ex W := fun st => match goJs fs Str.empty st with
  | some (x, st1) => some (.str x, st1)
  | none => none
end
section
variable {W : Type} {T : Tab} {R : WR W} {X : Cx} {a b c e : Expr} {es vals : List Expr} {f f1 f2 f3 : Ex W} {pos p : Pos}
theorem te_fmt (ha : PE X a (tE T X.K R f)) : PE X (.FormattedValue a (-1) none pos) (tE T X.K R (eUn gFmt f)) := te_un (ta := fun _ _ _ => True) ha fmt_s fun t h => pe_fmt h
/-- the parts, each read -/
inductive JsOk (T : Tab) (R : WR W) (X : Cx) : List Expr → List (Ex W) → Prop
  | nil : JsOk T R X [] []
  | cons {e : Expr} {f : Ex W} {es : List Expr} {fs : List (Ex W)} : PE X e (tE T X.K R f) → JsOk T R X es fs → JsOk T R X (e :: es) (f :: fs)
theorem JsOk.pj {fs : List (Ex W)} (h : JsOk T R X es fs) : PJ X es (fs.map (tE T X.K R)) := by
  induction h with
  | nil => exact .nil
  | cons h _ ih => exact .cons h ih
theorem js_run {hd : Hid} {σ : L2.St} : ∀ {fs : List (Ex W)} {acc out : Str} {st st' : S W} {H : Hp} {fp : List Addr} {Q : Str → Hp → Prop}, SR T X.K R hd st σ H fp → goJs fs acc st = some (out, st') →
    (∀ H' fp', SR T X.K R hd st' σ H' fp' → Le (still hd st σ H fp) (still hd st' σ H' fp') → Q out H') → tJs (fs.map (tE T X.K R)) acc σ H Q
  | [], acc, out, st, st', H, fp, Q, q, e, k => by cases e; exact k H fp q (Le.refl _)
  | f :: fs, acc, out, st, st', H, fp, Q, q, e, k => by
    unfold goJs at e
    split at e
    · rename_i y st1 hf
      split at e
      · rename_i hl
        exact ⟨st, fp, hd, q, _, _, hf, fun v H1 fp1 q1 l1 r1 => by
          cases r1
          exact ⟨y, rfl, hl, js_run q1 e fun H2 fp2 q2 l2 => k H2 fp2 q2 (l1.trans l2)⟩⟩
      · cases e
    · cases e
theorem te_js {v1 v2 : Expr} {rest : List Expr} {fs : List (Ex W)} (h : JsOk T R X (v1 :: v2 :: rest) fs) : PE X (.JoinedStr (v1 :: v2 :: rest) pos) (tE T X.K R (eJs fs)) := (pe_joined h.pj).imp fun σ H Q ⟨st, fp, hd, q, d, st', h', k⟩ => by
  unfold eJs at h'
  split at h'
  · rename_i x st1 hx
    cases h'
    exact js_run q hx fun H1 fp1 q1 l1 => k _ H1 fp1 q1 l1 (.str _)
  · cases h'
theorem te_js1 (h : PE X e (tE T X.K R f)) : PE X (.JoinedStr [e] pos) (tE T X.K R f) := pe_joined1 h

theorem ta_star {g : As W} (ha : PE X a (tE T X.K R f)) (hr : PA X es (tA T X.K R g)) : PA X (.Starred a p :: es) (tA T X.K R (aStar f g)) := (StX.pa_star ha hr rfl).imp fun σ H Q ⟨st, fp, hd, q, ds, st', h', k⟩ => by
  unfold aStar at h'
  split at h'
  · rename_i x st1 hx
    split at h'
    · rename_i xs hxs
      split at h'
      · rename_i ys st2 hy
        cases h'
        refine ⟨st, fp, hd, q, x, _, hx, fun v H1 fp1 q1 l1 r1 => ?_⟩
        obtain ⟨ad, vs, rfl, hs, rr⟩ := items_row still_le r1 hxs
        exact ⟨ad, vs, rfl, hs.symm, st1, fp1, hd, q1, ys, _, hy, fun ws H2 fp2 q2 l2 r2 => k _ H2 fp2 q2 (l1.trans l2) ((rr.up l2.up).append r2)⟩
      · cases h'
    · cases h'
  · cases h'

theorem tk_nil : PK X [] (tA T X.K R (aNil (W := W))) := pk_nil.imp fun σ H Q ⟨st, fp, hd, q, ds, st', h', k⟩ => by
  cases h'
  exact k [] H fp q (Le.refl _) .nil
theorem tk_cons {g : As W} {nm : Option Str} {kpos : Pos} {kws : List Keyword} (ha : PE X a (tE T X.K R f)) (hr : PK X kws (tA T X.K R g)) : PK X (⟨nm, a, kpos⟩ :: kws) (tA T X.K R (aCons f g)) := (pk_cons ha hr).imp fun σ H Q ⟨st, fp, hd, q, ds, st', h', k⟩ => by
  unfold aCons at h'
  split at h'
  · rename_i x st1 hx
    split at h'
    · rename_i xs st2 hy
      cases h'
      exact ⟨st, fp, hd, q, x, _, hx, fun v H1 fp1 q1 l1 r1 => ⟨st1, fp1, hd, q1, xs, _, hy, fun vs H2 fp2 q2 l2 r2 => k _ H2 fp2 q2 (l1.trans l2) (.cons (r1.up l2.up) r2)⟩⟩
    · cases h'
  · cases h'

def eChain (g g' : D → D → Option D) (a b c : Ex W) : Ex W := fun st => match a st with
  | some (x, st1) => (match b st1 with
    | some (y, st2) => (match g x y with
      | some (.bl true) => (match c st2 with
        | some (z, st3) => (match g' y z with
          | some d => some (d, st3)
          | none => none)
        | none => none)
      | some (.bl false) => some (.bl false, st2)
      | _ => none)
    | none => none)
  | none => none
theorem te_chain {op op' : CmpOp} {r r' : R2} {g g' : D → D → Option D} (ho : OpR X (compareOp op) r) (ho' : OpR X (compareOp op') r') (hg : OpS T X.K r g) (hg' : OpS T X.K r' g') (ha : PE X a (tE T X.K R f1)) (hb : PE X b (tE T X.K R f2)) (hc : PE X c (tE T X.K R f3)) (hm : lastMarks [op, op'] [b, c] = false) :
    PE X (.Compare a [op, op'] [b, c] pos) (tE T X.K R (eChain g g' f1 f2 f3)) := (pe_chain ho ho' ha hb hc hm).imp fun σ H Q ⟨st, fp, hd, q, d, st', h', k⟩ => by
  unfold eChain at h'
  split at h'
  · rename_i x st1 hx
    split at h'
    · rename_i y st2 hy
      refine ⟨st, fp, hd, q, x, _, hx, fun v H1 fp1 q1 l1 r1 => ⟨st1, fp1, hd, q1, y, _, hy, fun v2 H2 fp2 q2 l2 r2 => ?_⟩⟩
      split at h'
      · rename_i hgx
        refine hg v v2 H2 _ x y _ _ still_le (r1.up l2.up) r2 hgx (ans_of q2 fun v3 H3 fp3 q3 l3 r3 => ⟨true, rep_bl r3, iteT ?_⟩)
        split at h'
        · rename_i z st3 hz
          split at h'
          · rename_i d' hdd
            cases h'
            refine ⟨st2, fp3, hd, q3, z, _, hz, fun v4 H4 fp4 q4 l4 r4 => ?_⟩
            exact hg' v2 v4 H4 _ y z _ Q still_le (r2.up (l3.trans l4).up) r4 hdd (ans_of q4 fun v5 H5 fp5 q5 l5 r5 => k v5 H5 fp5 q5 ((((l1.trans l2).trans l3).trans l4).trans l5) r5)
          · cases h'
        · cases h'
      · rename_i hgx
        cases h'
        exact hg v v2 H2 _ x y _ _ still_le (r1.up l2.up) r2 hgx (ans_of q2 fun v3 H3 fp3 q3 l3 r3 => ⟨false, rep_bl r3, iteF (k _ H3 fp3 q3 ((l1.trans l2).trans l3) (.bl _))⟩)
      · cases h'
    · cases h'
  · cases h'
end
def idxT (z : Str) : List Str → Option Nat
  | [] => none
  | y :: r => if y = z then some 0 else (idxT z r).map (· + 1)
theorem idxT_of {z : Str} : ∀ {ys : List Str} {j : Nat}, idxT z ys = some j → ys[j]? = some z ∧ ∀ m, m < j → ys[m]? ≠ some z
  | [], j, e => by cases e
  | y :: r, j, e => by
    unfold idxT at e
    split at e
    · rename_i h
      cases e
      exact ⟨by rw [h]; rfl, fun m hm => absurd hm (Nat.not_lt_zero _)⟩
    · rename_i h
      cases y' : idxT z r with
      | none => rw [y'] at e; cases e
      | some i =>
        rw [y'] at e
        cases e
        obtain ⟨h1, h2⟩ := idxT_of y'
        refine ⟨by simpa using h1, fun m hm => ?_⟩
        cases m with
        | zero => simpa using h
        | succ m => simpa using h2 m (Nat.lt_of_succ_lt_succ hm)
def gIndex (d : D) (ds : List D) : Option D := match d, ds with
  | .lst l, [.str z] => (match strsD l with
    | some ys => (idxT z ys).map fun j => .int j
    | none => none)
  | .tup l, [.str z] => (match strsD l with
    | some ys => (idxT z ys).map fun j => .int j
    | none => none)
  | _, _ => none
section
variable {W : Type} {T : Tab} {R : WR W} {X : Cx} {o e : Expr} {es : List Expr} {apos pos : Pos} {a : Ex W} {f : As W}
def rTIndex (K : PySem.W.Frag) : V → List V → Hp → VK → Prop := fun x xs H Q => ∃ p, ∃ ys : List Str, ∃ z j, x = .ref p ∧ xs = [.str z] ∧ SqT K H p (ys.map V.str) ∧ ys[j]? = some z ∧ (∀ m, m < j → ys[m]? ≠ some z) ∧ Q (.int (j : Nat)) H
theorem tupN_is {X : Cx} {pins : List (Addr × Obj)} {σ : L2.St} {H : Hp} {s : Shared} {a : Addr} {xs : List V} (I : Inv X pins σ H s) (h : TupN X.K H a xs) : s.TypeIs (.ref a) "tuple" ∧ ∀ b, Value.ref a = .ref b → ∃ ob, s.heap.get? b = some ob ∧ ob.dict = none := by
  rcases h with ⟨ob, z, n⟩ | ⟨o, its, m, z, c, n, _⟩
  · obtain ⟨e, _, us, _, o, e2, c, _⟩ := I.hok a _ z
    rw [e] at e2
    cases e2
    exact ⟨⟨ob, e, c⟩, fun b eb => by cases eb; exact ⟨ob, e, n⟩⟩
  · exact ⟨⟨o, I.kIn a o z, c⟩, fun b eb => by cases eb; exact ⟨o, I.kIn _ o z, n⟩⟩
theorem pe_idx {X : Cx} {o e : Expr} {es : List Expr} {to : TE} {t : TA} {apos cpos : Pos} {r1 r2 : V → List V → Hp → VK → Prop} (m1 : MtR X "list.index" r1) (m2 : MtR X "tuple.index" r2) (ho : PE X o to) (ha : PA X (e :: es) t) (hbase : attributeBase o "index" X.env (eval o X.env) = eval o X.env)
    (hfew : ((backTo cpos (starEach (e :: es) X.env)).all (fun x => !x.1) && (backToKw cpos (keywordEach [] X.env)).all (fun x => x.1.isSome) && decide ((e :: es).length + ([] : List Keyword).length + (if ([] : List Keyword).isEmpty then 0 else 1) < 30)) = true)
    (hline : (apos.endLine == cpos.line) = true) (hs : starEach (e :: es) X.env = (false, eval e X.env) :: starEach es X.env) (hplain : (backTo cpos (starEach es X.env)).any (·.1) = false) :
    PE X (.Call (.Attribute o "index" apos) (e :: es) [] cpos) (fun σ H Q => to σ H fun x H1 => (tyV X.K "list" x H1 ∧ t σ H1 fun xs H2 => r1 x xs H2 Q) ∨ (∃ a xs, x = .ref a ∧ TupN X.K H1 a xs ∧ t σ H1 fun xs H2 => r2 x xs H2 Q)) := by
  refine ⟨fun pins s σ H Q I h => ?_⟩
  refine wpAny_Call_method_late hbase hfew hline rfl (thn (ho.run pins s σ H _ I h) fun v s1 ⟨x, H1, I1, rx, q1⟩ => ?_)
  rcases q1 with ⟨ty, q1⟩ | ⟨a, ts, rfl, tn, q1⟩
  · obtain ⟨h1, h2⟩ := tyV_is I1 rx ty
    refine ⟨"list", "list.index", F.plainAttrs_list, F.slot_list_index, F.type_list_index, h1, h2, ?_⟩
    have hA := ha.run cpos pins s1 σ H1 _ I1 q1
    rw [hs] at hA ⊢
    exact Calls.callWith_builtin (by show (false || (backTo cpos (starEach es X.env)).any (·.1)) = false; rw [hplain] ; rfl) (Calls.evalArgs_plain (thn hA fun us s2 ⟨vs, H2, I2, r2, q2⟩ => m1 pins s2 σ H2 x vs v us Q I2 rx r2 q2))
  · obtain rfl : v = Value.ref a := rx
    obtain ⟨h1, h2⟩ := tupN_is I1 tn
    refine ⟨"tuple", "tuple.index", F.plainAttrs_tuple, F.slot_tuple_index, F.type_tuple_index, h1, h2, ?_⟩
    have hA := ha.run cpos pins s1 σ H1 _ I1 q1
    rw [hs] at hA ⊢
    exact Calls.callWith_builtin (by show (false || (backTo cpos (starEach es X.env)).any (·.1)) = false; rw [hplain] ; rfl) (Calls.evalArgs_plain (thn hA fun us s2 ⟨vs, H2, I2, r2, q2⟩ => m2 pins s2 σ H2 _ vs _ us Q I2 (show RelV (.ref a) (Value.ref a) from rfl) r2 q2))
theorem te_index (ho : PE X o (tE T X.K R a)) (ha : PA X (e :: es) (tA T X.K R f)) (hb : notSup o = true) (hs : noStar (e :: es) = true) (hn : (e :: es).length < 29) (hl : (apos.endLine == pos.line) = true) : PE X (.Call (.Attribute o "index" apos) (e :: es) [] pos) (tE T X.K R (eBm gIndex a f)) := by
  have few : ((backTo pos (starEach (e :: es) X.env)).all (fun x => !x.1) && (backToKw pos (keywordEach [] X.env)).all (fun x => x.1.isSome) && decide ((e :: es).length + ([] : List Keyword).length + (if ([] : List Keyword).isEmpty then 0 else 1) < 30)) = true := by
    rw [few_args hs pos X.env]
    have : decide ((e :: es).length + ([] : List Keyword).length + (if ([] : List Keyword).isEmpty then 0 else 1) < 30) = true := decide_eq_true (by simp at hn ⊢; omega)
    rw [this]
    rfl
  refine (pe_idx mt_index mt_tup_index ho ha (base_of hb _ _ _) few hl ((noStar_cons hs).2 _) (noStar_any (noStar_cons hs).1 _ _)).imp fun σ H Q ⟨st, fp, hd, q, d, st', h', k⟩ => ?_
  unfold eBm at h'
  split at h'
  · rename_i x st1 h1
    split at h'
    · rename_i ds st2 h2
      split at h'
      · rename_i d' hg
        cases h'
        refine ⟨st, fp, hd, q, x, _, h1, fun v H1 fp1 q1 l1 r1 => ?_⟩
        unfold gIndex at hg
        split at hg
        · rename_i l z
          split at hg
          · rename_i ys hy
            cases hj : idxT z ys with
            | none => rw [hj] at hg; cases hg
            | some j =>
              rw [hj] at hg
              cases hg
              obtain ⟨j1, j2⟩ := idxT_of hj
              cases r1 with
              | lst zz rr =>
                refine .inl ⟨.inl ⟨rfl, _, SqL.of (still_le _ _ zz)⟩, st1, fp1, hd, q1, _, _, h2, fun vs H2 fp2 q2 l2 r2 => ?_⟩
                obtain ⟨v2, rfl, rv⟩ := reps1 r2
                cases rv
                have ex := strsD_of rr hy
                subst ex
                refine ⟨_, ys.map V.str, _, j, .str z, rfl, rfl, SqL.of (still_le _ _ (l2 _ _ zz)), rfl, flat_strs ys, by rw [List.getElem?_map, j1]; rfl, by show (z == z) = true; exact beq_self_eq_true z, fun m z' hm hz => ?_, k _ H2 fp2 q2 (l1.trans l2) (.int _)⟩
                rw [List.getElem?_map] at hz
                cases hym : ys[m]? with
                | none => rw [hym] at hz; cases hz
                | some y' =>
                  rw [hym] at hz
                  cases hz
                  show (y' == z) = false
                  exact beq_eq_false_iff_ne.mpr fun e => j2 m hm (by rw [hym, e])
          · cases hg
        · rename_i l z
          split at hg
          · rename_i ys hy
            cases hj : idxT z ys with
            | none => rw [hj] at hg; cases hg
            | some j =>
              rw [hj] at hg
              cases hg
              obtain ⟨j1, j2⟩ := idxT_of hj
              cases r1 with
              | tup zz rr =>
                refine .inr ⟨_, _, rfl, still_le.up.tupN zz, st1, fp1, hd, q1, _, _, h2, fun vs H2 fp2 q2 l2 r2 => ?_⟩
                obtain ⟨v2, rfl, rv⟩ := reps1 r2
                cases rv
                have ex := strsD_of rr hy
                subst ex
                exact ⟨_, ys, z, j, rfl, rfl, still_le.up.sqT (l2.up.sqT zz.sqT), j1, j2, k _ H2 fp2 q2 (l1.trans l2) (.int _)⟩
          · cases hg
        · cases hg
      · cases h'
    · cases h'
  · cases h'
end
end Mi
namespace Mi
open PySem PySem.Spec L2
open PyProof.Rows hiding St

section
variable {W : Type}
def goPs : List (Ex W × Ex W) → S W → Option (List (Key × D) × S W)
  | [], st => some ([], st)
  | (f, g) :: r, st => (match f st with
    | some (kd, st1) => (match g st1 with
      | some (d, st2) => (match keyOfD kd with
        | some k => (match goPs r st2 with
          | some (ps, st3) => some ((k, d) :: ps, st3)
          | none => none)
        | none => none)
      | none => none)
    | none => none)
def mergeKD (l : List (D × D)) (ps : List (Key × D)) : List (D × D) := ps.foldl (fun acc p => putKD acc p.1 p.2) l
def eDisp (fs : List (Ex W × Ex W)) : Ex W := fun st => match goPs fs st with
  | some (ps, st1) => if ps.length ≤ 15 then some (.dic (mergeKD [] ps), st1) else none
  | none => none
end
def asKD (ps : List (Key × D)) : List (D × D) := ps.map fun p => (keyD p.1, p.2)
section
variable {T : Tab} {K : PySem.W.Frag} {G : Hp}
theorem RepK.merge : ∀ {ps : List (Key × D)} {kvs : List (Key × V)} {acc : List (Key × V)} {l : List (D × D)}, RepK T K G kvs (asKD ps) → RepK T K G acc l → RepK T K G (mergeK acc kvs) (mergeKD l ps)
  | [], _, _, _, r, a => by cases r; exact a
  | (k, d) :: ps, kvs, acc, l, r, a => by
    have r : RepK T K G kvs ((keyD k, d) :: asKD ps) := r
    generalize hk : keyD k = kd at r
    cases r with
    | @cons k' v _ vs _ r1 r2 =>
      have ek : k' = k := by
        cases k <;> cases k' <;> simp [keyD] at hk <;> rw [hk]
      subst ek
      show RepK T K G (mergeK (putK acc k' v) _) (mergeKD (putKD l k' d) ps)
      exact RepK.merge (ps := ps) r2 (RepK.put k' r1 a)
end
section
variable {W : Type} {T : Tab} {R : WR W} {X : Cx} {pos : Pos}
theorem ps_run {K : PySem.W.Frag} {hd : Hid} {σ : L2.St} : ∀ {fs : List (Ex W × Ex W)} {ds : List (Key × D)} {st st' : S W} {H : Hp} {fp : List Addr} {Q : List (V × V) → Hp → Prop}, SR T K R hd st σ H fp → goPs fs st = some (ds, st') →
    (∀ kvs H' fp', SR T K R hd st' σ H' fp' → Le (still hd st σ H fp) (still hd st' σ H' fp') → RepK T K (still hd st' σ H' fp') kvs (asKD ds) → Q (kvs.map fun p => (kV p.1, p.2)) H') → tPairs (fs.map fun p => (tE T K R p.1, tE T K R p.2)) σ H Q
  | [], ds, st, st', H, fp, Q, q, e, k => by cases e; exact k [] H fp q (Le.refl _) .nil
  | (f, g) :: r, ds, st, st', H, fp, Q, q, e, k => by
    unfold goPs at e
    split at e
    · rename_i kd st1 h1
      split at e
      · rename_i d st2 h2
        split at e
        · rename_i kk hk
          split at e
          · rename_i ps st3 h3
            cases e
            refine ⟨st, fp, hd, q, _, _, h1, fun v H1 fp1 q1 l1 r1 => ⟨st1, fp1, hd, q1, _, _, h2, fun w H2 fp2 q2 l2 r2 => ?_⟩⟩
            have ev := keyOfD_of r1 hk
            subst ev
            exact ps_run q2 h3 fun kvs H3 fp3 q3 l3 r3 => k ((kk, w) :: kvs) H3 fp3 q3 ((l1.trans l2).trans l3) (.cons (r2.up l3.up) r3)
          · cases e
        · cases e
      · cases e
    · cases e
theorem goPs_length {fs : List (Ex W × Ex W)} : ∀ {ds : List (Key × D)} {st st' : S W}, goPs fs st = some (ds, st') → ds.length = fs.length := by
  induction fs with
  | nil => intro ds st st' e; cases e; rfl
  | cons p r ih =>
    intro ds st st' e
    obtain ⟨f, g⟩ := p
    unfold goPs at e
    split at e
    · split at e
      · split at e
        · split at e
          · rename_i h3
            cases e
            exact congrArg Nat.succ (ih h3)
          · cases e
        · cases e
      · cases e
    · cases e
inductive PsOk (T : Tab) (R : WR W) (X : Cx) : List (Option Expr) → List Expr → List (Ex W × Ex W) → Prop
  | nil : PsOk T R X [] [] []
  | cons {k v : Expr} {f g : Ex W} {ks : List (Option Expr)} {vs : List Expr} {fs : List (Ex W × Ex W)} : PE X k (tE T X.K R f) → PE X v (tE T X.K R g) → PsOk T R X ks vs fs → PsOk T R X (some k :: ks) (v :: vs) ((f, g) :: fs)
theorem PsOk.pps {ks : List (Option Expr)} {vs : List Expr} {fs : List (Ex W × Ex W)} (h : PsOk T R X ks vs fs) : PPs X pos ks vs (fs.map fun p => (tE T X.K R p.1, tE T X.K R p.2)) := by
  induction h with
  | nil => exact pps_nil
  | cons h1 h2 _ ih => exact pps_cons h1 h2 ih
theorem PsOk.facts {ks : List (Option Expr)} {vs : List Expr} {fs : List (Ex W × Ex W)} (h : PsOk T R X ks vs fs) : ks.all (·.isSome) = true ∧ ks.length = vs.length := by
  induction h with
  | nil => exact ⟨rfl, rfl⟩
  | cons _ _ _ ih => exact ⟨by rw [List.all_cons, ih.1]; rfl, congrArg Nat.succ ih.2⟩
theorem tf_disp {ks : List (Option Expr)} {vs : List Expr} {fs : List (Ex W × Ex W)} (h : PsOk T R X ks vs fs) (h0 : ks ≠ []) (h15 : ks.length ≤ 15) : PE X (.Dict ks vs pos) (tF T X.K R (eDisp fs)) := (pe_disp h.pps h.facts.1 h.facts.2 h0 h15).imp fun σ H Q ⟨st, fp, hd, q, d, st', h', k⟩ p hn => by
  unfold eDisp at h'
  split at h'
  · rename_i ps st1 h1
    split at h'
    · rename_i hl
      cases h'
      obtain ⟨q1, e1⟩ := q.hide (o := .dK []) hn
      refine ps_run q1 h1 fun kvs H2 fp2 q2 l2 r2 => ?_
      refine ⟨q2.at_put, kvs, rfl, ?_, ?_⟩
      · rw [r2.length]
        unfold asKD
        rw [List.length_map]
        exact hl
      · have hidp : hd.h p = none := (q.notin hn).2.2
        obtain ⟨q3, e3⟩ := q2.unhide hidp
        rw [e1, ← e3] at l2
        rw [← e3] at r2
        have := k p (.dK (mergeK [] kvs)) (hideA H2 p) fp2 q3 l2 hideA_self (.dK upd_same (RepK.merge r2 .nil))
        have eo : upd (hideA H2 p) p (.dK (mergeK [] kvs)) = upd H2 p (.dK (mergeK [] kvs)) := by
          funext b
          by_cases z : b = p
          · subst z; rw [upd_same, upd_same]
          · rw [upd_ne z, upd_ne z, hideA_ne z]
        rw [eo] at this
        exact this
    · cases h'
  · cases h'
/-- {} -/
def eDict0 {W : Type} : Ex W := fun st => some (.dic [], st)
theorem tf_dict0 : PE X (.Dict [] [] pos) (tF T X.K R (eDict0 (W := W))) := pe_dnewK.imp fun σ H Q ⟨st, fp, hd, q, d, st', h', k⟩ p hn => by
  cases h'
  exact k p (.dK []) H fp q (Le.refl _) hn (.dK upd_same .nil)
end

section
variable {W : Type}
def goMt (z : Str) : List (Option Str × Sm W) → Sm W
  | [], st => some (.nx, st)
  | (some x, b) :: r, st => if z = x then b st else goMt z r st
  | (none, b) :: _, st => b st
def sMt (f : Ex W) (cs : List (Option Str × Sm W)) : Sm W := fun st => match f st with
  | some (.str z, st1) => goMt z cs st1
  | _ => none
end
section
variable {W : Type} {T : Tab} {R : WR W} {X : Cx} {e : Expr} {f : Ex W} {pos : Pos}
inductive MtOk (T : Tab) (R : WR W) (X : Cx) : List MatchCase → List (Option Str × Sm W) → Prop
  | nil : MtOk T R X [] []
  | val {x : Str} {k : Nat} {p1 p2 : Pos} {body : List Stmt} {b : Sm W} {r : List MatchCase} {cs : List (Option Str × Sm W)} : PSs X body (tS T X.K R b) → MtOk T R X r cs → MtOk T R X (⟨.MatchValue (.Constant (.str x) k p1) p2, none, body⟩ :: r) ((some x, b) :: cs)
  | any {p : Pos} {body : List Stmt} {b : Sm W} {r : List MatchCase} {cs : List (Option Str × Sm W)} : PSs X body (tS T X.K R b) → MtOk T R X r cs → MtOk T R X (⟨.MatchAs none none p, none, body⟩ :: r) ((none, b) :: cs)
theorem tS_pre {K : PySem.W.Frag} {b : Sm W} {D : Ends} {σ : L2.St} {H H1 : Hp} {hd : Hid} {st st1 : S W} {fp fp1 : List Addr} {o : Out} {st' : S W} (q1 : SR T K R hd st1 σ H1 fp1) (l1 : Le (still hd st σ H fp) (still hd st1 σ H1 fp1))
    (k : match o with
      | .nx => ∀ σ' H' fp', SR T K R hd st' σ' H' fp' → Le (still hd st σ H fp) (still hd st' σ' H' fp') → D.nx σ' H'
      | .bk => ∀ σ' H' fp', SR T K R hd st' σ' H' fp' → Le (still hd st σ H fp) (still hd st' σ' H' fp') → D.bk σ' H'
      | .ct => ∀ σ' H' fp', SR T K R hd st' σ' H' fp' → Le (still hd st σ H fp) (still hd st' σ' H' fp') → D.ct σ' H'
      | .rt d => ∀ v σ' H' fp', SR T K R hd st' σ' H' fp' → Le (still hd st σ H fp) (still hd st' σ' H' fp') → Rep T K (still hd st' σ' H' fp') v d → D.rt v H') (e : b st1 = some (o, st')) : tS T K R b D σ H1 := by
  refine ⟨st1, fp1, hd, q1, o, st', e, ?_⟩
  cases o with
  | nx => exact fun σ2 H2 fp2 q2 l2 => k σ2 H2 fp2 q2 (l1.trans l2)
  | bk => exact fun σ2 H2 fp2 q2 l2 => k σ2 H2 fp2 q2 (l1.trans l2)
  | ct => exact fun σ2 H2 fp2 q2 l2 => k σ2 H2 fp2 q2 (l1.trans l2)
  | rt d => exact fun v σ2 H2 fp2 q2 l2 r2 => k v σ2 H2 fp2 q2 (l1.trans l2) r2
theorem mt_run {pins : List (Addr × Obj)} {σ : L2.St} {z : Str} {t0 : Tok} {cs : List MatchCase} {bs : List (Option Str × Sm W)} (h : MtOk T R X cs bs) : ∀ {s : Shared} {H : Hp} {D : Ends} {first : Bool}, Inv X pins σ H s → tS T X.K R (goMt z bs) D σ H →
    wpAny (model X.prog X.w) X.A (matchCases cs X.env (.str z t0) first) (SP X pins D) X.xe s := by
  induction h with
  | nil =>
    intro s H D first I ⟨st, fp, hd, q, o, st', h', k⟩
    cases h'
    exact wpAny_matchCases_nil ⟨σ, H, I, k σ H fp q (Le.refl _)⟩
  | val hb _ ih =>
    intro s H D first I ⟨st, fp, hd, q, o, st', h', k⟩
    refine wpAny_matchCases_cons (wpAny_matchPattern_Value ?_)
    refine Calls.Constant_str ?_
    refine thn (op_eq pins _ σ H (.str z) (.str _) (.str z t0) _ (fun v H' => v = .bl (decide (V.str z = V.str _)) ∧ H' = H) (I.tok _) ⟨_, rfl⟩ ⟨_, rfl⟩ ⟨rfl, rfl, rfl⟩) fun c s2 ⟨v, H2, I2, rv, ev, eH⟩ => ?_
    subst ev eH
    cases rv
    refine wpAny_truthy_bool ?_
    unfold goMt at h'
    split at h'
    · rename_i hz
      subst hz
      simp only [decide_true, if_true]
      refine wpAny_assignInOrder_none ?_
      exact hb.run pins s2 σ H2 D I2 (tS_pre q (Le.refl _) k h')
    · rename_i hz
      have e : decide (V.str z = V.str _) = false := decide_eq_false (fun y => hz (by injection y))
      rw [e]
      exact ih I2 (tS_pre q (Le.refl _) k h')
  | any hb _ ih =>
    intro s H D first I ⟨st, fp, hd, q, o, st', h', k⟩
    refine wpAny_matchCases_cons (wpAny_matchPattern_Capture ?_)
    refine wpAny_assignInOrder_none ?_
    exact hb.run pins s σ H D I (tS_pre q (Le.refl _) k h')
theorem ts_mt {cs : List MatchCase} {bs : List (Option Str × Sm W)} (he : PE X e (tE T X.K R f)) (h : MtOk T R X cs bs) : PS X (.Match e cs pos) (tS T X.K R (sMt f bs)) := ⟨fun pins s σ H D I ⟨st, fp, hd, q, o, st', h', k⟩ => by
  unfold sMt at h'
  split at h'
  · rename_i z st1 h1
    refine wpAny_Match (thn (he.run pins s σ H (fun v H1 => v = .str z ∧ tS T X.K R (goMt z bs) D σ H1) I ⟨st, fp, hd, q, _, _, h1, fun v H1 fp1 q1 l1 r1 => ?_⟩) fun v s1 ⟨x, H1, I1, rx, ex, hh⟩ => ?_)
    · cases r1
      exact ⟨rfl, tS_pre q1 l1 k h'⟩
    · subst ex
      obtain ⟨t0, rfl⟩ := rx
      exact mt_run h I1 hh
  · cases h'⟩
end
end Mi
namespace Mi
open PySem PySem.Spec L2
open PyProof.Rows hiding St

def notComp : Expr → Bool
  | .ListComp .. => false
  | .SetComp .. => false
  | .DictComp .. => false
  | _ => true
theorem swaps_no {value : Expr} (h : notComp value = true) (t : Option Expr) (n : Nat) (env : Env) : swapsWith value t n env = pure false := by
  cases value <;> first | rfl | (cases h)
def notName : Expr → Bool
  | .Name .. => false
  | _ => true
theorem swaps_at {value t : Expr} (h : notName t = true) (n : Nat) (env : Env) : swapsWith value (some t) n env = pure false := by
  cases value <;> first | rfl | (cases t <;> first | rfl | (cases h))
theorem swaps_yes {elt : Expr} {gens : List Comprehension} {scope : Scope} {p py : Pos} {y : Str} {n : Nat} {env : Env} (h1 : env.scope.kind = .function) (h2 : env.scope.names.lookup y = some .local) (h3 : (py.line == p.line) = true) (h4 : (scope.names.any fun (n, k) => n == y && (k == .local || k == .cell)) = false) :
    swapsWith (.ListComp elt gens scope p) (some (.Name y py)) n env = pure true := by
  have hb : env.blockKind = .function := by unfold Env.blockKind; rw [h1]; rfl
  have hk : env.kindOf y = some .local := h2
  unfold swapsWith
  show (pure (env.blockKind == .function && env.kindOf y == some .local && py.line == p.line && !(scope.names.any fun (n, k) => n == y && (k == .local || k == .cell))) : Sem Bool) = pure true
  rw [hb, hk, h3, h4]
  rfl
def notTup : Expr → Bool
  | .Tuple .. => false
  | _ => true
theorem swapped_no {tg value : Expr} (h : (notTup value || notTup tg && (match tg with | .List .. => false | _ => true)) = true) (env : Env) : swappedStores [tg] value env = pure none := by
  cases value <;> first
    | (cases tg <;> rfl)
    | (cases tg <;> first | rfl | (cases h))
def isStar : Expr → Bool
  | .Starred .. => true
  | _ => false
def pairOk (sc : Scope) (x y : Str) (px py : Pos) (a b : Expr) : Bool := sc.names.lookup x == some .local && sc.names.lookup y == some .local && !(x == y) && py.line == px.line && !isStar a && !isStar b && !([a, b].all (foldedForSure 8)) && !([a, b].all (constantsAlone 8))
theorem swapped_yes {x y : Str} {px py pt pt2 : Pos} {a b : Expr} {kt k2 : Nat} {env : Env} (h1 : env.scope.kind = .function) (h : pairOk env.scope x y px py a b = true) : swappedStores [.Tuple [.Name x px, .Name y py] kt pt] (.Tuple [a, b] k2 pt2) env = pure (some [x, y]) ∧ env.scope.names.lookup x = some .local ∧ env.scope.names.lookup y = some .local ∧ x ≠ y := by
  unfold pairOk at h
  simp only [Bool.and_eq_true, Bool.not_eq_true'] at h
  obtain ⟨⟨⟨⟨⟨⟨⟨hx, hy⟩, hxy⟩, hl⟩, sa⟩, sb⟩, hf⟩, hc⟩ := h
  have hx : env.scope.names.lookup x = some .local := by simpa using hx
  have hy : env.scope.names.lookup y = some .local := by simpa using hy
  have hxy : x ≠ y := by simpa using hxy
  refine ⟨?_, hx, hy, hxy⟩
  have hb : env.blockKind = .function := by unfold Env.blockKind; rw [h1]; rfl
  have kx : env.kindOf x = some .local := hx
  have ky : env.kindOf y = some .local := hy
  have hst : (fun e : Expr => (match e with | .Starred .. => true | _ => false : Bool)) = isStar := by
    funext e
    cases e <;> rfl
  have hpos : (Expr.Name x px).pos = px := rfl
  have hle : py.line = px.line := beq_iff_eq.mp hl
  have her : ([x, y] : List Str).eraseDups = [x, y] := by simp [List.eraseDups_cons, Ne.symm hxy]
  unfold swappedStores
  simp only [hb, hf, hc]
  simp [List.filterMap_cons, hpos, kx, ky, hle, her]
  intro h
  rcases h with h | h
  · have h2 := (congrFun hst a).symm.trans h
    rw [sa] at h2; cases h2
  · have h2 := (congrFun hst b).symm.trans h
    rw [sb] at h2; cases h2

section
variable {W : Type} {T : Tab} {R : WR W} {X : Cx} {e a b : Expr} {f : Ex W} {pos : Pos} {body : List Stmt}
theorem ts_try {h0 : ExceptHandler} {hs : List ExceptHandler} {g : Sm W} (hn : ∀ e s, ¬ X.xe e s) (hb : PSs X body (tS T X.K R g)) : PS X (.Try body (h0 :: hs) [] [] pos) (tS T X.K R g) := (ps_try_never hn hb pss_nil).imp fun D σ H h => h
end
section
variable {W : Type}
def sPar (i j : Nat) (f : As W) : Sm W := fun st => match f st with
  | some ([d, e], st1) => some (.nx, { st1 with sl := (st1.sl.set i (.fz d)).set j (.fz e) })
  | _ => none
/-- x, y = [], [] -/
def sPar0 (i j : Nat) : Sm W := fun st => some (.nx, { st with sl := (st.sl.set i (.ow (.lst []))).set j (.ow (.lst [])) })
end
section
variable {W : Type} {T : Tab} {R : WR W} {X : Cx} {s : Stmt} {e a b : Expr} {f : As W} {i j : Nat} {pos p1 p2 : Pos}
theorem ts_par {ta : TA → TS} (ha : PA X [a, b] (tA T X.K R f)) (h : ∀ t : TA, PA X [a, b] t → PS X s (tPar i j t)) : PS X s (tS T X.K R (sPar i j f)) := (h _ ha).imp fun D σ H ⟨st, fp, hd, q, o, st', h', k⟩ => by
  unfold sPar at h'
  split at h'
  · rename_i d1 d2 st1 h1
    cases h'
    refine ⟨st, fp, hd, q, _, _, h1, fun vs H1 fp1 q1 l1 r1 => ?_⟩
    obtain ⟨v, w, rfl, rv, rw'⟩ := reps2 r1
    obtain ⟨q2, l2⟩ := q1.set i rv
    obtain ⟨q3, l3⟩ := q2.set j (rw'.up l2.up)
    exact ⟨v, w, rfl, k _ H1 fp1 q3 ((l1.trans l2).trans l3)⟩
  · cases h'
theorem ts_par0 (h : ∀ t : TA, PA X [.List [] p1, .List [] p2] t → PS X s (tPar i j t)) : PS X s (tS T X.K R (sPar0 (W := W) i j)) := by
  have h1 : PA X [.List [] p1, .List [] p2] (tCons (tLst tNil) (tCons (tLst tNil) tNil)) := pa_cons (pe_lst pa_nil) (pa_cons (pe_lst pa_nil) pa_nil rfl) rfl
  refine (h _ h1).imp fun D σ H ⟨st, fp, hd, q, o, st', h', k⟩ => ?_
  cases h'
  refine ⟨Nat.zero_le _, fun pa ha => ⟨Nat.zero_le _, fun pb hb => ⟨_, _, rfl, ?_⟩⟩⟩
  obtain ⟨q2, l2⟩ := q.setOw i (fun _ _ z => by cases z) ha (.lst upd_same .nil)
  obtain ⟨q3, l3⟩ := q2.setOw j (fun _ _ z => by cases z) hb (.lst upd_same .nil)
  exact k _ _ fp q3 (l2.trans l3)
end
section
variable {W : Type}
def ePeekLen (i : Nat) : Ex W := fun st => match st.sl[i]? with
  | some (.ow (.lst l)) => some (.int l.length, st)
  | some (.fz d) => (match lenD d with
    | some n => some (.int n, st)
    | none => none)
  | _ => none
end
section
variable {W : Type} {T : Tab} {R : WR W} {X : Cx} {x : Expr} {i : Nat} {pos p : Pos}
theorem te_peekLen (hg : Gl X "len") (hm : X.mg "len" = none) (hx : PE X x (tVar i)) (hs : noStar [x] = true) : PE X (.Call (.Name "len" p) [x] [] pos) (tE T X.K R (ePeekLen (W := W) i)) := by
  have h1 : PA X [x] (tCons (tVar i) tNil) := pa_cons hx pa_nil ((noStar_cons hs).2 _)
  refine (pe_callB call_len hg hm boot_len h1 (by decide) (by decide) ((noStar_cons hs).2 _) rfl).imp fun σ H Q ⟨st, fp, hd, q, d, st', h', k⟩ => ?_
  unfold ePeekLen at h'
  split at h'
  · rename_i l hsl
    cases h'
    obtain ⟨a, ha, own⟩ := own_at q hsl
    obtain ⟨xs, hh, rx⟩ := own_lst own
    exact ⟨_, ha, _, l.length, rfl, .inl ⟨xs, SqL.of hh, rx.length.symm⟩, k _ H fp q (Le.refl _) (.int _)⟩
  · rename_i d0 hsl
    split at h'
    · rename_i n hn
      cases h'
      obtain ⟨v, hv, r⟩ := q.sl.get hsl
      cases v with
      | none => exact r.elim
      | some v => exact ⟨v, hv, v, n, rfl, len_of still_le r hn, k _ H fp q (Le.refl _) (.int _)⟩
    · cases h'
  · cases h'
end
end Mi
namespace Mi
open PySem PySem.Spec L2
open PyProof.Rows hiding St

section
variable {W : Type} {T : Tab} {R : WR W} {X : Cx} {o : Expr} {i : Nat} {nm : Str} {pos p : Pos}
/-- x.f, x an instance of its own -/
def ePeekF (i : Nat) (cs : List Nat) (nm : Str) : Ex W := fun st => match st.sl[i]? with
  | some (.ow (.ins c fs)) => if cs.contains c = true then (match fs.lookup nm with
    | some d => some (d, st)
    | none => none) else none
  | _ => none
theorem te_peekF {cs : List Nat} (ho : PE X o (tVar i)) (hat : ∀ c ∈ cs, Cls X.K (T.cls c) ∧ NoAttr X.K (T.cls c) nm) (hb : attributeBase o nm X.env (eval o X.env) = eval o X.env) : PE X (.Attribute o nm pos) (tE T X.K R (ePeekF (W := W) i cs nm)) := by
  refine ⟨fun pins s σ H Q I ⟨st, fp, hd, q, d, st', h', k⟩ => ?_⟩
  unfold ePeekF at h'
  split at h'
  · rename_i c fs hsl
    split at h'
    · rename_i hc
      split at h'
      · rename_i dd hl
        cases h'
        obtain ⟨cls, na⟩ := hat c (by simpa using hc)
        obtain ⟨a, ha, own⟩ := own_at q hsl
        obtain ⟨dx, vs, hh, rf⟩ := own_ins own
        obtain ⟨v, hv, rv⟩ := rf.lookup.1 _ hl
        exact (pe_fld ho hb).run pins s σ H Q I ⟨_, ha, _, _, _, _, v, rfl, hh, cls, na, hv, k v H fp q (Le.refl _) rv⟩
      · cases h'
    · cases h'
  · cases h'
end
end Mi
namespace Mi
open PySem PySem.Spec L2
open PyProof.Rows hiding St

section
variable {W : Type}
def eAlt (f g : Ex W) : Ex W := fun st => match f st with
  | some r => some r
  | none => g st
def orV (a b : Ex W) : Ex W := fun st => match a st with
  | some (x, st1) => (match truD x with
    | some true => some (x, st1)
    | some false => b st1
    | none => none)
  | none => none
def andV (a b : Ex W) : Ex W := fun st => match a st with
  | some (x, st1) => (match truD x with
    | some true => b st1
    | some false => some (x, st1)
    | none => none)
  | none => none
def notV (d : D) : Option D := (truD d).map fun b => .bl (!b)
end
section
variable {W : Type} {T : Tab} {R : WR W} {X : Cx} {e a b c : Expr} {f g f1 f2 f3 : Ex W} {pos : Pos}
theorem te_alt (h : PE X e (tE T X.K R f)) (h' : PE X e (tE T X.K R g)) : PE X e (tE T X.K R (eAlt f g)) := ⟨fun pins s σ H Q I ⟨st, fp, hd, q, d, st', e1, k⟩ => by
  unfold eAlt at e1
  split at e1
  · rename_i r hr
    cases e1
    exact h.run pins s σ H Q I ⟨st, fp, hd, q, d, st', hr, k⟩
  · exact h'.run pins s σ H Q I ⟨st, fp, hd, q, d, st', e1, k⟩⟩
theorem te_orV {rest : List Expr} (ha : PE X a (tE T X.K R f1)) (hb : PE X (.BoolOp .Or (b :: rest) pos) (tE T X.K R f2)) : PE X (.BoolOp .Or (a :: b :: rest) pos) (tE T X.K R (orV f1 f2)) := (pe_orT ha hb).imp fun σ H Q ⟨st, fp, hd, q, d, st', h', k⟩ => by
  unfold orV at h'
  split at h'
  · rename_i x st1 hx
    refine ⟨st, fp, hd, q, x, _, hx, fun v H1 fp1 q1 l1 r1 => ?_⟩
    split at h'
    · rename_i ht
      cases h'
      exact ⟨true, tru_of r1 still_le ht, iteT (k v H1 fp1 q1 l1 r1)⟩
    · rename_i ht
      exact ⟨false, tru_of r1 still_le ht, iteF ⟨st1, fp1, hd, q1, d, st', h', fun w H2 fp2 q2 l2 r2 => k w H2 fp2 q2 (l1.trans l2) r2⟩⟩
    · cases h'
  · cases h'
theorem te_andV {rest : List Expr} (ha : PE X a (tE T X.K R f1)) (hb : PE X (.BoolOp .And (b :: rest) pos) (tE T X.K R f2)) : PE X (.BoolOp .And (a :: b :: rest) pos) (tE T X.K R (andV f1 f2)) := (pe_andT ha hb).imp fun σ H Q ⟨st, fp, hd, q, d, st', h', k⟩ => by
  unfold andV at h'
  split at h'
  · rename_i x st1 hx
    refine ⟨st, fp, hd, q, x, _, hx, fun v H1 fp1 q1 l1 r1 => ?_⟩
    split at h'
    · rename_i ht
      exact ⟨true, tru_of r1 still_le ht, iteT ⟨st1, fp1, hd, q1, d, st', h', fun w H2 fp2 q2 l2 r2 => k w H2 fp2 q2 (l1.trans l2) r2⟩⟩
    · rename_i ht
      cases h'
      exact ⟨false, tru_of r1 still_le ht, iteF (k v H1 fp1 q1 l1 r1)⟩
    · cases h'
  · cases h'
theorem te_notV (ha : PE X a (tE T X.K R f)) : PE X (.UnaryOp .Not a pos) (tE T X.K R (eUn notV f)) := (pe_notT ha).imp fun σ H Q ⟨st, fp, hd, q, d, st', h', k⟩ => by
  unfold eUn at h'
  split at h'
  · rename_i x st1 hx
    split at h'
    · rename_i d' hdd
      cases h'
      refine ⟨st, fp, hd, q, x, _, hx, fun v H1 fp1 q1 l1 r1 => ?_⟩
      unfold notV at hdd
      cases ht : truD x with
      | none => rw [ht] at hdd; cases hdd
      | some b =>
        rw [ht] at hdd
        cases hdd
        exact ⟨b, tru_of r1 still_le ht, k _ H1 fp1 q1 l1 (.bl _)⟩
    · cases h'
  · cases h'
/-- a comparison, told by what it does to readings -/
structure CmpI (T : Tab) (R : WR W) (X : Cx) (op : CmpOp) (f1 f2 f : Ex W) : Prop where
  ex : ∃ r, OpR X (compareOp op) r ∧ ∀ σ H Q, tE T X.K R f σ H Q → tOp r (tE T X.K R f1) (tE T X.K R f2) σ H Q
theorem bin_imp {r : R2} {g : D → D → Option D} {K : PySem.W.Frag} (hg : OpS T K r g) {σ : L2.St} {H : Hp} {Q : VK} : tE T K R (eBin g f1 f2) σ H Q → tOp r (tE T K R f1) (tE T K R f2) σ H Q := fun ⟨st, fp, hd, q, d, st', h', k⟩ => by
  unfold eBin at h'
  split at h'
  · rename_i x st1 hx
    split at h'
    · rename_i y st2 hy
      split at h'
      · rename_i d' hdd
        cases h'
        exact ⟨st, fp, hd, q, x, _, hx, fun v H1 fp1 q1 l1 r1 => ⟨st1, fp1, hd, q1, y, _, hy, fun v2 H2 fp2 q2 l2 r2 => hg v v2 H2 _ x y d Q still_le (r1.up l2.up) r2 hdd (ans_of q2 fun v3 H3 fp3 q3 l3 r3 => k v3 H3 fp3 q3 ((l1.trans l2).trans l3) r3)⟩⟩
      · cases h'
    · cases h'
  · cases h'
theorem CmpI.bin {op : CmpOp} {r : R2} {g : D → D → Option D} (ho : OpR X (compareOp op) r) (hg : OpS T X.K r g) : CmpI T R X op f1 f2 (eBin g f1 f2) := ⟨r, ho, fun σ H Q h => bin_imp hg h⟩
theorem CmpI.pe {op : CmpOp} (h : CmpI T R X op f1 f2 f) (ha : PE X a (tE T X.K R f1)) (hb : PE X b (tE T X.K R f2)) (hm : behindInMarks op b = false) : PE X (.Compare a [op] [b] pos) (tE T X.K R f) := by
  obtain ⟨r, ho, i⟩ := h.ex
  exact (pe_cmpR ho ha hb hm).imp i
theorem bl_test {K : PySem.W.Frag} {t : TE} {σ : L2.St} {H : Hp} {Q : Bool → Hp → Prop} (i : ∀ σ H Q, tE T K R f σ H Q → t σ H Q) : tT T K R (xBl f) σ H Q → tTest t σ H Q := fun ⟨st, fp, hd, q, b, st', h', k⟩ => by
  unfold xBl at h'
  split at h'
  · rename_i b' st1 hx
    cases h'
    exact i σ H _ ⟨st, fp, hd, q, _, _, hx, fun v H1 fp1 q1 l1 r1 => ⟨b, rep_bl r1, k H1 fp1 q1 l1⟩⟩
  · cases h'
theorem CmpI.pt {op : CmpOp} (h : CmpI T R X op f1 f2 f) (ha : PE X a (tE T X.K R f1)) (hb : PE X b (tE T X.K R f2)) (hm : behindInMarks op b = false) : PT X (.Compare a [op] [b] pos) (tT T X.K R (xBl f)) := by
  obtain ⟨r, ho, i⟩ := h.ex
  exact (pt_cmpR ho ha hb hm).imp fun σ H Q h => bl_test i h
theorem chain_imp {K : PySem.W.Frag} {r r' : R2} {g g' : D → D → Option D} (hg : OpS T K r g) (hg' : OpS T K r' g') {σ : L2.St} {H : Hp} {Q : VK} : tE T K R (eChain g g' f1 f2 f3) σ H Q → tChain r r' (tE T K R f1) (tE T K R f2) (tE T K R f3) σ H Q := fun ⟨st, fp, hd, q, d, st', h', k⟩ => by
  unfold eChain at h'
  split at h'
  · rename_i x st1 hx
    split at h'
    · rename_i y st2 hy
      refine ⟨st, fp, hd, q, x, _, hx, fun v H1 fp1 q1 l1 r1 => ⟨st1, fp1, hd, q1, y, _, hy, fun v2 H2 fp2 q2 l2 r2 => ?_⟩⟩
      split at h'
      · rename_i hgx
        refine hg v v2 H2 _ x y _ _ still_le (r1.up l2.up) r2 hgx (ans_of q2 fun v3 H3 fp3 q3 l3 r3 => ⟨true, rep_bl r3, iteT ?_⟩)
        split at h'
        · rename_i z st3 hz
          split at h'
          · rename_i d' hdd
            cases h'
            exact ⟨st2, fp3, hd, q3, z, _, hz, fun v4 H4 fp4 q4 l4 r4 => hg' v2 v4 H4 _ y z _ Q still_le (r2.up (l3.trans l4).up) r4 hdd (ans_of q4 fun v5 H5 fp5 q5 l5 r5 => k v5 H5 fp5 q5 ((((l1.trans l2).trans l3).trans l4).trans l5) r5)⟩
          · cases h'
        · cases h'
      · rename_i hgx
        cases h'
        exact hg v v2 H2 _ x y _ _ still_le (r1.up l2.up) r2 hgx (ans_of q2 fun v3 H3 fp3 q3 l3 r3 => ⟨false, rep_bl r3, iteF (k _ H3 fp3 q3 ((l1.trans l2).trans l3) (.bl _))⟩)
      · cases h'
    · cases h'
  · cases h'
theorem tt_chain {op op' : CmpOp} {r r' : R2} {g g' : D → D → Option D} (ho : OpR X (compareOp op) r) (ho' : OpR X (compareOp op') r') (hg : OpS T X.K r g) (hg' : OpS T X.K r' g') (ha : PE X a (tE T X.K R f1)) (hb : PE X b (tE T X.K R f2)) (hc : PE X c (tE T X.K R f3)) (hm : lastMarks [op, op'] [b, c] = false) :
    PT X (.Compare a [op, op'] [b, c] pos) (tT T X.K R (xBl (eChain g g' f1 f2 f3))) := (pt_chain ho ho' ha hb hc hm).imp fun σ H Q h => bl_test (t := tChain r r' (tE T X.K R f1) (tE T X.K R f2) (tE T X.K R f3)) (fun σ H Q h => chain_imp hg hg' h) h
theorem CmpI.eq {j : Nat} {mt : Nat → Option (Cal W)} {nf : Nat → Nat → Bool} (hu : X.A.units + 64 < cLine) (hr : Room j X.A) (hmt : DunOk T R X j "__eq__" mt) (hnf : ∀ c c', nf c c' = true → PySem.W.notFirst X.K (T.cls c) (.ref (T.cls c')) = true) : CmpI T R X .Eq f1 f2 (eEq mt nf f1 f2) := ⟨_, (op_eqD hu).or (op_eqOwn hr hmt hnf), fun σ H Q ⟨st, fp, hd, q, d, st', h', k⟩ => by
  unfold eEq at h'
  split at h'
  · rename_i x st1 hx
    split at h'
    · rename_i y st2 hy
      refine ⟨st, fp, hd, q, x, _, hx, fun v H1 fp1 q1 l1 r1 => ⟨st1, fp1, hd, q1, y, _, hy, fun v2 H2 fp2 q2 l2 r2 => ?_⟩⟩
      split at h'
      · rename_i c fs
        split at h'
        · rename_i cd hc
          split at h'
          · rename_i c' fs'
            split at h'
            · rename_i n
              split at h'
              · rename_i r st3 hgo
                cases h'
                have r1' := r1.up l2.up
                cases r1' with
                | ins z rf =>
                  cases r2 with
                  | ins z2 rf2 =>
                    obtain ⟨n1, _, hh⟩ := go_cal (X := X) (n := 0) (zs := []) (Q := fun v H' => (∃ r, v = .bl r) ∧ Q v H') q2 (.cons (.ins z rf) (.cons (.ins z2 rf2) .nil)) .nil hgo fun v H' fp' q4 l4 r4 => by
                      cases r4
                      exact ⟨⟨_, rfl⟩, k _ H' fp' q4 ((l1.trans l2).trans l4) (.bl _)⟩
                    exact .inr ⟨_, c, _, _, _, c', _, _, cd, rfl, still_le _ _ z, rfl, still_le _ _ z2, n, hc, n1, hh⟩
              · cases h'
            · cases h'
          · cases h'
        · cases h'
      · split at h'
        · rename_i d' hdd
          cases h'
          exact .inl (eq_s v v2 H2 _ x y _ Q still_le (r1.up l2.up) r2 hdd (ans_of q2 fun v3 H3 fp3 q3 l3 r3 => k v3 H3 fp3 q3 ((l1.trans l2).trans l3) r3))
        · cases h'
    · cases h'
  · cases h'⟩
theorem CmpI.fail {op : CmpOp} {r : R2} (ho : OpR X (compareOp op) r) : CmpI T R X op f1 f2 (eFail (W := W)) := ⟨r, ho, fun σ H Q ⟨st, fp, hd, q, d, st', h', k⟩ => by cases h'⟩
theorem tt_val (ha : PE X e (tE T X.K R f)) (he : ∀ whole, isTrue e X.env whole = (do let v ← whole; standAt e.pos; holding [v] (truthy v))) : PT X e (tT T X.K R (xOf f)) := tt_of ha he
end
def rIsB (neg : Bool) : R2 := fun x y H Q => ∃ a b, x = .bl a ∧ y = .bl b ∧ Q (.bl (if neg = true then !decide (a = b) else decide (a = b))) H
end Mi
namespace Mi
open PySem PySem.Spec L2
open PyProof.Rows hiding St

section
variable {X : Cx}
theorem op_isB : OpR X (compareOp .Is) (rIsB false) := by
  intro pins s σ H x y v u Q I rx ry h
  obtain ⟨a, b, rfl, rfl, q⟩ := h
  cases rx
  cases ry
  show wpAny _ _ ((isSame (.bool a) (.bool b)) >>= fun z => pure (Value.bool z)) _ _ s
  refine wpAny_bind (wpAny_isSame_plain rfl (wpAny_pure ⟨.bl _, H, I, rfl, ?_⟩))
  have e : (Value.bool a == Value.bool b) = decide (a = b) := by cases a <;> cases b <;> rfl
  rw [e]
  exact q
theorem op_isnotB : OpR X (compareOp .IsNot) (rIsB true) := by
  intro pins s σ H x y v u Q I rx ry h
  obtain ⟨a, b, rfl, rfl, q⟩ := h
  cases rx
  cases ry
  show wpAny _ _ ((isSame (.bool a) (.bool b)) >>= fun z => pure (Value.bool (!z))) _ _ s
  refine wpAny_bind (wpAny_isSame_plain rfl (wpAny_pure ⟨.bl _, H, I, rfl, ?_⟩))
  have e : (Value.bool a == Value.bool b) = decide (a = b) := by cases a <;> cases b <;> rfl
  rw [e]
  exact q
end
def gIsB (neg : Bool) (d e : D) : Option D := match d, e with
  | .bl a, .bl b => some (.bl (if neg = true then !decide (a = b) else decide (a = b)))
  | _, _ => none
theorem isB_s {T : Tab} {K : PySem.W.Frag} {neg : Bool} : OpS T K (rIsB neg) (gIsB neg) := fun x y H G d1 d2 d Q le r1 r2 e k => by
  unfold gIsB at e
  split at e
  · cases e; cases r1; cases r2
    exact ⟨_, _, rfl, rfl, k.scal fun _ => .bl _⟩
  · cases e
def gIs : D → D → Option D := orG gIsN (gIsB false)
def gIsNot : D → D → Option D := orG gNotN (gIsB true)

structure Ctv (W : Type) where
  N : List Str
  ow : Str → Bool
  gv : Str → Option D
  cl : Str → Option Nat
  fn : Str → List Str → Nat → Option (Cal W)
  mt : Str → List Str → Nat → Nat → Option (Cal W)
  pt : Str → Nat → Option (Cal W)
  fc : Str → List Nat
  cm : Nat → Str → List Str → Nat → Option (Cal W)
  mke : Nat → List Str → Nat → Option (Cal W)
  st : Nat → Option (Cal W)
  eq : Nat → Option (Cal W)
  co : List Str → Nat → Nat → Option (Cal W)
  nf : Nat → Nat → Bool
  kt : Ty → Ty → Option Bool
  ic : Nat → Bool
  bl : Str → Bool
  fu : Nat
/-- what the tables say holds in contexts of this kind -/
structure CtxOk {W : Type} (T : Tab) (R : WR W) (cv : Ctv W) (GX : Cx → Prop) (j : Nat) : Prop where
  blk : ∀ X s H scope ce fp, GX X → GX (X.blk s H scope ce fp)
  room : ∀ X, GX X → Room (j + 2) X.A
  calm : ∀ X, GX X → X.calm = true
  gv : ∀ X x d, GX X → cv.gv x = some d → ∃ v u, X.mg x = some u ∧ RelV v u ∧ ∀ G, Rep T X.K G v d
  cl : ∀ X x c, GX X → cv.cl x = some c → X.mg x = some (.ref (T.cls c))
  fn : ∀ X x ks n cd, GX X → cv.fn x ks n = some cd → ∃ u, X.mg x = some u ∧ PySem.W.keepIn X.K u = true ∧ CalV X u cd.n ks (rCal T X.K R cd.pl cd.fn)
  mt : ∀ X nm ks n, GX X → MethOk T R X nm ks (cv.mt nm ks n)
  at_ : ∀ X nm, GX X → AttrOk T R X nm (cv.fc nm) (cv.pt nm)
  cm : ∀ X c nm ks n cd, GX X → cv.cm c nm ks n = some cd → ∃ mc pa fm, ClX.CRead X.K (T.cls c) mc ∧ ClX.CMet X.K (T.cls c) mc nm pa fm ∧ CalA X j (.ref fm) cd.n ks (rCal T X.K R cd.pl cd.fn)
  mke : ∀ X c ks n cd, GX X → cv.mke c ks n = some cd → PySem.W.keepIn X.K (.ref (T.cls c)) = true ∧ CalV X (.ref (T.cls c)) cd.n ks (rCal T X.K R cd.pl cd.fn)
  st : ∀ X, GX X → DunOk T R X j "__str__" cv.st
  eq : ∀ X, GX X → DunOk T R X j "__eq__" cv.eq
  co : ∀ X ks n, GX X → DunK T R X j "__call__" ks (cv.co ks n)
  nf : ∀ X c c', GX X → cv.nf c c' = true → PySem.W.notFirst X.K (T.cls c) (.ref (T.cls c')) = true
  kit : ∀ X, GX X → KitOk T X.K cv.kt cv.ic
  bl : ∀ X x, GX X → cv.bl x = true → X.mg x = none
/-- a context with that scope -/
structure XOk {W : Type} (cv : Ctv W) (GX : Cx → Prop) (sc : Scope) (X : Cx) : Prop where
  gx : GX X
  N : X.N = cv.N
  nd : cv.N.Nodup
  es : X.env.scope = sc
  kind : sc.kind = .function
  hn : ∀ e s, ¬ X.xe e s

def ixOf (N : List Str) (x : Str) : Option Nat := N.findIdx? (· == x)
theorem ixOf_at {N : List Str} {x : Str} {i : Nat} (h : ixOf N x = some i) : N[i]? = some x := by
  unfold ixOf at h
  obtain ⟨hi, hp, _⟩ := List.findIdx?_eq_some_iff_getElem.mp h
  rw [List.getElem?_eq_getElem hi]
  exact congrArg some (beq_iff_eq.mp hp)
/-- not a name that the machine treats in its own way -/
def okName (x : Str) : Bool := !(x == ("__debug__" : Str)) && !(x == ("__classdict__" : Str)) && !(x == ("__name__" : Str))
theorem okName_of {x : Str} (h : okName x = true) : (x == ("__debug__" : Str)) = false ∧ (x == ("__classdict__" : Str)) = false ∧ x ≠ "__name__" := by
  unfold okName at h
  simp only [Bool.and_eq_true, Bool.not_eq_true'] at h
  exact ⟨h.1.1, h.1.2, fun e => by rw [e] at h; simp at h⟩
def isGl (sc : Scope) (x : Str) : Bool := sc.names.lookup x == some .globalImplicit
def isVis (sc : Scope) (x : Str) : Bool := sc.names.lookup x == some .local || sc.names.lookup x == some .cell || sc.names.lookup x == some .free
section
variable {W : Type} {T : Tab} {R : WR W} {cv : Ctv W} {GX : Cx → Prop} {sc : Scope} {X : Cx} {j : Nat}
theorem XOk.gl (ok : XOk cv GX sc X) {x : Str} (h : isGl sc x = true) : Gl X x := by
  show X.env.scope.names.lookup x = _
  rw [ok.es]
  unfold isGl at h
  simpa using h
theorem XOk.vis (ok : XOk cv GX sc X) {x : Str} (h : isVis sc x = true) : Vis X.env.scope x := by
  rw [ok.es]
  unfold isVis at h
  simp only [Bool.or_eq_true, beq_iff_eq] at h
  rcases h with (h | h) | h
  · exact .inl h
  · exact .inr (.inl h)
  · exact .inr (.inr h)
/-- the slot of a name that is seen -/
def slotOf (cv : Ctv W) (sc : Scope) (x : Str) : Option Nat := if okName x = true ∧ isVis sc x = true then ixOf cv.N x else none
theorem XOk.slot (ok : XOk cv GX sc X) {x : Str} {i : Nat} {p : Pos} (h : slotOf cv sc x = some i) : PE X (.Name x p) (tVar i) := by
  unfold slotOf at h
  split at h
  · rename_i hc
    obtain ⟨h1, h2, h3⟩ := okName_of hc.1
    exact pe_var (by rw [ok.N]; exact ixOf_at h) (ok.vis hc.2) h1 h2
  · cases h
def exName (cv : Ctv W) (sc : Scope) (x : Str) : Ex W := match slotOf cv sc x with
  | some i => eVar i
  | none => if okName x = true ∧ isGl sc x = true then (match cv.gv x with
    | some d => eC d
    | none => (match cv.cl x with
      | some c => eC (.cls c)
      | none => eFail)) else eFail
theorem exName_ok (co : CtxOk T R cv GX j) (ok : XOk cv GX sc X) {x : Str} {p : Pos} : PE X (.Name x p) (tE T X.K R (exName cv sc x)) := by
  unfold exName
  split
  · rename_i i h
    exact te_var (ok.slot h)
  · split
    · rename_i hc
      obtain ⟨h1, h2, h3⟩ := okName_of hc.1
      split
      · rename_i d hd
        obtain ⟨v, u, e1, e2, e3⟩ := co.gv X x d ok.gx hd
        exact te_c (pe_glob (ok.gl hc.2) e1 e2 h1) e3
      · split
        · rename_i c hcl
          exact te_c (v := .ref (T.cls c)) (pe_glob (ok.gl hc.2) (co.cl X x c ok.gx hcl) rfl h1) fun G => .cls c
        · exact te_fail fun _ => rfl
    · exact te_fail fun _ => rfl
def exConst : Const → Ex W
  | .none => eC .non
  | .bool b => eC (.bl b)
  | .int i => eC (.int i)
  | .str x => eC (.str x)
  | _ => eFail
theorem exConst_ok {c : Const} {k : Nat} {p : Pos} : PE X (.Constant c k p) (tE T X.K R (exConst (W := W) c)) := by
  cases c with
  | none => exact te_c pe_non fun _ => .non
  | bool b => exact te_c pe_bl fun _ => .bl b
  | int i => exact te_c pe_int fun _ => .int i
  | str x => exact te_c pe_str fun _ => .str x
  | _ => exact te_fail fun _ => rfl
def addD : D → D → Option D := orG (gI (fun _ _ => true) fun i j => .int (i + j)) (orG gAddS (orG gAddL gAddT))
def mulOk (i j : Int) : Bool := decide (i.natAbs < 2 ^ 64) || decide (j.natAbs < 2 ^ 64)
def exBin (op : Operator) (f g : Ex W) : Ex W := match op with
  | .Add => eBin addD f g
  | .Sub => eBin (gI (fun _ _ => true) fun i j => .int (i - j)) f g
  | .Mult => eBin (gI mulOk fun i j => .int (i * j)) f g
  | .FloorDiv => eBin (gI (fun _ j => decide (0 < j ∧ j < 1073741824)) fun i j => .int (i / j)) f g
  | .Mod => eBin (gI (fun _ j => decide (0 < j)) fun i j => .int (i % j)) f g
  | _ => eFail
theorem mulOk_of {i j : Int} (h : mulOk i j = true) : CMul i j := by
  unfold mulOk at h
  rw [Bool.or_eq_true, decide_eq_true_eq, decide_eq_true_eq] at h
  rcases h with h | h
  · exact .inl (by omega)
  · exact .inr (by omega)
theorem exBin_ok {op : Operator} {a b : Expr} {f g : Ex W} {p : Pos} (ha : PE X a (tE T X.K R f)) (hb : PE X b (tE T X.K R g)) : PE X (.BinOp a op b p) (tE T X.K R (exBin op f g)) := by
  cases op with
  | Add => exact te_bin ha hb (or_s (int_s0 fun i j G => .int (i + j)) (or_s addS_s (or_s addL_s addT_s))) fun ta tb h1 h2 => pe_op (op_add.or (op_add_str.or (op_cat.or op_catN))) h1 h2
  | Sub => exact te_bin ha hb (int_s0 fun i j G => .int (i - j)) fun ta tb h1 h2 => pe_op op_sub h1 h2
  | Mult => exact te_bin ha hb (int_s (fun i j h => mulOk_of h) fun i j G => .int (i * j)) fun ta tb h1 h2 => pe_op op_mul h1 h2
  | FloorDiv => exact te_bin ha hb (int_s (fun i j h => of_decide_eq_true h) fun i j G => .int (i / j)) fun ta tb h1 h2 => pe_op op_fdiv h1 h2
  | Mod => exact te_bin ha hb (int_s (fun i j h => of_decide_eq_true h) fun i j G => .int (i % j)) fun ta tb h1 h2 => pe_op op_mod h1 h2
  | _ => exact te_fail fun _ => rfl
def ltD (f : Int → Int → Bool) : D → D → Option D := gI (fun _ _ => true) fun i j => .bl (f i j)
def exCmp (cv : Ctv W) (op : CmpOp) (f g : Ex W) : Ex W := match op with
  | .Eq => eEq cv.eq cv.nf f g
  | .NotEq => eBin gNe f g
  | .Lt => eBin (ltD fun i j => decide (i < j)) f g
  | .LtE => eBin (ltD fun i j => decide (i ≤ j)) f g
  | .Gt => eBin (ltD fun i j => decide (j < i)) f g
  | .GtE => eBin (ltD fun i j => decide (j ≤ i)) f g
  | .Is => eBin gIs f g
  | .IsNot => eBin gIsNot f g
  | .In => eBin gInA f g
  | .NotIn => eBin gNotInA f g
theorem exCmp_ok (co : CtxOk T R cv GX j) (ok : XOk cv GX sc X) {op : CmpOp} {f g : Ex W} : CmpI T R X op f g (exCmp cv op f g) := by
  have hr := co.room X ok.gx
  have hu := hr.un
  cases op with
  | Eq => exact .eq hr.units (hr.mono (Nat.le_add_right _ _)) (co.eq X ok.gx) fun c c' h => co.nf X c c' ok.gx h
  | NotEq => exact .bin (op_neD hr.units) ne_s
  | Lt => exact .bin op_lt (int_s0 fun i j G => .bl _)
  | LtE => exact .bin op_le (int_s0 fun i j G => .bl _)
  | Gt => exact .bin op_gt (int_s0 fun i j G => .bl _)
  | GtE => exact .bin op_ge (int_s0 fun i j G => .bl _)
  | Is => exact .bin (op_isN.or op_isB) (or_s isN_s isB_s)
  | IsNot => exact .bin (op_notN.or op_isnotB) (or_s notN_s isB_s)
  | In => exact .bin ((op_inAll (by omega)).or (op_inDict (by omega))) (or_s in_s inDict_s)
  | NotIn => exact .bin ((op_notInAll (by omega)).or (op_notInDict (by omega))) (or_s notIn_s notInDict_s)
/-- an order of ints, for chains -/
def ordI : CmpOp → Option (Int → Int → Bool)
  | .Lt => some fun i j => decide (i < j)
  | .LtE => some fun i j => decide (i ≤ j)
  | .Gt => some fun i j => decide (j < i)
  | .GtE => some fun i j => decide (j ≤ i)
  | _ => none
theorem ordI_ok {op : CmpOp} {h : Int → Int → Bool} (e : ordI op = some h) : ∃ r, OpR X (compareOp op) r ∧ OpS T X.K r (ltD h) := by
  cases op <;> first | (cases e; done) | cases e
  · exact ⟨_, op_lt, int_s0 fun i j G => .bl _⟩
  · exact ⟨_, op_le, int_s0 fun i j G => .bl _⟩
  · exact ⟨_, op_gt, int_s0 fun i j G => .bl _⟩
  · exact ⟨_, op_ge, int_s0 fun i j G => .bl _⟩
end
end Mi
namespace Mi
open PySem PySem.Spec L2
open PyProof.Rows hiding St

section
variable {W : Type}
def asArgs (f : Expr → Ex W) : List Expr → As W
  | [] => aNil
  | .Starred e _ :: es => aStar (f e) (asArgs f es)
  | e :: es => aCons (f e) (asArgs f es)
def asKws (f : Expr → Ex W) : List Keyword → As W
  | [] => aNil
  | ⟨_, e, _⟩ :: r => aCons (f e) (asKws f r)
end
section
variable {W : Type} {T : Tab} {R : WR W} {cv : Ctv W} {GX : Cx → Prop} {sc : Scope} {X : Cx} {j : Nat} {f : Expr → Ex W}
theorem te_ite {e : Expr} {c : Prop} [Decidable c] {f g : Ex W} (h1 : c → PE X e (tE T X.K R f)) (h2 : ¬ c → PE X e (tE T X.K R g)) : PE X e (tE T X.K R (if c then f else g)) := by
  by_cases h : c
  · rw [if_pos h]; exact h1 h
  · rw [if_neg h]; exact h2 h
theorem te_no {e : Expr} : PE X e (tE T X.K R (eFail (W := W))) := te_fail fun _ => rfl
theorem asArgs_ok (hf : ∀ e, PE X e (tE T X.K R (f e))) : ∀ es : List Expr, PA X es (tA T X.K R (asArgs f es))
  | [] => ta_nil
  | e :: es => by
    have ih := asArgs_ok hf es
    cases e <;> first
      | exact ta_star (hf _) ih
      | exact ta_cons (hf _) ih rfl
theorem asKws_ok (hf : ∀ e, PE X e (tE T X.K R (f e))) : ∀ ks : List Keyword, PK X ks (tA T X.K R (asKws f ks))
  | [] => tk_nil
  | ⟨nm, e, p⟩ :: r => tk_cons (hf e) (asKws_ok hf r)

/-- a class, by its name -/
def bltTy (x : Str) : Option String :=
  if x = ("list" : Str) then some "list" else if x = ("tuple" : Str) then some "tuple" else if x = ("str" : Str) then some "str" else if x = ("int" : Str) then some "int" else if x = ("bool" : Str) then some "bool" else if x = ("dict" : Str) then some "dict" else none
theorem bltTy_of {x : Str} {n : String} (h : bltTy x = some n) : bootBuiltins x = some (.type n) ∧ okName x = true := by
  unfold bltTy at h
  repeat' (split at h)
  all_goals first
    | (rename_i e; subst e; cases h; exact ⟨rfl, by decide⟩)
    | cases h
def tyOf (cv : Ctv W) (sc : Scope) : Expr → Option Ty
  | .Name x _ => if okName x = true ∧ isGl sc x = true then (match cv.cl x with
    | some c => some (.inr c)
    | none => if cv.bl x = true then (bltTy x).map .inl else none) else none
  | _ => none
theorem tyOf_ok (co : CtxOk T R cv GX j) (ok : XOk cv GX sc X) {e : Expr} {t : Ty} (h : tyOf cv sc e = some t) : PE X e (tC (tyW T t)) ∧ noStar [e] = true ∧ ∀ es env, starEach (e :: es) env = (false, eval e env) :: starEach es env := by
  unfold tyOf at h
  split at h
  · rename_i x p
    split at h
    · rename_i hc
      obtain ⟨h1, h2, h3⟩ := okName_of hc.1
      split at h
      · rename_i c hcl
        cases h
        exact ⟨pe_glob (ok.gl hc.2) (co.cl X x c ok.gx hcl) rfl h1, rfl, fun _ _ => rfl⟩
      · split at h
        · rename_i hb
          cases hn : bltTy x with
          | none => rw [hn] at h; cases h
          | some n =>
            rw [hn] at h
            cases h
            exact ⟨pe_bltn (ok.gl hc.2) (co.bl X x ok.gx hb) (bltTy_of hn).1 rfl h3 h1, rfl, fun _ _ => rfl⟩
        · cases h
    · cases h
  · cases h
def tysOf (cv : Ctv W) (sc : Scope) : List Expr → Option (List Ty)
  | [] => some []
  | e :: es => (match tyOf cv sc e with
    | some t => (tysOf cv sc es).map (t :: ·)
    | none => none)
theorem tysOf_ok (co : CtxOk T R cv GX j) (ok : XOk cv GX sc X) : ∀ {es : List Expr} {ts : List Ty}, tysOf cv sc es = some ts → PA X es (tK (ts.map (tyW T)))
  | [], ts, h => by cases h; exact pa_k0
  | e :: es, ts, h => by
    unfold tysOf at h
    cases h1 : tyOf cv sc e with
    | none => rw [h1] at h; cases h
    | some t =>
      rw [h1] at h
      cases h2 : tysOf cv sc es with
      | none => rw [h2] at h; cases h
      | some us =>
        rw [h2] at h
        cases h
        obtain ⟨q1, _, q2⟩ := tyOf_ok (T := T) (R := R) co ok h1
        exact pa_k q1 (tysOf_ok co ok h2) (q2 _ _)
/-- isinstance(a, c) -/
def exIsi (cv : Ctv W) (sc : Scope) (f : Expr → Ex W) : List Expr → Ex W
  | [a, .Tuple es _ _] => if noStar [a] = true then (match tysOf cv sc es with
    | some ts => if ts.length ≤ 100 then eUn (isiD cv.kt cv.ic ts) (f a) else eFail
    | none => eFail) else eFail
  | [a, c] => if noStar [a, c] = true then (match tyOf cv sc c with
    | some t => eUn (isiD cv.kt cv.ic [t]) (f a)
    | none => eFail) else eFail
  | _ => eFail
theorem exIsi_ok (co : CtxOk T R cv GX j) (ok : XOk cv GX sc X) (hf : ∀ e, PE X e (tE T X.K R (f e))) (hg : isGl sc "isinstance" = true) (hb : cv.bl "isinstance" = true) {args : List Expr} {p pos : Pos} : PE X (.Call (.Name "isinstance" p) args [] pos) (tE T X.K R (exIsi cv sc f args)) := by
  have gl := ok.gl hg
  have hm := co.bl X _ ok.gx hb
  unfold exIsi
  split
  · split
    · rename_i hs
      split
      · rename_i ts ht
        split
        · rename_i hn
          exact te_isiT (co.kit X ok.gx) gl hm (hf _) (tysOf_ok co ok ht) hn hs
        · exact te_fail fun _ => rfl
      · exact te_fail fun _ => rfl
    · exact te_fail fun _ => rfl
  · split
    · rename_i hs
      split
      · rename_i t ht
        exact te_isi (co.kit X ok.gx) gl hm (hf _) (tyOf_ok (T := T) (R := R) co ok ht).1 hs
      · exact te_fail fun _ => rfl
    · exact te_fail fun _ => rfl
  · exact te_fail fun _ => rfl
/-- a built-in's name that may be used -/
def useB (cv : Ctv W) (sc : Scope) (x : Str) : Bool := cv.bl x && isGl sc x
theorem useB_of (co : CtxOk T R cv GX j) (ok : XOk cv GX sc X) {x : Str} (h : useB cv sc x = true) : Gl X x ∧ X.mg x = none := by
  unfold useB at h
  rw [Bool.and_eq_true] at h
  exact ⟨ok.gl h.2, co.bl X x ok.gx h.1⟩
/-- a call of a built-in with plain arguments -/
def exB1 (g : List D → Option D) (f : Expr → Ex W) (args : List Expr) : Ex W := match args with
  | [] => eFail
  | e :: es => if noStar (e :: es) = true then ePure g (asArgs f (e :: es)) else eFail
theorem exB1_b {x : Str} {id : String} {r : List V → Hp → VK → Prop} {g : List D → Option D} {args : List Expr} {p pos : Pos} (hf : ∀ e, PE X e (tE T X.K R (f e))) (hc : CallR X (.builtin id) r) (hg : CallS T X.K r g) (gl : Gl X x) (hm : X.mg x = none) (hv : bootBuiltins x = some (.builtin id)) (hx : okName x = true) :
    PE X (.Call (.Name x p) args [] pos) (tE T X.K R (exB1 g f args)) := by
  obtain ⟨h1, h2, h3⟩ := okName_of hx
  cases args with
  | nil => exact te_fail fun _ => rfl
  | cons e es =>
    exact te_ite (fun hs => te_callB hc hg gl hm hv (asArgs_ok hf _) hs h3 h1) fun _ => te_no
theorem exB1_t {x : Str} {id : String} {r : List V → Hp → VK → Prop} {g : List D → Option D} {args : List Expr} {p pos : Pos} (hf : ∀ e, PE X e (tE T X.K R (f e))) (hc : CallR X (.type id) r) (hg : CallS T X.K r g) (gl : Gl X x) (hm : X.mg x = none) (hv : bootBuiltins x = some (.type id)) (hx : okName x = true) :
    PE X (.Call (.Name x p) args [] pos) (tE T X.K R (exB1 g f args)) := by
  obtain ⟨h1, h2, h3⟩ := okName_of hx
  cases args with
  | nil => exact te_fail fun _ => rfl
  | cons e es =>
    exact te_ite (fun hs => te_callT hc hg gl hm hv (asArgs_ok hf _) hs h3 h1) fun _ => te_no
/-- set(a) inside -/
def setArg (cv : Ctv W) (sc : Scope) : List Expr → Option Expr
  | [.Call (.Name s _) [a] [] _] => if s = ("set" : Str) ∧ useB cv sc s = true ∧ noStar [a] = true then some a else none
  | _ => none
theorem setArgE_of {args : List Expr} {a : Expr} (h : setArg cv sc args = some a) : ∃ p2 q, args = [.Call (.Name "set" p2) [a] [] q] ∧ useB cv sc "set" = true ∧ noStar [a] = true := by
  unfold setArg at h
  split at h
  · split at h
    · rename_i hc
      cases h
      obtain ⟨rfl, h2, h3⟩ := hc
      exact ⟨_, _, rfl, h2, h3⟩
    · cases h
  · cases h
def exLen (cv : Ctv W) (sc : Scope) (f : Expr → Ex W) (args : List Expr) : Ex W := match setArg cv sc args with
  | some a => eUn gLenSet (f a)
  | none => (match args with
    | [.Name y _] => (match slotOf cv sc y with
      | some i => eAlt (ePeekLen i) (exB1 gLen f args)
      | none => exB1 gLen f args)
    | _ => exB1 gLen f args)
theorem exLen_ok (co : CtxOk T R cv GX j) (ok : XOk cv GX sc X) (hf : ∀ e, PE X e (tE T X.K R (f e))) (hu : useB cv sc "len" = true) {args : List Expr} {p pos : Pos} : PE X (.Call (.Name "len" p) args [] pos) (tE T X.K R (exLen cv sc f args)) := by
  obtain ⟨gl, hm⟩ := useB_of co ok hu
  have hB : ∀ args, PE X (.Call (.Name "len" p) args [] pos) (tE T X.K R (exB1 gLen f args)) := fun args => exB1_b hf call_len len_s gl hm boot_len (by decide)
  unfold exLen
  split
  · rename_i a ha
    obtain ⟨p2, q, rfl, h2, h3⟩ := setArgE_of ha
    obtain ⟨gl2, hm2⟩ := useB_of co ok h2
    exact te_lenSet (co.calm X ok.gx) gl hm gl2 hm2 (hf _) h3
  · split
    · split
      · rename_i i hi
        exact te_alt (te_peekLen gl hm (ok.slot hi) rfl) (hB _)
      · exact hB _
    · exact hB _
def exSorted (cv : Ctv W) (sc : Scope) (f : Expr → Ex W) (args : List Expr) : Ex W := match setArg cv sc args with
  | some a => eUn gSortSet (f a)
  | none => exB1 gSorted f args
theorem exSorted_ok (co : CtxOk T R cv GX j) (ok : XOk cv GX sc X) (hf : ∀ e, PE X e (tE T X.K R (f e))) (hu : useB cv sc "sorted" = true) {args : List Expr} {p pos : Pos} : PE X (.Call (.Name "sorted" p) args [] pos) (tE T X.K R (exSorted cv sc f args)) := by
  obtain ⟨gl, hm⟩ := useB_of co ok hu
  unfold exSorted
  split
  · rename_i a ha
    obtain ⟨p2, q, rfl, h2, h3⟩ := setArgE_of ha
    obtain ⟨gl2, hm2⟩ := useB_of co ok h2
    exact te_sortSet (co.calm X ok.gx) gl hm gl2 hm2 (hf _) h3
  · exact exB1_b hf TS.cr_sortedTx sorted_s gl hm rfl (by decide)
def exStr (cv : Ctv W) (f : Expr → Ex W) : List Expr → Ex W
  | [a] => if noStar [a] = true then eStr cv.st (f a) else eFail
  | _ => eFail
theorem exStr_ok (co : CtxOk T R cv GX j) (ok : XOk cv GX sc X) (hf : ∀ e, PE X e (tE T X.K R (f e))) (hu : useB cv sc "str" = true) {args : List Expr} {p pos : Pos} : PE X (.Call (.Name "str" p) args [] pos) (tE T X.K R (exStr cv f args)) := by
  obtain ⟨gl, hm⟩ := useB_of co ok hu
  unfold exStr
  split
  · split
    · rename_i hs
      exact te_str (co.room X ok.gx) gl hm (co.st X ok.gx) (hf _) hs
    · exact te_fail fun _ => rfl
  · exact te_fail fun _ => rfl
/-- the built-ins -/
def exBlt (cv : Ctv W) (sc : Scope) (f : Expr → Ex W) (x : Str) (args : List Expr) : Ex W :=
  if useB cv sc x = true then
    (if x = ("len" : Str) then exLen cv sc f args else
    if x = ("isinstance" : Str) then exIsi cv sc f args else
    if x = ("str" : Str) then exStr cv f args else
    if x = ("all" : Str) then exB1 gAll f args else
    if x = ("any" : Str) then exB1 gAny f args else
    if x = ("tuple" : Str) then exB1 gTupOf f args else
    if x = ("list" : Str) then exB1 gLstOf f args else
    if x = ("sorted" : Str) then exSorted cv sc f args else
    if x = ("abs" : Str) then exB1 gAbs f args else
    if x = ("max" : Str) then exB1 gMax2 f args else
    if x = ("min" : Str) then exB1 gMin2 f args else
    if x = ("int" : Str) then exB1 gInt1 f args else eFail) else eFail
theorem exBlt_ok (co : CtxOk T R cv GX j) (ok : XOk cv GX sc X) (hf : ∀ e, PE X e (tE T X.K R (f e))) {x : Str} {args : List Expr} {p pos : Pos} : PE X (.Call (.Name x p) args [] pos) (tE T X.K R (exBlt cv sc f x args)) := by
  have hc := co.calm X ok.gx
  unfold exBlt
  refine te_ite (fun hu => ?_) fun _ => te_no
  obtain ⟨gl, hm⟩ := useB_of co ok hu
  refine te_ite (fun e => by subst e; exact exLen_ok co ok hf hu) fun _ => ?_
  refine te_ite (fun e => by
    subst e
    unfold useB at hu
    rw [Bool.and_eq_true] at hu
    exact exIsi_ok co ok hf hu.2 hu.1) fun _ => ?_
  refine te_ite (fun e => by subst e; exact exStr_ok co ok hf hu) fun _ => ?_
  refine te_ite (fun e => by subst e; exact exB1_b hf (cr_all hc) all_s gl hm rfl (by decide)) fun _ => ?_
  refine te_ite (fun e => by subst e; exact exB1_b hf (cr_any hc) any_s gl hm rfl (by decide)) fun _ => ?_
  refine te_ite (fun e => by subst e; exact exB1_t hf call_tupN tupOf_s gl hm rfl (by decide)) fun _ => ?_
  refine te_ite (fun e => by subst e; exact exB1_t hf call_list_of lstOf_s gl hm rfl (by decide)) fun _ => ?_
  refine te_ite (fun e => by subst e; exact exSorted_ok co ok hf hu) fun _ => ?_
  refine te_ite (fun e => by subst e; exact exB1_b hf call_abs abs_s gl hm rfl (by decide)) fun _ => ?_
  refine te_ite (fun e => by subst e; exact exB1_b hf (call_max2 hc) max2_s gl hm rfl (by decide)) fun _ => ?_
  refine te_ite (fun e => by subst e; exact exB1_b hf (call_min2 hc) min2_s gl hm rfl (by decide)) fun _ => ?_
  refine te_ite (fun e => by subst e; exact exB1_t hf call_int1 int1_s gl hm rfl (by decide)) fun _ => te_no
end
end Mi
namespace Mi
open PySem PySem.Spec L2
open PyProof.Rows hiding St

section
variable {W : Type}
/-- a class, found while running, called -/
def eCallC (mk : Nat → Option (Cal W)) (m : Nat) (a : Ex W) (f g : As W) : Ex W := fun st => match a st with
  | some (.cls c, st1) => (match mk c with
    | some cd => eCall cd m f g st1
    | none => none)
  | _ => none
end
section
variable {W : Type} {T : Tab} {R : WR W} {X : Cx} {es : List Expr} {kws : List Keyword} {f g : As W} {ks : List Str} {pos p apos : Pos} {nm : Str} {o e : Expr} {a : Ex W} {mk : Nat → Option (Cal W)} {j : Nat}
theorem te_callC (ho : PE X o (tE T X.K R a)) (hmk : ∀ c cd, mk c = some cd → PySem.W.keepIn X.K (.ref (T.cls c)) = true ∧ CalV X (.ref (T.cls c)) cd.n ks (rCal T X.K R cd.pl cd.fn)) (ha : PA X es (tA T X.K R f)) (hkw : PK X kws (tA T X.K R g)) (hs : noStar es = true) (hks : kwNames kws = some ks)
    (ht : eval (.Call o es kws pos) X.env = (do callWith pos (← eval o X.env) [] (backTo pos (starEach es X.env)) (backToKw pos (keywordEach kws X.env)))) : PE X (.Call o es kws pos) (tE T X.K R (eCallC mk ks.length a f g)) := by
  refine ⟨fun pins s σ H Q I ⟨st, fp, hd, q, d, st', h', k⟩ => ?_⟩
  unfold eCallC at h'
  split at h'
  · rename_i c st1 h1
    split at h'
    · rename_i cd hcd
      unfold eCall at h'
      split at h'
      · rename_i ds st2 h2
        split at h'
        · rename_i es' st3 h3
          obtain ⟨hk, cal⟩ := hmk c cd hcd
          rw [ht]
          refine wpAny_bind (thn (ho.run pins s σ H (fun v H1 => v = .ref (T.cls c) ∧ tA T X.K R f σ H1 fun vs H2 => tA T X.K R g σ H2 fun zs H3 => vs.length = cd.n ∧ zs.length = ks.length ∧ rCal T X.K R cd.pl cd.fn vs zs H3 Q) I ⟨st, fp, hd, q, _, st1, h1, fun v H1 fp1 q1 l1 r1 => ?_⟩) fun ov s1 ⟨v, H1, I1, rv, ev, hh⟩ => ?_)
          · cases r1
            exact ⟨rfl, st1, fp1, hd, q1, ds, st2, h2, fun vs H2 fp2 q2 l2 r2 => ⟨st2, fp2, hd, q2, es', st3, h3, fun zs H3 fp3 q3 l3 r3 => go_cal (X := X) (n := 0) q3 (r2.up l3.up) r3 h' fun v H' fp' q4 l4 r4 => k v H' fp' q4 (((l1.trans l2).trans l3).trans l4) r4⟩⟩
          · subst ev
            obtain rfl : ov = Value.ref (T.cls c) := rv
            exact call_with (first := []) (P := fun vs zs H2 => vs.length = cd.n ∧ zs.length = ks.length ∧ rCal T X.K R cd.pl cd.fn vs zs H2 Q) hk ha hkw hs hks I1 hh
              fun us ws s2 vs zs H2 I2 rv rz ⟨n1, n2, hq⟩ => cal pins s2 σ H2 vs zs us ws Q I2 rv rz n1 n2 hq
        · cases h'
      · cases h'
    · cases h'
  · cases h'
end

section
variable {W : Type} {T : Tab} {R : WR W} {cv : Ctv W} {GX : Cx → Prop} {sc : Scope} {X : Cx} {j : Nat} {f : Expr → Ex W} {x nm : Str} {args : List Expr} {kws : List Keyword} {p pos apos : Pos} {o : Expr}
/-- f(..), by a name -/
def exCallN (cv : Ctv W) (sc : Scope) (f : Expr → Ex W) (x : Str) (args : List Expr) (kws : List Keyword) : Ex W := match kwNames kws with
  | none => eFail
  | some ks => if noStar args = true then (match slotOf cv sc x with
    | some i => eAlt (eCallC (fun c => cv.mke c ks args.length) ks.length (eVar i) (asArgs f args) (asKws f kws)) (eCallO (cv.co ks args.length) ks.length (eVar i) (asArgs f args) (asKws f kws))
    | none => if okName x = true ∧ isGl sc x = true then (match cv.fn x ks args.length with
      | some cd => eCall cd ks.length (asArgs f args) (asKws f kws)
      | none => (match kws with
        | [] => exBlt cv sc f x args
        | _ => eFail)) else eFail) else eFail
theorem exCallN_ok (co : CtxOk T R cv GX j) (ok : XOk cv GX sc X) (hf : ∀ e, PE X e (tE T X.K R (f e))) : PE X (.Call (.Name x p) args kws pos) (tE T X.K R (exCallN cv sc f x args kws)) := by
  unfold exCallN
  split
  · exact te_no
  · rename_i ks hks
    refine te_ite (fun hs => ?_) fun _ => te_no
    split
    · rename_i i hi
      refine te_alt ?_ ?_
      · exact te_callC (te_var (ok.slot hi)) (fun c cd h => co.mke X c ks args.length cd ok.gx h) (asArgs_ok hf _) (asKws_ok hf _) hs hks (call_form0 _)
      · exact te_callO (te_var (ok.slot hi)) ((co.room X ok.gx).mono (Nat.le_add_right _ _)) (co.co X ks args.length ok.gx) (asArgs_ok hf _) (asKws_ok hf _) hs hks (call_form0 _)
    · refine te_ite (fun hc => ?_) fun _ => te_no
      obtain ⟨h1, h2, h3⟩ := okName_of hc.1
      split
      · rename_i cd hcd
        obtain ⟨u, e1, e2, cal⟩ := co.fn X x ks args.length cd ok.gx hcd
        exact te_callN (ok.gl hc.2) e1 h1 e2 cal (asArgs_ok hf _) (asKws_ok hf _) hs hks
      · split
        · exact exBlt_ok co ok hf
        · exact te_no
/-- a global class -/
def clsOf (cv : Ctv W) (sc : Scope) : Expr → Option Nat
  | .Name x _ => if okName x = true ∧ isGl sc x = true then cv.cl x else none
  | _ => none
theorem clsOf_ok (co : CtxOk T R cv GX j) (ok : XOk cv GX sc X) {c : Nat} (h : clsOf cv sc o = some c) : PE X o (tC (.ref (T.cls c))) := by
  unfold clsOf at h
  split at h
  · split at h
    · rename_i hc
      exact pe_glob (ok.gl hc.2) (co.cl X _ c ok.gx h) rfl (okName_of hc.1).1
    · cases h
  · cases h
/-- built-in methods by their names -/
def exBm (cv : Ctv W) (sc : Scope) (f : Expr → Ex W) (o : Expr) (nm : Str) (args : List Expr) : Ex W :=
  match args with
  | [] => if nm = ("pop" : Str) then (match o with
    | .Name x _ => (match slotOf cv sc x with
      | some i => ePop i
      | none => eFail)
    | _ => eFail) else eFail
  | [e, d] => if nm = ("get" : Str) ∧ noStar args = true then eGet2 (f o) (f e) (f d) else eFail
  | [e] => if noStar [e] = true then
      (if nm = ("split" : Str) then eBm gSplit (f o) (asArgs f args) else
      if nm = ("join" : Str) then eBm gJoin (f o) (asArgs f args) else
      if nm = ("index" : Str) then eBm gIndex (f o) (asArgs f args) else eFail) else eFail
  | _ => eFail
theorem m2_of {e d : Expr} (hb : notSup o = true) (hs : noStar [e, d] = true) (hl : (apos.endLine == pos.line) = true) : M2 X o nm apos e d pos where
  base := base_of hb _ _ _
  few := by rw [few_args hs pos X.env]; rfl
  line := hl
  trees := by
    obtain ⟨h1, h2⟩ := noStar_cons hs
    obtain ⟨h3, h4⟩ := noStar_cons h1
    rw [h2, h4]
    rfl
theorem exBm_ok (co : CtxOk T R cv GX j) (ok : XOk cv GX sc X) (hf : ∀ e, PE X e (tE T X.K R (f e))) (hb : notSup o = true) (hl : (apos.endLine == pos.line) = true) : PE X (.Call (.Attribute o nm apos) args [] pos) (tE T X.K R (exBm cv sc f o nm args)) := by
  have hr := co.room X ok.gx
  have hu := hr.un
  unfold exBm
  split
  · refine te_ite (fun e => ?_) fun _ => te_no
    subst e
    split
    · split
      · rename_i i hi
        exact te_pop (pe_bm0 F.plainAttrs_list F.slot_list_pop F.type_list_pop mt_pop (ok.slot hi) rfl hl)
      · exact te_no
    · exact te_no
  · refine te_ite (fun ⟨e, hs⟩ => ?_) fun _ => te_no
    subst e
    exact te_get2 (by omega) (hf _) (hf _) (hf _) (m2_of hb hs hl)
  · refine te_ite (fun hs => ?_) fun _ => te_no
    refine te_ite (fun e => by subst e; exact te_bm split_b (hf _) (asArgs_ok hf _) hb hs (by simp) hl) fun _ => ?_
    refine te_ite (fun e => by subst e; exact te_bm join_b (hf _) (asArgs_ok hf _) hb hs (by simp) hl) fun _ => ?_
    exact te_ite (fun e => by subst e; exact te_index (hf _) (asArgs_ok hf _) hb hs (by simp) hl) fun _ => te_no
  · exact te_no
/-- o.m(..) -/
def exCallA (cv : Ctv W) (sc : Scope) (f : Expr → Ex W) (o : Expr) (nm : Str) (apos : Pos) (args : List Expr) (kws : List Keyword) (pos : Pos) : Ex W := match kwNames kws with
  | none => eFail
  | some ks => if (apos.endLine == pos.line) = true ∧ noStar args = true ∧ args.length + kws.length < 29 then (if notSup o = true then (match clsOf cv sc o with
    | some c => (match cv.cm c nm ks args.length with
      | some cd => eCMeth cd c ks.length (asArgs f args) (asKws f kws)
      | none => eFail)
    | none => eAlt (match kws with
      | [] => exBm cv sc f o nm args
      | _ => eFail) (eMeth (cv.mt nm ks args.length) nm ks.length (f o) (asArgs f args) (asKws f kws))) else eFail) else eFail
theorem exCallA_ok (co : CtxOk T R cv GX j) (ok : XOk cv GX sc X) (hf : ∀ e, PE X e (tE T X.K R (f e))) : PE X (.Call (.Attribute o nm apos) args kws pos) (tE T X.K R (exCallA cv sc f o nm apos args kws pos)) := by
  unfold exCallA
  split
  · exact te_no
  · rename_i ks hks
    refine te_ite (fun ⟨hl, hs, hn⟩ => ?_) fun _ => te_no
    refine te_ite (fun hb => ?_) fun _ => te_no
    split
    · rename_i c hc
      split
      · rename_i cd hcd
        obtain ⟨mc, pa, fm, r1, r2, cal⟩ := co.cm X c nm ks args.length cd ok.gx hcd
        exact te_cmeth (clsOf_ok co ok hc) r1 r2 ((co.room X ok.gx).mono (Nat.le_add_right _ _)) cal (asArgs_ok hf _) (asKws_ok hf _) hs hks (call_form _ hb hs hks hn hl)
      · exact te_no
    · refine te_alt ?_ ?_
      · split
        · exact exBm_ok co ok hf hb hl
        · exact te_no
      · exact te_meth (hf _) (co.mt X nm ks args.length ok.gx) (asArgs_ok hf _) (asKws_ok hf _) hs hks (call_form _ hb hs hks hn hl)
end
end Mi
namespace Mi
open PySem PySem.Spec L2
open PyProof.Rows hiding St

section
variable {W : Type}
def cG1 (N : List Str) (cf : Str → Bool) (sc : Scope) (x : Str) : Option Nat := if (sc.names.lookup x == some .local) = true ∨ (sc.names.lookup x == some .cell) = true ∧ cf x = true then ixOf N x else none
def cGs (N : List Str) (cf : Str → Bool) (sc : Scope) : List Expr → Option (List Nat)
  | [] => some []
  | e :: es => (match e with
    | .Name x _ => (match cG1 N cf sc x with
      | some i => (cGs N cf sc es).map (i :: ·)
      | none => none)
    | _ => none)
def cG (N : List Str) (cf : Str → Bool) (sc : Scope) : Expr → Option (Tg W × List Nat)
  | .Name x _ => (match cG1 N cf sc x with
    | some i => some (gNm i, [i])
    | none => none)
  | .Tuple es _ _ => (match cGs N cf sc es with
    | some is => some (gSeq (is.map gNm), is)
    | none => none)
  | _ => none
end
section
variable {W : Type} {T : Tab} {R : WR W} {cv : Ctv W} {GX : Cx → Prop} {sc : Scope} {X : Cx} {j : Nat} {cf : Str → Bool}
theorem cG1_ok (ok : XOk cv GX sc X) (hc : ∀ x, cf x = true → X.fn x = true) {x : Str} {p : Pos} {i : Nat} (h : cG1 cv.N cf sc x = some i) : PG X (.Name x p) (gName i) := by
  unfold cG1 at h
  split at h
  · rename_i hl
    have hi : X.N[i]? = some x := by rw [ok.N]; exact ixOf_at h
    have nd : X.N.Nodup := by rw [ok.N]; exact ok.nd
    rcases hl with hl | ⟨hl, hx⟩
    · have e : X.env.scope.names.lookup x = some .local := by rw [ok.es]; simpa using hl
      exact pg_name nd hi (.inl e) (.inr e)
    · have e : X.env.scope.names.lookup x = some .cell := by rw [ok.es]; simpa using hl
      exact pg_name nd hi (.inr e) (.inl (hc x hx))
  · cases h
theorem cGs_ok (ok : XOk cv GX sc X) (hc : ∀ x, cf x = true → X.fn x = true) : ∀ {es : List Expr} {is : List Nat}, cGs cv.N cf sc es = some is → PGs X es (tGs T X.K R is (is.map (gNm (W := W)))) ∧ (assignEach es X.env).length = (is.map (gNm (W := W))).length ∧ (assignEach es X.env).findIdx? (·.1) = none
  | [], is, h => by cases h; exact ⟨tgs_nil, rfl, rfl⟩
  | e :: es, is, h => by
    unfold cGs at h
    split at h
    · rename_i x p
      split at h
      · rename_i i hi
        cases h1 : cGs cv.N cf sc es with
        | none => rw [h1] at h; cases h
        | some js =>
          rw [h1] at h
          cases h
          obtain ⟨q1, q2, q3⟩ := cGs_ok ok hc h1
          refine ⟨tgs_cons (tg_name (cG1_ok ok hc hi)) q1 rfl, ?_, ?_⟩
          · show (assignEach es X.env).length + 1 = _
            rw [q2]
            rfl
          · show List.findIdx? (·.1) ((false, assign (.Name x p) X.env) :: assignEach es X.env) = none
            rw [List.findIdx?_cons, q3]
            rfl
      · cases h
    · cases h
theorem cG_ok (co : CtxOk T R cv GX j) (ok : XOk cv GX sc X) (hc : ∀ x, cf x = true → X.fn x = true) {e : Expr} {g : Tg W} {ix : List Nat} (h : cG cv.N cf sc e = some (g, ix)) : PG X e (tG T X.K R ix g) := by
  unfold cG at h
  split at h
  · split at h
    · rename_i i hi
      cases h
      exact tg_name (cG1_ok ok hc hi)
    · cases h
  · split at h
    · rename_i is hi
      cases h
      obtain ⟨q1, q2, q3⟩ := cGs_ok (T := T) (R := R) ok hc hi
      exact tg_seq (co.calm X ok.gx) q1 q2 q3
    · cases h
  · cases h
end

structure Cvs (W : Type) where
  E : Scope → Expr → Ex W
  C : Scope → Expr → Tx W
  I : Scope → Expr → Expr → As W
  F : Scope → Expr → Ex W
  S : Scope → Stmt → Sm W
  B : Scope → List Stmt → Sm W
structure Snd {W : Type} (T : Tab) (R : WR W) (cv : Ctv W) (GX : Cx → Prop) (r : Cvs W) : Prop where
  E : ∀ {sc X} e, XOk cv GX sc X → PE X e (tE T X.K R (r.E sc e))
  C : ∀ {sc X} e, XOk cv GX sc X → PT X e (tT T X.K R (r.C sc e))
  I : ∀ {sc X} tg e, XOk cv GX sc X → PI X tg e (tI T X.K R (r.I sc tg e))
  F : ∀ {sc X} e, XOk cv GX sc X → PE X e (tF T X.K R (r.F sc e))
  S : ∀ {sc X} e, XOk cv GX sc X → (∀ x, X.fn x = true) → PS X e (tS T X.K R (r.S sc e))
  B : ∀ {sc X} e, XOk cv GX sc X → (∀ x, X.fn x = true) → PSs X e (tS T X.K R (r.B sc e))

def relSc (scope sc : Scope) : Scope := { scope with names := scope.names.map fun (n, k) => if (k == .free && sc.kind == .function && sc.names.lookup n == some .cell) then (n, .cell) else (n, k) }
def ownOf (N : List Str) (scope : Scope) : List (Str × Nat) := scope.names.filterMap fun (n, k) => if k == .local || k == .cell then (ixOf N n).map fun i => (n, i) else none
def blkIs (N : List Str) (sc scope : Scope) : Bool := blkC N sc scope (ownOf N scope)
def notSet : Expr → Bool
  | .Set .. => false
  | _ => true
theorem unfolded {e : Expr} (h : notSet e = true) (env : Env) (x : Value) : foldedSetIterable e env x = pure x := by
  cases e <;> first | rfl | (cases h)
section
variable {W : Type} {T : Tab} {R : WR W} {cv : Ctv W} {GX : Cx → Prop} {sc scope : Scope} {X : Cx} {j : Nat}
theorem XOk.blk (co : CtxOk T R cv GX j) (ok : XOk cv GX sc X) (hk : scope.kind = .function) (s : Shared) (H : Hp) (C : Addr) (cl : List (Str × Addr)) (b : List Addr) : XOk cv GX (relSc scope sc) (X.blk s H scope (compEnvC scope cl C X.env) b) where
  gx := co.blk X s H scope _ b ok.gx
  N := ok.N
  nd := ok.nd
  es := by
    show relabel scope X.env = _
    rw [← ok.es]
    rfl
  kind := hk
  hn := fun _ _ h => h
/-- a clause's tests -/
def cIfs (f : Expr → Tx W) : List Expr → Option (Tx W)
  | [] => some xTrue
  | [c] => some (f c)
  | _ => none
theorem ptsImp {ifs : List Expr} {t u : TT} (h : PTs X ifs t) (i : ∀ σ H Q, u σ H Q → t σ H Q) : PTs X ifs u := ⟨fun pins s σ H Q I q => h.run pins s σ H Q I (i σ H Q q)⟩
theorem cIfs_ok {f : Expr → Tx W} {ifs : List Expr} {t : Tx W} (hf : ∀ e, PT X e (tT T X.K R (f e))) (h : cIfs f ifs = some t) : PTs X ifs (tT T X.K R t) := by
  unfold cIfs at h
  split at h
  · cases h
    exact ptsImp pts_nil fun σ H Q ⟨st, fp, hd, q, b, st', h', k⟩ => by
      cases h'
      exact k H fp q (Le.refl _)
  · cases h
    exact pts_one (hf _)
  · cases h
/-- new things -/
def eBlk (c : Bool) (f : Ex W) : Ex W := if c = true then f else eFail
def cellIn (scope : Scope) (x : Str) : Bool := scope.names.lookup x == some .cell
def allIn (ix : List Nat) (own : List (Str × Nat)) : Bool := ix.all fun i => (own.map (·.2)).contains i
theorem allIn_of {ix : List Nat} {own : List (Str × Nat)} (h : allIn ix own = true) : ∀ i ∈ ix, i ∈ own.map (·.2) := fun i hi => by
  have := List.all_eq_true.mp h i hi
  simpa using this
/-- [e for t in i if c] -/
def cLc1 (cv : Ctv W) (r : Cvs W) (sc : Scope) (elt : Expr) (c : Comprehension) (scope : Scope) : Ex W :=
  match cG cv.N (cellIn scope) (relSc scope sc) c.target, cIfs (r.C (relSc scope sc)) c.ifs with
  | some (g, ix), some t => if blkIs cv.N sc scope = true ∧ allIn ix (ownOf cv.N scope) = true ∧ notSet c.iter = true then eLc (r.I sc c.target c.iter) g t (r.E (relSc scope sc) elt) ((ownOf cv.N scope).map (·.2)) else eFail
  | _, _ => eFail
def cLc2 (cv : Ctv W) (r : Cvs W) (sc : Scope) (elt : Expr) (c d : Comprehension) (scope : Scope) : Ex W :=
  match cG cv.N (cellIn scope) (relSc scope sc) c.target, cIfs (r.C (relSc scope sc)) c.ifs, cG cv.N (cellIn scope) (relSc scope sc) d.target, cIfs (r.C (relSc scope sc)) d.ifs with
  | some (g, ix), some t, some (g1, ix1), some t1 => if blkIs cv.N sc scope = true ∧ allIn ix (ownOf cv.N scope) = true ∧ allIn ix1 (ownOf cv.N scope) = true ∧ notSet c.iter = true ∧ notSet d.iter = true then
      eLc2 (r.I sc c.target c.iter) g t (r.I (relSc scope sc) d.target d.iter) g1 t1 (r.E (relSc scope sc) elt) ((ownOf cv.N scope).map (·.2)) ix1 else eFail
  | _, _, _, _ => eFail
def cDc1 (cv : Ctv W) (r : Cvs W) (sc : Scope) (kx vx : Expr) (c : Comprehension) (scope : Scope) : Ex W :=
  match cG cv.N (cellIn scope) (relSc scope sc) c.target, cIfs (r.C (relSc scope sc)) c.ifs with
  | some (g, ix), some t => if blkIs cv.N sc scope = true ∧ allIn ix (ownOf cv.N scope) = true ∧ notSet c.iter = true then eDc (r.I sc c.target c.iter) g t (r.E (relSc scope sc) kx) (r.E (relSc scope sc) vx) ((ownOf cv.N scope).map (·.2)) else eFail
  | _, _ => eFail
theorem tf_no {e : Expr} : PE X e (tF T X.K R (eFail (W := W))) := ⟨fun pins s σ H Q I ⟨st, fp, hd, _, d, st', h', _⟩ => by cases h'⟩
theorem tf_ite {e : Expr} {c : Prop} [Decidable c] {f g : Ex W} (h1 : c → PE X e (tF T X.K R f)) (h2 : ¬ c → PE X e (tF T X.K R g)) : PE X e (tF T X.K R (if c then f else g)) := by
  by_cases h : c
  · rw [if_pos h]; exact h1 h
  · rw [if_neg h]; exact h2 h
variable {r : Cvs W}
theorem nodupN (ok : XOk cv GX sc X) : X.N.Nodup := by rw [ok.N]; exact ok.nd
theorem blkOk (ok : XOk cv GX sc X) (h : blkIs cv.N sc scope = true) : BlkOk X.N X.env.scope scope (ownOf cv.N scope) := by
  rw [ok.N, ok.es]
  exact blkOk_by h
theorem cLc1_ok (co : CtxOk T R cv GX j) (sd : Snd T R cv GX r) (ok : XOk cv GX sc X) {elt : Expr} {c : Comprehension} {pos : Pos} (ha : c.is_async = 0) : PE X (.ListComp elt [c] scope pos) (tF T X.K R (cLc1 cv r sc elt c scope)) := by
  obtain ⟨tg, iter, ifs, as⟩ := c
  subst ha
  unfold cLc1
  split
  · rename_i g ix t hg ht
    refine tf_ite (fun ⟨hb, hx, hs⟩ => ?_) fun _ => tf_no
    have bk := blkOk ok hb
    have okb := fun s H C cl b => ok.blk (T := T) (R := R) co bk.kind s H C cl b
    exact tf_lc (co.calm X ok.gx) (nodupN ok) (sd.I tg iter ok) bk (allIn_of hx) (fun s H C cl b => cG_ok co (okb s H C cl b) (fun x hx => hx) hg)
      (fun s H C cl b => cIfs_ok (fun e => sd.C e (okb s H C cl b)) ht) (fun s H C cl b => sd.E elt (okb s H C cl b)) fun x => unfolded hs _ x
  · exact tf_no
theorem cLc2_ok (co : CtxOk T R cv GX j) (sd : Snd T R cv GX r) (ok : XOk cv GX sc X) {elt : Expr} {c d : Comprehension} {pos : Pos} (ha : c.is_async = 0) (ha2 : d.is_async = 0) : PE X (.ListComp elt [c, d] scope pos) (tF T X.K R (cLc2 cv r sc elt c d scope)) := by
  obtain ⟨tg, iter, ifs, as⟩ := c
  obtain ⟨tg1, iter1, ifs1, as1⟩ := d
  subst ha
  subst ha2
  unfold cLc2
  split
  · rename_i g ix t g1 ix1 t1 hg ht hg1 ht1
    refine tf_ite (fun ⟨hb, hx, hx1, hs, hs1⟩ => ?_) fun _ => tf_no
    have bk := blkOk ok hb
    have okb := fun s H C cl b => ok.blk (T := T) (R := R) co bk.kind s H C cl b
    exact tf_lc2 (co.calm X ok.gx) (nodupN ok) (sd.I tg iter ok) bk (allIn_of hx) (fun i hi => hi) (allIn_of hx1) (fun s H C cl b => cG_ok co (okb s H C cl b) (fun x hx => hx) hg)
      (fun s H C cl b => cIfs_ok (fun e => sd.C e (okb s H C cl b)) ht) (fun s H C cl b => sd.I tg1 iter1 (okb s H C cl b)) (fun s H C cl b => cG_ok co (okb s H C cl b) (fun x hx => hx) hg1)
      (fun s H C cl b => cIfs_ok (fun e => sd.C e (okb s H C cl b)) ht1) (fun s H C cl b => sd.E elt (okb s H C cl b)) (fun x => unfolded hs _ x) fun env x => unfolded hs1 env x
  · exact tf_no
theorem cDc1_ok (co : CtxOk T R cv GX j) (sd : Snd T R cv GX r) (ok : XOk cv GX sc X) {kx vx : Expr} {c : Comprehension} {pos : Pos} (ha : c.is_async = 0) : PE X (.DictComp kx vx [c] scope pos) (tF T X.K R (cDc1 cv r sc kx vx c scope)) := by
  obtain ⟨tg, iter, ifs, as⟩ := c
  subst ha
  unfold cDc1
  split
  · rename_i g ix t hg ht
    refine tf_ite (fun ⟨hb, hx, hs⟩ => ?_) fun _ => tf_no
    have bk := blkOk ok hb
    have okb := fun s H C cl b => ok.blk (T := T) (R := R) co bk.kind s H C cl b
    exact tf_dc (co.calm X ok.gx) (nodupN ok) (sd.I tg iter ok) bk (allIn_of hx) (fun s H C cl b => cG_ok co (okb s H C cl b) (fun x hx => hx) hg)
      (fun s H C cl b => cIfs_ok (fun e => sd.C e (okb s H C cl b)) ht) (fun s H C cl b => sd.E kx (okb s H C cl b)) (fun s H C cl b => sd.E vx (okb s H C cl b)) fun x => unfolded hs _ x
  · exact tf_no
/-- a dict's parts -/
def cDisp (f : Expr → Ex W) : List (Option Expr) → List Expr → Option (List (Ex W × Ex W))
  | [], [] => some []
  | some k :: ks, v :: vs => (cDisp f ks vs).map ((f k, f v) :: ·)
  | _, _ => none
theorem cDisp_ok {f : Expr → Ex W} (hf : ∀ e, PE X e (tE T X.K R (f e))) : ∀ {ks : List (Option Expr)} {vs : List Expr} {fs : List (Ex W × Ex W)}, cDisp f ks vs = some fs → PsOk T R X ks vs fs
  | [], [], fs, h => by cases h; exact .nil
  | some k :: ks, v :: vs, fs, h => by
    unfold cDisp at h
    cases h1 : cDisp f ks vs with
    | none => rw [h1] at h; cases h
    | some gs =>
      rw [h1] at h
      cases h
      exact .cons (hf _) (hf _) (cDisp_ok hf h1)
  | [], _ :: _, _, h => by cases h
  | none :: _, _, _, h => by cases h
  | some _ :: _, [], _, h => by cases h
def cF (cv : Ctv W) (r : Cvs W) (sc : Scope) : Expr → Ex W
  | .ListComp elt [c] scope _ => if c.is_async = 0 then cLc1 cv r sc elt c scope else eFail
  | .ListComp elt [c, d] scope _ => if c.is_async = 0 ∧ d.is_async = 0 then cLc2 cv r sc elt c d scope else eFail
  | .DictComp kx vx [c] scope _ => if c.is_async = 0 then cDc1 cv r sc kx vx c scope else eFail
  | .List es _ => ePure gLstD (asArgs (r.E sc) es)
  | .BinOp a .Add b _ => eBin gAddL (r.E sc a) (r.E sc b)
  | .Dict ks vs _ => (match ks, vs with
    | [], [] => eDict0
    | ks, vs => (match cDisp (r.E sc) ks vs with
      | some fs => if ks ≠ [] ∧ ks.length ≤ 15 then eDisp fs else eFail
      | none => eFail))
  | _ => eFail
theorem cF_ok (co : CtxOk T R cv GX j) (sd : Snd T R cv GX r) (ok : XOk cv GX sc X) (e : Expr) : PE X e (tF T X.K R (cF cv r sc e)) := by
  unfold cF
  split
  · exact tf_ite (fun h => cLc1_ok co sd ok h) fun _ => tf_no
  · exact tf_ite (fun h => cLc2_ok co sd ok h.1 h.2) fun _ => tf_no
  · exact tf_ite (fun h => cDc1_ok co sd ok h) fun _ => tf_no
  · exact tf_lst (asArgs_ok (fun e => sd.E e ok) _)
  · exact tf_bin (sd.E _ ok) (sd.E _ ok) addL_n fun ta tb h1 h2 => pe_op op_cat h1 h2
  · split
    · exact tf_dict0
    · split
      · rename_i fs hfs
        exact tf_ite (fun h => tf_disp (cDisp_ok (fun e => sd.E e ok) hfs) h.1 h.2) fun _ => tf_no
      · exact tf_no
  · exact tf_no
end
end Mi
namespace Mi
open PySem PySem.Spec L2
open PyProof.Rows hiding St

def gNeg : D → Option D
  | .int i => some (.int (-i))
  | _ => none
theorem neg_s {T : Tab} {K : PySem.W.Frag} : UnS T K (rU fun i => .int (-i)) gNeg := fun x H G d1 d Q le r e k => by
  unfold gNeg at e
  split at e
  · cases e; cases r; exact ⟨_, rfl, k.scal fun _ => .int _⟩
  · cases e
/-- a subscript that is no slice -/
def notSl : Expr → Bool
  | .Slice .. => false
  | _ => true
theorem plainIx {b : Expr} (h : notSl b = true) : PlainIx b := fun o i => by
  cases b <;> first | rfl | (cases h)
section
variable {W : Type} {T : Tab} {R : WR W} {cv : Ctv W} {GX : Cx → Prop} {sc : Scope} {X : Cx} {j : Nat} {r : Cvs W} {pos : Pos}
/-- and, or as values -/
def exBool (f : Expr → Ex W) (op : BoolOp) : List Expr → Ex W
  | [] => eFail
  | [e] => f e
  | e :: es => (match op with
    | .And => andV (f e) (exBool f op es)
    | .Or => orV (f e) (exBool f op es))
theorem exBool_ok {f : Expr → Ex W} (hf : ∀ e, PE X e (tE T X.K R (f e))) {op : BoolOp} : ∀ es : List Expr, PE X (.BoolOp op es pos) (tE T X.K R (exBool f op es))
  | [] => te_no
  | [e] => te_one (hf e)
  | e :: e2 :: es => by
    have ih := exBool_ok hf (op := op) (e2 :: es)
    unfold exBool
    cases op with
    | And => exact te_andV (hf e) ih
    | Or => exact te_orV (hf e) ih
/-- and, or as tests -/
def exBoolT (f : Expr → Tx W) (op : BoolOp) : List Expr → Tx W
  | [] => fun _ => none
  | [e] => f e
  | e :: es => (match op with
    | .And => xAnd (f e) (exBoolT f op es)
    | .Or => xOr (f e) (exBoolT f op es))
theorem pw_no {e : Expr} {f : Tx W} (h : ∀ st, f st = none) : PW X e (tT T X.K R f) := ⟨fun wh pins s σ H Q I ⟨st, fp, hd, _, d, st', h', _⟩ => by rw [h st] at h'; cases h'⟩
theorem exBoolT_ok {f : Expr → Tx W} (hf : ∀ e, PT X e (tT T X.K R (f e))) {op : BoolOp} : ∀ es : List Expr, PW X (.BoolOp op es pos) (tT T X.K R (exBoolT f op es))
  | [] => pw_no fun _ => rfl
  | [e] => by
    cases op with
    | And => exact tw_and1 (hf e)
    | Or => exact tw_or1 (hf e)
  | e :: e2 :: es => by
    have ih := exBoolT_ok hf (op := op) (e2 :: es)
    unfold exBoolT
    cases op with
    | And => exact tw_and (hf e) ih
    | Or => exact tw_or (hf e) ih
def jsAll (f : Expr → Ex W) : List Expr → List (Ex W) := List.map f
theorem js_ok {f : Expr → Ex W} (hf : ∀ e, PE X e (tE T X.K R (f e))) : ∀ es : List Expr, JsOk T R X es (es.map f)
  | [] => .nil
  | e :: es => .cons (hf e) (js_ok hf es)
def cO (f : Expr → Ex W) : Option Expr → Op W
  | none => oNo
  | some e => oYes (f e)
theorem cO_ok {f : Expr → Ex W} (hf : ∀ e, PE X e (tE T X.K R (f e))) (o : Option Expr) : PO X o (tO T X.K R (cO f o)) := by
  cases o with
  | none => exact to_no
  | some e => exact to_yes (hf e)
def exChain (f : Expr → Ex W) (op op' : CmpOp) (a b c : Expr) : Ex W := match ordI op, ordI op' with
  | some h, some h' => if lastMarks [op, op'] [b, c] = false then eChain (ltD h) (ltD h') (f a) (f b) (f c) else eFail
  | _, _ => eFail
/-- THE EXPRESSIONS -/
def cE (cv : Ctv W) (r : Cvs W) (sc : Scope) : Expr → Ex W
  | .Constant c _ _ => exConst c
  | .Name x _ => exName cv sc x
  | .BinOp a op b _ => exBin op (r.E sc a) (r.E sc b)
  | .UnaryOp .Not a _ => eUn notV (r.E sc a)
  | .UnaryOp .USub a _ => eUn gNeg (r.E sc a)
  | .BoolOp op es _ => exBool (r.E sc) op es
  | .Compare a [op] [b] _ => if behindInMarks op b = false then exCmp cv op (r.E sc a) (r.E sc b) else eFail
  | .Compare a [op, op'] [b, c] _ => exChain (r.E sc) op op' a b c
  | .IfExp c a b _ => eIf (r.C sc c) (r.E sc a) (r.E sc b)
  | .Call (.Name x _) args kws _ => exCallN cv sc (r.E sc) x args kws
  | .Call (.Attribute o nm apos) args kws pos => exCallA cv sc (r.E sc) o nm apos args kws pos
  | .Attribute o nm _ => if notSup o = true then (match o with
    | .Name x _ => (match slotOf cv sc x with
      | some i => eAlt (ePeekF i (cv.fc nm) nm) (eAttr (cv.fc nm) (cv.pt nm) nm (r.E sc o))
      | none => eAttr (cv.fc nm) (cv.pt nm) nm (r.E sc o))
    | o => eAttr (cv.fc nm) (cv.pt nm) nm (r.E sc o)) else eFail
  | .Subscript a (.Slice lo hi none _) _ => eSl (r.E sc a) (cO (r.E sc) lo) (cO (r.E sc) hi)
  | .Subscript a b _ => if notSl b = true then eBin gIxA (r.E sc a) (r.E sc b) else eFail
  | .Tuple es _ _ => ePure gTupD (asArgs (r.E sc) es)
  | .List es _ => ePure gLstD (asArgs (r.E sc) es)
  | .JoinedStr es _ => (match es with
    | [] => eFail
    | [e] => r.E sc e
    | e :: e2 :: es => eJs ((e :: e2 :: es).map (r.E sc)))
  | .FormattedValue a cnv none _ => if cnv = -1 then eUn gFmt (r.E sc a) else eFail
  | .ListComp a b c d => cF cv r sc (.ListComp a b c d)
  | .DictComp a b c d e => cF cv r sc (.DictComp a b c d e)
  | .Dict a b c => cF cv r sc (.Dict a b c)
  | _ => eFail
theorem cE_ok (co : CtxOk T R cv GX j) (sd : Snd T R cv GX r) (ok : XOk cv GX sc X) (e : Expr) : PE X e (tE T X.K R (cE cv r sc e)) := by
  have hf : ∀ e, PE X e (tE T X.K R (r.E sc e)) := fun e => sd.E e ok
  have hu := (co.room X ok.gx).un
  unfold cE
  split
  · exact exConst_ok
  · exact exName_ok co ok
  · exact exBin_ok (hf _) (hf _)
  · exact te_notV (hf _)
  · exact te_un (ta := fun _ _ _ => True) (hf _) neg_s fun t h => pe_un un_neg h
  · exact exBool_ok hf _
  · exact te_ite (fun h => (exCmp_ok co ok).pe (hf _) (hf _) h) fun _ => te_no
  · unfold exChain
    split
    · rename_i h h' e1 e2
      obtain ⟨r1, o1, s1⟩ := ordI_ok (T := T) (X := X) e1
      obtain ⟨r2, o2, s2⟩ := ordI_ok (T := T) (X := X) e2
      exact te_ite (fun hm => te_chain o1 o2 s1 s2 (hf _) (hf _) (hf _) hm) fun _ => te_no
    · exact te_no
  · exact te_if (sd.C _ ok) (hf _) (hf _)
  · exact exCallN_ok co ok hf
  · exact exCallA_ok co ok hf
  · refine te_ite (fun h => ?_) fun _ => te_no
    split
    · split
      · rename_i i hi
        exact te_alt (te_peekF (ok.slot hi) (co.at_ X _ ok.gx).fld (base_of h _ _ _)) (te_attr (hf _) (co.at_ X _ ok.gx) (base_of h _ _ _))
      · exact te_attr (hf _) (co.at_ X _ ok.gx) (base_of h _ _ _)
    · exact te_attr (hf _) (co.at_ X _ ok.gx) (base_of h _ _ _)
  · exact te_sl (hf _) (cO_ok hf _) (cO_ok hf _)
  · exact te_ite (fun h => te_ixA (by omega) (hf _) (hf _) (plainIx h)) fun _ => te_no
  · exact te_tup (asArgs_ok hf _)
  · exact te_lst (asArgs_ok hf _)
  · split
    · exact te_no
    · exact te_js1 (hf _)
    · exact te_js (js_ok hf _)
  · exact te_ite (fun h => by subst h; exact te_fmt (hf _)) fun _ => te_no
  · exact te_of (cF_ok co sd ok _)
  · exact te_of (cF_ok co sd ok _)
  · exact te_of (cF_ok co sd ok _)
  · exact te_no
def plainT : Expr → Bool
  | .UnaryOp .. => false
  | .BoolOp .. => false
  | .IfExp .. => false
  | .Compare .. => false
  | _ => true
theorem plainT_of {e : Expr} (h : plainT e = true) (env : Env) (whole : Sem Value) : isTrue e env whole = (do let v ← whole; standAt e.pos; holding [v] (truthy v)) := by
  cases e <;> first | rfl | (cases h)
def cC (cv : Ctv W) (r : Cvs W) (sc : Scope) : Expr → Tx W
  | .UnaryOp .Not a _ => xNot (r.C sc a)
  | .BoolOp op es _ => exBoolT (r.C sc) op es
  | .Compare a [op] [b] _ => if behindInMarks op b = false then xBl (exCmp cv op (r.E sc a) (r.E sc b)) else fun _ => none
  | .Compare a [op, op'] [b, c] _ => (match ordI op, ordI op' with
    | some h, some h' => if lastMarks [op, op'] [b, c] = false then xBl (eChain (ltD h) (ltD h') (r.E sc a) (r.E sc b) (r.E sc c)) else fun _ => none
    | _, _ => fun _ => none)
  | e => if plainT e = true then xOf (r.E sc e) else fun _ => none
theorem tt_no {e : Expr} : PT X e (tT T X.K R (fun _ => none : Tx W)) := tt_fail fun _ => rfl
theorem tt_ite {e : Expr} {c : Prop} [Decidable c] {f g : Tx W} (h1 : c → PT X e (tT T X.K R f)) (h2 : ¬ c → PT X e (tT T X.K R g)) : PT X e (tT T X.K R (if c then f else g)) := by
  by_cases h : c
  · rw [if_pos h]; exact h1 h
  · rw [if_neg h]; exact h2 h
theorem cC_ok (co : CtxOk T R cv GX j) (sd : Snd T R cv GX r) (ok : XOk cv GX sc X) (e : Expr) : PT X e (tT T X.K R (cC cv r sc e)) := by
  have hf : ∀ e, PE X e (tE T X.K R (r.E sc e)) := fun e => sd.E e ok
  unfold cC
  split
  · exact tt_not (sd.C _ ok)
  · exact (exBoolT_ok (fun e => sd.C e ok) _).pt
  · exact tt_ite (fun h => (exCmp_ok co ok).pt (hf _) (hf _) h) fun _ => tt_no
  · split
    · rename_i h h' e1 e2
      obtain ⟨r1, o1, s1⟩ := ordI_ok (T := T) (X := X) e1
      obtain ⟨r2, o2, s2⟩ := ordI_ok (T := T) (X := X) e2
      exact tt_ite (fun hm => tt_chain o1 o2 s1 s2 (hf _) (hf _) (hf _) hm) fun _ => tt_no
    · exact tt_no
  · exact tt_ite (fun h => tt_val (hf _) (plainT_of h _)) fun _ => tt_no
def isTup : Expr → Bool
  | .Tuple .. => true
  | _ => false
def iFail : As W := fun _ => none
def cIN (cv : Ctv W) (r : Cvs W) (sc : Scope) (tg : Expr) (x : Str) (args : List Expr) : Option (As W) :=
  if useB cv sc x = true then
    (if x = ("range" : Str) then (match args with
      | [a] => if noStar [a] = true then some (iArgs gRng1 (asArgs (r.E sc) [a])) else none
      | [a, b] => if noStar [a, b] = true then some (iArgs gRng2 (asArgs (r.E sc) [a, b])) else none
      | _ => none) else
    if x = ("enumerate" : Str) ∧ isTup tg = true then (match args with
      | [] => none
      | e :: es => if noStar (e :: es) = true then some (iArgs gEn (asArgs (r.E sc) (e :: es))) else none) else
    if x = ("zip" : Str) ∧ isTup tg = true then (match args with
      | [a, b] => if noStar [a, b] = true then some (iArgs gZip (asArgs (r.E sc) [a, b])) else none
      | _ => none) else none) else none
def cIA (cv : Ctv W) (r : Cvs W) (sc : Scope) (tg o : Expr) (nm : Str) (apos pos : Pos) : Option (As W) :=
  if notSup o = true ∧ (apos.endLine == pos.line) = true then
    (if nm = ("items" : Str) ∧ isTup tg = true then some (iOf itemsOf (r.E sc o)) else
    if nm = ("values" : Str) then some (iOf valsOf (r.E sc o)) else none) else none
def cIx (cv : Ctv W) (r : Cvs W) (sc : Scope) (tg : Expr) : Expr → Option (As W)
  | .Call (.Name x _) args [] _ => cIN cv r sc tg x args
  | .Call (.Attribute o nm apos) [] [] pos => cIA cv r sc tg o nm apos pos
  | _ => none
def cI (cv : Ctv W) (r : Cvs W) (sc : Scope) (tg e : Expr) : As W := match cIx cv r sc tg e with
  | some f => f
  | none => iOf walkA (r.E sc e)
theorem isTup_of {tg : Expr} (h : isTup tg = true) : ∃ es k p, tg = .Tuple es k p := by
  cases tg <;> first | exact ⟨_, _, _, rfl⟩ | (cases h)
theorem star1 {a : Expr} (h : noStar [a] = true) (env : Env) : starEach [a] env = [(false, eval a env)] := (noStar_cons h).2 env
theorem star2 {a b : Expr} (h : noStar [a, b] = true) (env : Env) : starEach [a, b] env = [(false, eval a env), (false, eval b env)] := by
  obtain ⟨h1, h2⟩ := noStar_cons h
  rw [h2, star1 h1]
theorem cIx_ok (co : CtxOk T R cv GX j) (sd : Snd T R cv GX r) (ok : XOk cv GX sc X) {tg e : Expr} {f : As W} (h : cIx cv r sc tg e = some f) : PI X tg e (tI T X.K R f) := by
  have hf : ∀ e, PE X e (tE T X.K R (r.E sc e)) := fun e => sd.E e ok
  unfold cIx at h
  split at h
  · unfold cIN at h
    split at h
    · rename_i hu
      obtain ⟨gl, hm⟩ := useB_of co ok hu
      split at h
      · rename_i ex
        subst ex
        split at h
        · split at h
          · rename_i hs
            cases h
            exact ti_rng1 gl hm (asArgs_ok hf _) (star1 hs _)
          · cases h
        · split at h
          · rename_i hs
            cases h
            exact ti_rng2 gl hm (asArgs_ok hf _) (star2 hs _) (star1 (noStar_cons hs).1 _)
          · cases h
        · cases h
      · split at h
        · rename_i ex
          obtain ⟨ex, ht⟩ := ex
          subst ex
          obtain ⟨_, _, _, rfl⟩ := isTup_of ht
          split at h
          · cases h
          · split at h
            · rename_i hs
              cases h
              exact ti_en gl hm (asArgs_ok hf _) hs
            · cases h
        · split at h
          · rename_i ex
            obtain ⟨ex, ht⟩ := ex
            subst ex
            obtain ⟨_, _, _, rfl⟩ := isTup_of ht
            split at h
            · split at h
              · rename_i hs
                cases h
                exact ti_zip gl hm (asArgs_ok hf _) ((noStar_cons hs).2 _) (noStar_any (noStar_cons hs).1 _ _)
              · cases h
            · cases h
          · cases h
    · cases h
  · unfold cIA at h
    split at h
    · rename_i hc
      split at h
      · rename_i ex
        obtain ⟨ex, ht⟩ := ex
        subst ex
        obtain ⟨_, _, _, rfl⟩ := isTup_of ht
        cases h
        exact ti_items (hf _) hc.1 hc.2
      · split at h
        · rename_i ex
          subst ex
          cases h
          exact ti_values (hf _) hc.1 hc.2
        · cases h
    · cases h
  · cases h
theorem cI_ok (co : CtxOk T R cv GX j) (sd : Snd T R cv GX r) (ok : XOk cv GX sc X) (tg e : Expr) : PI X tg e (tI T X.K R (cI cv r sc tg e)) := by
  unfold cI
  split
  · rename_i f h
    exact cIx_ok co sd ok h
  · exact ti_walkA (sd.E e ok)
end
end Mi
namespace Mi
open PySem PySem.Spec L2
open PyProof.Rows hiding St

section
variable {X : Cx} {y : Str} {py pos spos : Pos} {kx vx tg iter : Expr} {ifs : List Expr} {scope : Scope} {own : List (Str × Nat)} {i : Nat}
theorem ps_setDc {wi : TI} {g : TG} {tt : TT} {tk tv : TE} (hc : X.calm = true) (hN : X.N.Nodup) (hy : X.N[i]? = some y) (hyl : X.env.scope.names.lookup y = some .local)
    (hsw : swapsWith (.DictComp kx vx [⟨tg, iter, ifs, 0⟩] scope pos) (some (.Name y py)) spos.line X.env = pure true) (hi : PI X tg iter wi) (ok : BlkOk X.N X.env.scope scope own)
    (hg : ∀ (s : Shared) (H : Hp) (C : Addr) (cl : List (Str × Addr)) (b : List Addr), PG (X.blk s H scope (compEnvC scope cl C X.env) b) tg g)
    (ht : ∀ (s : Shared) (H : Hp) (C : Addr) (cl : List (Str × Addr)) (b : List Addr), PTs (X.blk s H scope (compEnvC scope cl C X.env) b) ifs tt)
    (hk : ∀ (s : Shared) (H : Hp) (C : Addr) (cl : List (Str × Addr)) (b : List Addr), PE (X.blk s H scope (compEnvC scope cl C X.env) b) kx tk)
    (he : ∀ (s : Shared) (H : Hp) (C : Addr) (cl : List (Str × Addr)) (b : List Addr), PE (X.blk s H scope (compEnvC scope cl C X.env) b) vx tv) (hs : ∀ x, foldedSetIterable iter X.env x = pure x) :
    PS X (.Assign [.Name y py] (.DictComp kx vx [⟨tg, iter, ifs, 0⟩] scope pos) spos) (tAsg (tDc wi g tt tk tv (own.map (·.2))) (gName i)) := by
  refine ⟨fun pins s σ H D I h0 => ?_⟩
  rw [exec_Assign_Name_used _ _ _ _ hsw]
  refine wpAny_bind (wpAny_standAt (wpAny_bind ?_))
  show wpAny _ X.A (do let _ ← comprehension (.DictComp kx vx [⟨tg, iter, ifs, 0⟩] scope pos) scope X.env (firstIterPos [⟨tg, iter, ifs, 0⟩] pos) newDict false (eval iter X.env) (some (assign (.Name y py) X.env))) _ _ s
  have h : tDc wi g tt tk tv (own.map (·.2)) σ H (fun x H1 => gName i x σ H1 D.nx) := h0
  refine wpAny_bind (thn (dc_core (Qf := fun _ t => SP X pins D .next t) hc hN I hi ok hg ht hk he hs h fun L C t m H1 I1 q hn f => ?_) fun _ _ z => wpAny_pure (wpAny_pure z))
  show wpAny _ _ (assign (.Name y py) X.env (.ref L)) _ _ _
  refine wpAny_assign_Name (store_ok2 (v := V.ref L) I1 hN hy (.inl hyl) rfl (fun s2 I2 ⟨a, sb, ha⟩ => ?_) (.inr hyl))
  have hne : C ≠ a := by
    rcases ha with z | z
    · exact z ▸ f.2.1
    · exact fun e => f.2.2.2.2.1 y a z e.symm
  exact ⟨m, hn.sameBut sb hne, fun h3 sb3 => ⟨_, H1, I2.turned (t' := s2.toks) (fun b o hb e => (sb3.2 b hb).trans e) f.1 f.2.1 f.2.2.2.1 f.2.2.2.2.1 f.2.2.2.2.2, q⟩⟩
end
theorem swaps_yesD {kx vx : Expr} {gens : List Comprehension} {scope : Scope} {p py : Pos} {y : Str} {n : Nat} {env : Env} (h1 : env.scope.kind = .function) (h2 : env.scope.names.lookup y = some .local) (h3 : (py.line == p.line) = true) (h4 : (scope.names.any fun (n, k) => n == y && (k == .local || k == .cell)) = false) :
    swapsWith (.DictComp kx vx gens scope p) (some (.Name y py)) n env = pure true := by
  have hb : env.blockKind = .function := by unfold Env.blockKind; rw [h1]; rfl
  have hk : env.kindOf y = some .local := h2
  unfold swapsWith
  show (pure (env.blockKind == .function && env.kindOf y == some .local && py.line == p.line && !(scope.names.any fun (n, k) => n == y && (k == .local || k == .cell))) : Sem Bool) = pure true
  rw [hb, hk, h3, h4]
  rfl

theorem swaps_cell {e : Expr} {py : Pos} {y : Str} {n : Nat} {env : Env} (h2 : env.scope.names.lookup y = some .cell) : swapsWith e (some (.Name y py)) n env = pure false := by
  have hk : env.kindOf y = some .cell := h2
  cases e <;> first
    | rfl
    | (unfold swapsWith
       show (pure (env.blockKind == .function && env.kindOf y == some .local && _ && !_) : Sem Bool) = pure false
       rw [hk]
       rw [show ((some NameKind.cell : Option NameKind) == some NameKind.local) = false from rfl, Bool.and_false, Bool.false_and, Bool.false_and])
def isCellN (sc : Scope) (x : Str) : Bool := sc.names.lookup x == some .cell
section
variable {W : Type} {T : Tab} {R : WR W} {cv : Ctv W} {GX : Cx → Prop} {sc scope : Scope} {X : Cx} {j : Nat} {r : Cvs W} {pos : Pos}
def sAlt (f g : Sm W) : Sm W := fun st => match f st with
  | some z => some z
  | none => g st
theorem ts_no {s : Stmt} : PS X s (tS T X.K R (sFail (W := W))) := ts_fail fun _ => rfl
theorem ts_ite {s : Stmt} {c : Prop} [Decidable c] {f g : Sm W} (h1 : c → PS X s (tS T X.K R f)) (h2 : ¬ c → PS X s (tS T X.K R g)) : PS X s (tS T X.K R (if c then f else g)) := by
  by_cases h : c
  · rw [if_pos h]; exact h1 h
  · rw [if_neg h]; exact h2 h
theorem ts_alt {s : Stmt} {f g : Sm W} (h : PS X s (tS T X.K R f)) (h' : PS X s (tS T X.K R g)) : PS X s (tS T X.K R (sAlt f g)) := ⟨fun pins s σ H D I ⟨st, fp, hd, q, d, st', e1, k⟩ => by
  unfold sAlt at e1
  split at e1
  · rename_i z hz
    cases e1
    exact h.run pins s σ H D I ⟨st, fp, hd, q, d, st', hz, k⟩
  · exact h'.run pins s σ H D I ⟨st, fp, hd, q, d, st', e1, k⟩⟩
def okSet (sc scope : Scope) (y : Str) (py p : Pos) : Bool := sc.names.lookup y == some .local && py.line == p.line && !(scope.names.any fun (n, k) => n == y && (k == .local || k == .cell))
theorem okSet_of (ok : XOk cv GX sc X) {y : Str} {py p : Pos} (h : okSet sc scope y py p = true) : X.env.scope.names.lookup y = some .local ∧ (py.line == p.line) = true ∧ (scope.names.any fun (n, k) => n == y && (k == .local || k == .cell)) = false := by
  unfold okSet at h
  simp only [Bool.and_eq_true, Bool.not_eq_true'] at h
  refine ⟨?_, h.1.2, h.2⟩
  rw [ok.es]
  simpa using h.1.1
theorem set1 (co : CtxOk T R cv GX j) (sd : Snd T R cv GX r) (ok : XOk cv GX sc X) {y : Str} {py p : Pos} {i : Nat} {elt : Expr} {c : Comprehension} (ha : c.is_async = 0) (hi : ixOf cv.N y = some i) (ho : okSet sc scope y py p = true) :
    PS X (.Assign [.Name y py] (.ListComp elt [c] scope p) pos) (tS T X.K R (sOwn i (cLc1 cv r sc elt c scope))) := by
  obtain ⟨h1, h2, h3⟩ := okSet_of ok ho
  obtain ⟨tg, iter, ifs, as⟩ := c
  subst ha
  unfold cLc1
  split
  · rename_i g ix t hg ht
    split
    · rename_i hc
      obtain ⟨hb, hx, hs⟩ := hc
      have bk := blkOk ok hb
      have okb := fun s H C cl b => ok.blk (T := T) (R := R) co bk.kind s H C cl b
      refine (ps_setLc (wi := tI T X.K R (r.I sc tg iter)) (g := tG T X.K R ix g) (tt := tT T X.K R t) (te := tE T X.K R (r.E (relSc scope sc) elt)) (co.calm X ok.gx) (nodupN ok) (by rw [ok.N]; exact ixOf_at hi) h1 (swaps_yes (by rw [ok.es]; exact ok.kind) h1 h2 h3) (sd.I tg iter ok) bk (fun s H C cl b => cG_ok co (okb s H C cl b) (fun x hx => hx) hg)
        (fun s H C cl b => cIfs_ok (fun e => sd.C e (okb s H C cl b)) ht) (fun s H C cl b => sd.E elt (okb s H C cl b)) fun x => unfolded hs _ x).imp fun D σ H h => ?_
      exact lc_imp (allIn_of hx) (own_imp h)
    · exact ts_fail fun _ => rfl
  · exact ts_fail fun _ => rfl
theorem set2 (co : CtxOk T R cv GX j) (sd : Snd T R cv GX r) (ok : XOk cv GX sc X) {y : Str} {py p : Pos} {i : Nat} {elt : Expr} {c d : Comprehension} (ha : c.is_async = 0) (ha2 : d.is_async = 0) (hi : ixOf cv.N y = some i) (ho : okSet sc scope y py p = true) :
    PS X (.Assign [.Name y py] (.ListComp elt [c, d] scope p) pos) (tS T X.K R (sOwn i (cLc2 cv r sc elt c d scope))) := by
  obtain ⟨h1, h2, h3⟩ := okSet_of ok ho
  obtain ⟨tg, iter, ifs, as⟩ := c
  obtain ⟨tg1, iter1, ifs1, as1⟩ := d
  subst ha
  subst ha2
  unfold cLc2
  split
  · rename_i g ix t g1 ix1 t1 hg ht hg1 ht1
    split
    · rename_i hc
      obtain ⟨hb, hx, hx1, hs, hs1⟩ := hc
      have bk := blkOk ok hb
      have okb := fun s H C cl b => ok.blk (T := T) (R := R) co bk.kind s H C cl b
      refine (ps_setLc2 (wi := tI T X.K R (r.I sc tg iter)) (g := tG T X.K R ix g) (tt := tT T X.K R t) (wi1 := tI T X.K R (r.I (relSc scope sc) tg1 iter1)) (g1 := tG T X.K R ix1 g1) (tt1 := tT T X.K R t1) (te := tE T X.K R (r.E (relSc scope sc) elt)) (co.calm X ok.gx) (nodupN ok) (by rw [ok.N]; exact ixOf_at hi) h1 (swaps_yes (by rw [ok.es]; exact ok.kind) h1 h2 h3) (sd.I tg iter ok) bk (allIn_of hx1) (fun s H C cl b => cG_ok co (okb s H C cl b) (fun x hx => hx) hg)
        (fun s H C cl b => cIfs_ok (fun e => sd.C e (okb s H C cl b)) ht) (fun s H C cl b => sd.I tg1 iter1 (okb s H C cl b)) (fun s H C cl b => cG_ok co (okb s H C cl b) (fun x hx => hx) hg1)
        (fun s H C cl b => cIfs_ok (fun e => sd.C e (okb s H C cl b)) ht1) (fun s H C cl b => sd.E elt (okb s H C cl b)) (fun x => unfolded hs _ x) fun env x => unfolded hs1 env x).imp fun D σ H h => ?_
      exact lc2_imp (allIn_of hx) (fun i hi => hi) (allIn_of hx1) (own_imp h)
    · exact ts_fail fun _ => rfl
  · exact ts_fail fun _ => rfl
theorem setD (co : CtxOk T R cv GX j) (sd : Snd T R cv GX r) (ok : XOk cv GX sc X) {y : Str} {py p : Pos} {i : Nat} {kx vx : Expr} {c : Comprehension} (ha : c.is_async = 0) (hi : ixOf cv.N y = some i) (ho : okSet sc scope y py p = true) :
    PS X (.Assign [.Name y py] (.DictComp kx vx [c] scope p) pos) (tS T X.K R (sOwn i (cDc1 cv r sc kx vx c scope))) := by
  obtain ⟨h1, h2, h3⟩ := okSet_of ok ho
  obtain ⟨tg, iter, ifs, as⟩ := c
  subst ha
  unfold cDc1
  split
  · rename_i g ix t hg ht
    split
    · rename_i hc
      obtain ⟨hb, hx, hs⟩ := hc
      have bk := blkOk ok hb
      have okb := fun s H C cl b => ok.blk (T := T) (R := R) co bk.kind s H C cl b
      refine (ps_setDc (wi := tI T X.K R (r.I sc tg iter)) (g := tG T X.K R ix g) (tt := tT T X.K R t) (tk := tE T X.K R (r.E (relSc scope sc) kx)) (tv := tE T X.K R (r.E (relSc scope sc) vx)) (co.calm X ok.gx) (nodupN ok) (by rw [ok.N]; exact ixOf_at hi) h1 (swaps_yesD (by rw [ok.es]; exact ok.kind) h1 h2 h3) (sd.I tg iter ok) bk (fun s H C cl b => cG_ok co (okb s H C cl b) (fun x hx => hx) hg)
        (fun s H C cl b => cIfs_ok (fun e => sd.C e (okb s H C cl b)) ht) (fun s H C cl b => sd.E kx (okb s H C cl b)) (fun s H C cl b => sd.E vx (okb s H C cl b)) fun x => unfolded hs _ x).imp fun D σ H h => ?_
      exact dc_imp (allIn_of hx) (own_imp h)
    · exact ts_fail fun _ => rfl
  · exact ts_fail fun _ => rfl
end
end Mi
namespace Mi
open PySem PySem.Spec L2
open PyProof.Rows hiding St

section
variable {W : Type} {T : Tab} {R : WR W} {cv : Ctv W} {GX : Cx → Prop} {sc : Scope} {X : Cx} {j : Nat} {r : Cvs W} {pos : Pos}
def yes (_ : Str) : Bool := true
/-- x = e -/
def cSet (cv : Ctv W) (r : Cvs W) (sc : Scope) (x : Str) (py : Pos) (i : Nat) : Expr → Sm W
  | .ListComp elt [c] scope p => if c.is_async = 0 ∧ okSet sc scope x py p = true then sOwn i (cLc1 cv r sc elt c scope) else if isCellN sc x = true then sOwn i (r.F sc (.ListComp elt [c] scope p)) else sFail
  | .ListComp elt [c, d] scope p => if c.is_async = 0 ∧ d.is_async = 0 ∧ okSet sc scope x py p = true then sOwn i (cLc2 cv r sc elt c d scope) else if isCellN sc x = true then sOwn i (r.F sc (.ListComp elt [c, d] scope p)) else sFail
  | .DictComp kx vx [c] scope p => if c.is_async = 0 ∧ okSet sc scope x py p = true then sOwn i (cDc1 cv r sc kx vx c scope) else if isCellN sc x = true then sOwn i (r.F sc (.DictComp kx vx [c] scope p)) else sFail
  | .List es p => sOwn i (r.F sc (.List es p))
  | .Dict ks vs p => sOwn i (r.F sc (.Dict ks vs p))
  | .BinOp a .Add b p => sAlt (sOwn i (r.F sc (.BinOp a .Add b p))) (sAsg (r.E sc (.BinOp a .Add b p)) (gNm i))
  | e => if notComp e = true then sAsg (r.E sc e) (gNm i) else sFail
theorem loc_of (ok : XOk cv GX sc X) {x : Str} {i : Nat} (h : cG1 cv.N yes sc x = some i) : ixOf cv.N x = some i ∧ X.N[i]? = some x ∧ Loc X.env.scope x := by
  unfold cG1 at h
  split at h
  · rename_i hl
    refine ⟨h, by rw [ok.N]; exact ixOf_at h, ?_⟩
    rcases hl with hl | hl
    · exact .inl (by rw [ok.es]; simpa using hl)
    · exact .inr (by rw [ok.es]; simpa using hl.1)
  · cases h
theorem cSet_ok (co : CtxOk T R cv GX j) (sd : Snd T R cv GX r) (ok : XOk cv GX sc X) (hfn : ∀ x, X.fn x = true) {x : Str} {py : Pos} {i : Nat} {e : Expr} (h : cG1 cv.N yes sc x = some i) : PS X (.Assign [.Name x py] e pos) (tS T X.K R (cSet cv r sc x py i e)) := by
  obtain ⟨h1, h2, h3⟩ := loc_of ok h
  unfold cSet
  split
  · exact ts_ite (fun hc => set1 co sd ok hc.1 h1 hc.2) fun _ => ts_ite (fun hc => ts_own (t := fun _ _ _ => True) (sd.F _ ok) fun te ht => ps_set (nodupN ok) h2 h3 ht (swaps_cell (by rw [ok.es]; exact eq_of_beq hc)) (.inl (hfn x))) fun _ => ts_no
  · exact ts_ite (fun hc => set2 co sd ok hc.1 hc.2.1 h1 hc.2.2) fun _ => ts_ite (fun hc => ts_own (t := fun _ _ _ => True) (sd.F _ ok) fun te ht => ps_set (nodupN ok) h2 h3 ht (swaps_cell (by rw [ok.es]; exact eq_of_beq hc)) (.inl (hfn x))) fun _ => ts_no
  · exact ts_ite (fun hc => setD co sd ok hc.1 h1 hc.2) fun _ => ts_ite (fun hc => ts_own (t := fun _ _ _ => True) (sd.F _ ok) fun te ht => ps_set (nodupN ok) h2 h3 ht (swaps_cell (by rw [ok.es]; exact eq_of_beq hc)) (.inl (hfn x))) fun _ => ts_no
  · exact ts_own (t := fun _ _ _ => True) (sd.F _ ok) fun te ht => ps_set (nodupN ok) h2 h3 ht (swaps_no rfl _ _ _) (.inl (hfn x))
  · exact ts_own (t := fun _ _ _ => True) (sd.F _ ok) fun te ht => ps_set (nodupN ok) h2 h3 ht (swaps_no rfl _ _ _) (.inl (hfn x))
  · rename_i x0 a0 b0 p0
    refine ts_alt ?_ ?_
    · exact ts_own (t := fun _ _ _ => True) (sd.F _ ok) fun te ht => ps_set (nodupN ok) h2 h3 ht (swaps_no rfl _ _ _) (.inl (hfn x))
    · exact ts_asg (t := fun _ _ _ => True) (sd.E _ ok) (tg_name (cG1_ok ok (fun x _ => hfn x) h)) fun te u hte hu => ps_asg hte hu (show swapsWith (.BinOp a0 .Add b0 p0) (some (.Name x py)) pos.line X.env = pure false from swaps_no rfl _ _ _) (swapped_no (by show (_ || (true && true)) = true; simp) _) rfl
  · refine ts_ite (fun hc => ?_) fun _ => ts_no
    exact ts_asg (t := fun _ _ _ => True) (sd.E _ ok) (tg_name (cG1_ok ok (fun x _ => hfn x) h)) fun te u hte hu => ps_asg hte hu (show swapsWith _ (some (.Name x py)) pos.line X.env = pure false from swaps_no hc _ _ _) (swapped_no (by show (_ || (true && true)) = true; simp) _) rfl
def isNil : Expr → Bool
  | .List [] _ => true
  | _ => false
/-- x, y = a, b -/
def cPair (cv : Ctv W) (r : Cvs W) (sc : Scope) (x y : Str) (px py : Pos) (a b : Expr) : Sm W := match ixOf cv.N x, ixOf cv.N y with
  | some i, some k => if pairOk sc x y px py a b = true then (if isNil a = true ∧ isNil b = true then sPar0 i k else if noStar [a, b] = true then sPar i k (asArgs (r.E sc) [a, b]) else sFail) else sFail
  | _, _ => sFail
theorem cPair_ok (co : CtxOk T R cv GX j) (sd : Snd T R cv GX r) (ok : XOk cv GX sc X) {x y : Str} {px py pt pt2 : Pos} {kt k2 : Nat} {a b : Expr} : PS X (.Assign [.Tuple [.Name x px, .Name y py] kt pt] (.Tuple [a, b] k2 pt2) pos) (tS T X.K R (cPair cv r sc x y px py a b)) := by
  unfold cPair
  split
  · rename_i i k hi hk
    refine ts_ite (fun hp => ?_) fun _ => ts_no
    have hp' : pairOk X.env.scope x y px py a b = true := by rw [ok.es]; exact hp
    obtain ⟨s1, s2, s3, s4⟩ := swapped_yes (pt := pt) (pt2 := pt2) (kt := kt) (k2 := k2) (by rw [ok.es]; exact ok.kind) hp'
    have hi' : X.N[i]? = some x := by rw [ok.N]; exact ixOf_at hi
    have hk' : X.N[k]? = some y := by rw [ok.N]; exact ixOf_at hk
    have hne : i ≠ k := fun e => s4 (by rw [e, hk'] at hi'; injection hi' with z; exact z.symm)
    have go : ∀ {a b : Expr} {ta : TA}, PA X [a, b] ta → swappedStores [.Tuple [.Name x px, .Name y py] kt pt] (.Tuple [a, b] k2 pt2) X.env = pure (some [x, y]) → PS X (.Assign [.Tuple [.Name x px, .Name y py] kt pt] (.Tuple [a, b] k2 pt2) pos) (tPar i k ta) :=
      fun {a b ta} ha hw => ps_par (co.calm X ok.gx) (nodupN ok) hi' hk' hne s2 s3 ha hw (show swapsWith (.Tuple [a, b] k2 pt2) (some (.Tuple [.Name x px, .Name y py] kt pt)) pos.line X.env = pure false from swaps_no rfl _ _ _)
    refine ts_ite (fun hn => ?_) fun _ => ts_ite (fun hs => ?_) fun _ => ts_no
    · obtain ⟨ha, hb⟩ := hn
      have h0 : ∀ {e : Expr}, isNil e = true → ∃ p, e = .List [] p := fun {e} h => by
        unfold isNil at h
        split at h
        · exact ⟨_, rfl⟩
        · cases h
      obtain ⟨_, rfl⟩ := h0 ha
      obtain ⟨_, rfl⟩ := h0 hb
      exact ts_par0 fun t ht => go ht s1
    · exact ts_par (ta := fun _ _ _ _ => True) (asArgs_ok (fun e => sd.E e ok) _) fun t ht => go ht s1
  · exact ts_no
/-- any other target -/
def cTg (cv : Ctv W) (r : Cvs W) (sc : Scope) (tg value : Expr) : Sm W := match cG cv.N yes sc tg with
  | some (g, _) => if notTup value = true ∧ notName tg = true then sAsg (r.E sc value) g else sFail
  | none => sFail
theorem each1 {tg : Expr} {N : List Str} {g : Tg W} {ix : List Nat} (h : cG N yes sc tg = some (g, ix)) (env : Env) : (assignEach [tg] env).map (·.2) = [assign tg env] := by
  unfold cG at h
  split at h <;> first | rfl | cases h
theorem cTg_ok (co : CtxOk T R cv GX j) (sd : Snd T R cv GX r) (ok : XOk cv GX sc X) (hfn : ∀ x, X.fn x = true) {tg value : Expr} : PS X (.Assign [tg] value pos) (tS T X.K R (cTg cv r sc tg value)) := by
  unfold cTg
  split
  · rename_i g ix hg
    refine ts_ite (fun hc => ?_) fun _ => ts_no
    exact ts_asg (t := fun _ _ _ => True) (sd.E _ ok) (cG_ok co ok (fun x _ => hfn x) hg) fun te u hte hu => ps_asg hte hu (swaps_at hc.2 _ _) (swapped_no (by rw [hc.1]; rfl) _) (each1 hg _)
  · exact ts_no
def cAsg (cv : Ctv W) (r : Cvs W) (sc : Scope) (tg value : Expr) : Sm W := match tg, value with
  | .Name x py, e => (match cG1 cv.N yes sc x with
    | some i => cSet cv r sc x py i e
    | none => sFail)
  | .Tuple [.Name x px, .Name y py] _ _, .Tuple [a, b] _ _ => cPair cv r sc x y px py a b
  | .Attribute (.Name o _) nm _, e => (match slotOf cv sc o with
    | some i => if notComp e = true then sSetF i (cv.fc nm) nm (r.E sc e) else sFail
    | none => sFail)
  | tg, e => cTg cv r sc tg e
theorem cAsg_ok (co : CtxOk T R cv GX j) (sd : Snd T R cv GX r) (ok : XOk cv GX sc X) (hfn : ∀ x, X.fn x = true) {tg value : Expr} : PS X (.Assign [tg] value pos) (tS T X.K R (cAsg cv r sc tg value)) := by
  unfold cAsg
  split
  · split
    · rename_i i hi
      exact cSet_ok co sd ok hfn hi
    · exact ts_no
  · exact cPair_ok co sd ok
  · split
    · rename_i i hi
      refine ts_ite (fun hc => ?_) fun _ => ts_no
      exact ts_setF (ok.slot hi) (sd.E _ ok) (swaps_no hc _ _ _) (co.at_ X _ ok.gx).fld
    · exact ts_no
  · exact cTg_ok co sd ok hfn
/-- an expression as a statement -/
def cXp (cv : Ctv W) (r : Cvs W) (sc : Scope) (e : Expr) : Sm W := match e with
  | .Call (.Attribute (.Name x xp) nm apos) [a] [] cpos => (match slotOf cv sc x with
    | some i => if nm = ("append" : Str) ∧ noStar [a] = true ∧ (apos.endLine == cpos.line) = true then sApp i (r.E sc a) else if nm = ("extend" : Str) ∧ noStar [a] = true ∧ (apos.endLine == cpos.line) = true then sExt i (r.E sc a) else sExpr (r.E sc e)
    | none => sExpr (r.E sc e))
  | e => if notComp e = true then sExpr (r.E sc e) else sFail
theorem one_bm {o a : Expr} {to : TE} {t : TA} {nm : Str} {apos cpos : Pos} {id : String} {rr : V → List V → Hp → VK → Prop} (slot : PySem.Slot "list" nm id) (hty : typeOf (.builtin id) = pure (.type "method_descriptor")) (hm : MtR X id rr) (hx : PE X o to) (ht : PA X [a] t) (hb : notSup o = true) (hs : noStar [a] = true) (hl : (apos.endLine == cpos.line) = true) :
    PE X (.Call (.Attribute o nm apos) [a] [] cpos) (tBM X.K "list" rr to t) := by
  have few : ((backTo cpos (starEach [a] X.env)).all (fun x => !x.1) && (backToKw cpos (keywordEach [] X.env)).all (fun x => x.1.isSome) && decide (([a] : List Expr).length + ([] : List Keyword).length + (if ([] : List Keyword).isEmpty then 0 else 1) < 30)) = true := by
    rw [few_args hs cpos X.env]
    rfl
  exact pe_bm F.plainAttrs_list slot hty hm hx ht (base_of hb _ _ _) few hl ((noStar_cons hs).2 _) rfl
theorem args1 {f : Expr → Ex W} {a : Expr} (hs : noStar [a] = true) (hf : ∀ e, PE X e (tE T X.K R (f e))) : PA X [a] (tA T X.K R (aCons (f a) aNil)) := ta_cons (hf a) ta_nil ((noStar_cons hs).2 _)
theorem cXp_ok (co : CtxOk T R cv GX j) (sd : Snd T R cv GX r) (ok : XOk cv GX sc X) {e : Expr} : PS X (.Expr e pos) (tS T X.K R (cXp cv r sc e)) := by
  unfold cXp
  split
  · rename_i x xp nm apos a cpos
    split
    · rename_i i hi
      refine ts_ite (fun hc => ?_) fun _ => ts_ite (fun hc => ?_) fun _ => ts_expr (sd.E _ ok) (swaps_no rfl _ _ _)
      · obtain ⟨hn, hs, hl⟩ := hc
        subst hn
        exact ts_app (te := fun _ => fun _ _ _ => True) (ok.slot (p := xp) hi) (args1 hs fun e => sd.E e ok) (fun t ht => one_bm F.slot_list_append F.type_list_append mt_append (ok.slot hi) ht rfl hs hl) (swaps_no rfl _ _ _)
      · obtain ⟨hn, hs, hl⟩ := hc
        subst hn
        exact ts_ext (te := fun _ => fun _ _ _ => True) (ok.slot (p := xp) hi) (args1 hs fun e => sd.E e ok) (fun t ht => one_bm F.slot_list_extend F.type_list_extend mt_extend (ok.slot hi) ht rfl hs hl) (swaps_no rfl _ _ _)
    · exact ts_expr (sd.E _ ok) (swaps_no rfl _ _ _)
  · exact ts_ite (fun h => ts_expr (sd.E _ ok) (swaps_no h _ _ _)) fun _ => ts_no
/-- match -/
def cMt (f : List Stmt → Sm W) : List MatchCase → Option (List (Option Str × Sm W))
  | [] => some []
  | ⟨p, none, body⟩ :: r => (match p with
    | .MatchValue (.Constant (.str x) _ _) _ => (cMt f r).map ((some x, f body) :: ·)
    | .MatchAs none none _ => (cMt f r).map ((none, f body) :: ·)
    | _ => none)
  | _ => none
theorem cMt_ok {f : List Stmt → Sm W} (hf : ∀ b, PSs X b (tS T X.K R (f b))) : ∀ {cs : List MatchCase} {bs : List (Option Str × Sm W)}, cMt f cs = some bs → MtOk T R X cs bs
  | [], _, h => by cases h; exact .nil
  | ⟨p, some _, body⟩ :: r, _, h => by cases h
  | ⟨p, none, body⟩ :: r, bs, h => by
    unfold cMt at h
    split at h
    · cases h1 : cMt f r with
      | none => rw [h1] at h; cases h
      | some q => rw [h1] at h; cases h; exact .val (hf _) (cMt_ok hf h1)
    · cases h1 : cMt f r with
      | none => rw [h1] at h; cases h
      | some q => rw [h1] at h; cases h; exact .any (hf _) (cMt_ok hf h1)
    · cases h
/-- THE STATEMENTS -/
def cS (cv : Ctv W) (r : Cvs W) (sc : Scope) : Stmt → Sm W
  | .Pass _ => sPass
  | .Break _ => sBrk
  | .Continue _ => sCnt
  | .Return none _ => sRetN
  | .Return (some e) _ => sRet (r.E sc e)
  | .Expr e _ => cXp cv r sc e
  | .Assign [tg] value _ => cAsg cv r sc tg value
  | .If c body orelse _ => sIf (r.C sc c) (r.B sc body) (r.B sc orelse)
  | .For tg iter body [] _ => (match cG cv.N yes sc tg with
    | some (g, _) => if notSet iter = true then sFor (r.I sc tg iter) g (r.B sc body) else sFail
    | none => sFail)
  | .While c body [] _ => sWhile (r.C sc c) (r.B sc body) cv.fu
  | .Match e cs _ => (match cMt (r.B sc) cs with
    | some bs => sMt (r.E sc e) bs
    | none => sFail)
  | .Try body (_ :: _) [] [] _ => r.B sc body
  | _ => sFail
theorem passes (ok : XOk cv GX sc X) : PassesOwn (model X.prog X.w) X.A X.env X.xe := fun e s h => absurd h (ok.hn e s)
theorem cS_ok (co : CtxOk T R cv GX j) (sd : Snd T R cv GX r) (ok : XOk cv GX sc X) (hfn : ∀ x, X.fn x = true) (s : Stmt) : PS X s (tS T X.K R (cS cv r sc s)) := by
  unfold cS
  split
  · exact ts_pass
  · exact ts_break
  · exact ts_continue
  · exact ts_retN
  · exact ts_ret (sd.E _ ok)
  · exact cXp_ok co sd ok
  · exact cAsg_ok co sd ok hfn
  · exact ts_if (sd.C _ ok) (sd.B _ ok hfn) (sd.B _ ok hfn)
  · split
    · rename_i g ix hg
      exact ts_ite (fun h => ts_for (passes ok) (co.calm X ok.gx) (sd.I _ _ ok) (cG_ok co ok (fun x _ => hfn x) hg) (sd.B _ ok hfn) fun x => unfolded h _ x) fun _ => ts_no
    · exact ts_no
  · exact ts_while (passes ok) (sd.C _ ok) (sd.B _ ok hfn)
  · split
    · rename_i bs hb
      exact ts_mt (sd.E _ ok) (cMt_ok (fun b => sd.B b ok hfn) hb)
    · exact ts_no
  · exact ts_try ok.hn (sd.B _ ok hfn)
  · exact ts_no
def cB (f : Stmt → Sm W) : List Stmt → Sm W
  | [] => sPass
  | [s] => f s
  | s :: ss => sSeq (f s) (cB f ss)
theorem cB_ok {f : Stmt → Sm W} (hf : ∀ s, PS X s (tS T X.K R (f s))) : ∀ ss : List Stmt, PSs X ss (tS T X.K R (cB f ss))
  | [] => tss_nil
  | [s] => tss_one (hf s)
  | s :: s2 :: ss => tss_cons (hf s) (cB_ok hf (s2 :: ss))
def cv0 : Cvs W := ⟨fun _ _ => eFail, fun _ _ _ => none, fun _ _ _ _ => none, fun _ _ => eFail, fun _ _ => sFail, fun _ _ => sFail⟩
def step (cv : Ctv W) (r : Cvs W) : Cvs W := ⟨cE cv r, cC cv r, cI cv r, cF cv r, cS cv r, fun sc => cB (r.S sc)⟩
def cvs (cv : Ctv W) : Nat → Cvs W
  | 0 => cv0
  | n + 1 => step cv (cvs cv n)
theorem cv0_ok : Snd T R cv GX (cv0 (W := W)) where
  E _ _ := te_no
  C _ _ := tt_no
  I _ _ _ := ti_fail fun _ => rfl
  F _ _ := tf_no
  S _ _ _ := ts_no
  B _ _ _ := ⟨fun pins s σ H D I ⟨st, fp, hd, _, d, st', h', _⟩ => by cases h'⟩
theorem step_ok (co : CtxOk T R cv GX j) (sd : Snd T R cv GX r) : Snd T R cv GX (step cv r) where
  E e ok := cE_ok co sd ok e
  C e ok := cC_ok co sd ok e
  I tg e ok := cI_ok co sd ok tg e
  F e ok := cF_ok co sd ok e
  S s ok hfn := cS_ok co sd ok hfn s
  B ss ok hfn := cB_ok (fun s => sd.S s ok hfn) ss
theorem cvs_ok (co : CtxOk T R cv GX j) : ∀ n : Nat, Snd T R cv GX (cvs cv n)
  | 0 => cv0_ok
  | n + 1 => step_ok co (cvs_ok co n)
end
end Mi
namespace Mi
open PySem PySem.Spec L2
open PyProof.Rows hiding St

theorem loopY {α β : Type} {f : α → β → Sem (ForInStep β)} {g : List α → β} : ∀ {l : List α} {pre : List α}, (∀ p a q, l = p ++ a :: q → f a (g (pre ++ p)) = pure (.yield (g (pre ++ (p ++ [a]))))) → forIn l (g pre) f = (pure (g (pre ++ l)) : Sem β)
  | [], pre, _ => by rw [List.forIn_nil, List.append_nil]
  | a :: l, pre, h => by
    rw [List.forIn_cons, show f a (g pre) = pure (.yield (g (pre ++ [a]))) from by
      have := h [] a l rfl
      rw [List.append_nil, List.nil_append] at this
      exact this, pure_bind]
    have := loopY (f := f) (g := g) (l := l) (pre := pre ++ [a]) fun p b q e => by
      have := h (a :: p) b q (by rw [e]; rfl)
      rw [List.append_assoc, List.append_assoc]
      exact this
    rw [List.append_assoc] at this
    exact this
theorem loopZ {α β : Type} {f : α → β → Sem (ForInStep β)} {g : List α → β} {l : List α} {b : β} (hb : b = g []) (h : ∀ p a q, l = p ++ a :: q → f a (g p) = pure (.yield (g (p ++ [a])))) : forIn l b f = (pure (g l) : Sem β) := by
  rw [hb]
  exact loopY (pre := []) h
/-- only plain parameters -/
structure PlainA (p : Arguments) (ps : List Str) : Prop where
  po : p.posonlyargs = []
  ar : p.args.map (·.arg) = ps
  va : p.vararg = none
  ko : p.kwonlyargs = []
  ka : p.kwarg = none
section
variable {α β : Type}
def putS (s : List (Str × α)) (q : Str × α) : List (Str × α) := if (s.lookup q.1).isNone = true then s ++ [q] else s
def slotsF (ps ks : List Str) (us ws dl : List α) : List (Str × α) := ((ps.drop (ps.length - dl.length)).zip dl).foldl putS (ps.zip us ++ ks.zip ws)
def getS (s : List (Str × α)) : List Str → Option (List α)
  | [] => some []
  | x :: xs => (match s.lookup x with
    | some v => (getS s xs).map (v :: ·)
    | none => none)
def placeF (ps ks : List Str) (us ws dl : List α) : Option (List α) := getS (slotsF ps ks us ws dl) ps
/-- alike lists -/
inductive AllR (r : α → β → Prop) : List α → List β → Prop
  | nil : AllR r [] []
  | cons {a b as bs} : r a b → AllR r as bs → AllR r (a :: as) (b :: bs)
variable {r : α → β → Prop}
def RelQ (r : α → β → Prop) (p : Str × α) (q : Str × β) : Prop := p.1 = q.1 ∧ r p.2 q.2
theorem AllR.length {as : List α} {bs : List β} (h : AllR r as bs) : as.length = bs.length := by
  induction h with
  | nil => rfl
  | cons _ _ ih => exact congrArg Nat.succ ih
theorem AllR.append {as cs : List α} {bs ds : List β} (h : AllR r as bs) (g : AllR r cs ds) : AllR r (as ++ cs) (bs ++ ds) := by
  induction h with
  | nil => exact g
  | cons x _ ih => exact .cons x ih
theorem AllR.zip {as : List α} {bs : List β} (h : AllR r as bs) : ∀ xs : List Str, AllR (RelQ r) (xs.zip as) (xs.zip bs) := by
  induction h with
  | nil => intro xs; rw [List.zip_nil_right, List.zip_nil_right]; exact .nil
  | cons x _ ih => intro xs; cases xs with
    | nil => exact .nil
    | cons y ys => exact .cons ⟨rfl, x⟩ (ih ys)
theorem AllR.look {s : List (Str × α)} {t : List (Str × β)} (h : AllR (RelQ r) s t) (x : Str) : (∃ a b, s.lookup x = some a ∧ t.lookup x = some b ∧ r a b) ∨ s.lookup x = none ∧ t.lookup x = none := by
  induction h with
  | nil => exact .inr ⟨rfl, rfl⟩
  | @cons p q as bs z _ ih =>
    obtain ⟨y, a⟩ := p
    obtain ⟨y', b⟩ := q
    obtain ⟨e, z⟩ := z
    have e : y = y' := e
    subst e
    rw [List.lookup_cons, List.lookup_cons]
    cases hx : x == y with
    | true => exact .inl ⟨a, b, rfl, rfl, z⟩
    | false => exact ih
theorem AllR.put {s : List (Str × α)} {t : List (Str × β)} (h : AllR (RelQ r) s t) {p : Str × α} {q : Str × β} (z : RelQ r p q) : AllR (RelQ r) (putS s p) (putS t q) := by
  obtain ⟨x, a⟩ := p
  obtain ⟨y, b⟩ := q
  have e : x = y := z.1
  subst e
  unfold putS
  rcases h.look x with ⟨u, v, e1, e2, _⟩ | ⟨e1, e2⟩
  · rw [e1, e2]; exact h
  · rw [e1, e2]; exact h.append (.cons z .nil)
theorem AllR.fold {as : List (Str × α)} {bs : List (Str × β)} (h : AllR (RelQ r) as bs) : ∀ {s : List (Str × α)} {t : List (Str × β)}, AllR (RelQ r) s t → AllR (RelQ r) (as.foldl putS s) (bs.foldl putS t) := by
  induction h with
  | nil => exact fun g => g
  | cons x _ ih => exact fun g => ih (g.put x)
theorem AllR.get {s : List (Str × α)} {t : List (Str × β)} (h : AllR (RelQ r) s t) : ∀ xs : List Str, (∃ a b, getS s xs = some a ∧ getS t xs = some b ∧ AllR r a b) ∨ getS s xs = none ∧ getS t xs = none
  | [] => .inl ⟨[], [], rfl, rfl, .nil⟩
  | x :: xs => by
    unfold getS
    rcases h.look x with ⟨u, v, e1, e2, z⟩ | ⟨e1, e2⟩
    · rw [e1, e2]
      rcases AllR.get h xs with ⟨a, b, e3, e4, z2⟩ | ⟨e3, e4⟩
      · simp only [e3, e4]
        exact .inl ⟨u :: a, v :: b, rfl, rfl, .cons z z2⟩
      · simp only [e3, e4]
        exact .inr ⟨rfl, rfl⟩
    · rw [e1, e2]
      exact .inr ⟨rfl, rfl⟩
theorem place_rel (ps ks : List Str) {us ws dl : List α} {us' ws' dl' : List β} (h1 : AllR r us us') (h2 : AllR r ws ws') (h3 : AllR r dl dl') : (∃ a b, placeF ps ks us ws dl = some a ∧ placeF ps ks us' ws' dl' = some b ∧ AllR r a b) ∨ placeF ps ks us ws dl = none ∧ placeF ps ks us' ws' dl' = none := by
  unfold placeF slotsF
  rw [h3.length]
  exact ((h3.zip _).fold ((h1.zip _).append (h2.zip _))).get ps
theorem getS_len {s : List (Str × α)} : ∀ {xs : List Str} {a : List α}, getS s xs = some a → a.length = xs.length ∧ xs.filterMap (fun n => (s.lookup n).map (n, ·)) = xs.zip a
  | [], a, h => by cases h; exact ⟨rfl, rfl⟩
  | x :: xs, a, h => by
    unfold getS at h
    split at h
    · rename_i v hv
      cases h1 : getS s xs with
      | none => rw [h1] at h; cases h
      | some b =>
        rw [h1] at h
        cases h
        obtain ⟨l1, l2⟩ := getS_len h1
        refine ⟨congrArg Nat.succ l1, ?_⟩
        rw [List.filterMap_cons, hv]
        show (x, v) :: xs.filterMap _ = _
        rw [l2]
        rfl
    · cases h
end
end Mi
namespace Mi
open PySem PySem.Spec L2
open PyProof.Rows hiding St

theorem keys_zip {α : Type} : ∀ {xs : List Str} {as : List α}, (xs.zip as).map (·.1) = xs.take as.length
  | [], as => by rw [List.zip_nil_left, List.take_nil]; rfl
  | x :: xs, [] => rfl
  | x :: xs, a :: as => congrArg (x :: ·) keys_zip
theorem zip_split {α : Type} {xs : List Str} {as : List α} {p q : List (Str × α)} {a : Str × α} (h : xs.zip as = p ++ a :: q) (nd : xs.Nodup) : a.1 ∈ xs ∧ a.1 ∉ p.map (·.1) := by
  have hm : (xs.zip as).map (·.1) = p.map (·.1) ++ a.1 :: q.map (·.1) := by rw [h, List.map_append]; rfl
  rw [keys_zip] at hm
  have nd2 : (xs.take as.length).Nodup := nd.sublist (List.take_sublist _ _)
  refine ⟨List.mem_of_mem_take (by rw [hm]; exact List.mem_append_right _ (List.mem_cons_self ..)), fun z => ?_⟩
  rw [hm] at nd2
  exact (List.nodup_append.mp nd2).2.2 _ z _ (List.mem_cons_self ..) rfl
theorem lookup_no {α : Type} {x : Str} : ∀ {l : List (Str × α)}, x ∉ l.map (·.1) → l.lookup x = none
  | [], _ => rfl
  | (y, v) :: l, h => by
    rw [List.lookup_cons]
    have hne : (x == y) = false := beq_eq_false_iff_ne.mpr fun e => h (e ▸ List.mem_cons_self ..)
    rw [hne]
    exact lookup_no fun z => h (List.mem_cons_of_mem _ z)
theorem look_some {α : Type} {x : Str} : ∀ {l : List (Str × α)}, x ∈ l.map (·.1) → (l.lookup x).isNone = false
  | [], h => by cases h
  | (y, v) :: l, h => by
    rw [List.lookup_cons]
    cases e : x == y with
    | true => rfl
    | false =>
      rcases List.mem_cons.mp h with z | z
      · rw [show x = y from z, beq_self_eq_true] at e; cases e
      · exact look_some z
section
variable {fd : FuncData} {ps ks : List Str} {us ws : List Value}
theorem bind_gen {dn : Nat} (P : PlainA fd.params ps) (hk : ∀ k ∈ ks, k ∈ ps ∧ k ∉ ps.take us.length) (nk : ks.Nodup) (hl : us.length ≤ ps.length) (hw : ws.length = ks.length) (hdn : dn ≤ ps.length) (hm : ∀ x ∈ ps.take (ps.length - dn), x ∈ ps.take us.length ∨ x ∈ ks) :
    ∃ k, bindArgs fd ⟨us, ks.zip ws⟩ = seqItems? fd.defaults >>= k ∧ ∀ (o : Option (Array Value)) (vals : List Value), (o.getD #[]).toList.length = dn → placeF ps ks us ws (o.getD #[]).toList = some vals → k o = pure (ps.zip vals) := by
  unfold bindArgs
  simp only [P.po, P.ar, P.va, P.ko, P.ka, List.map_nil, List.nil_append, List.append_nil]
  refine ⟨_, (congrArg (· >>= _) (loopZ (g := fun pre => (ps.zip us ++ pre, [])) (by rw [List.append_nil]) fun p a q e => ?_)).trans (pure_bind _ _), fun o vals hd hp => ?_⟩
  · obtain ⟨m1, m2⟩ := zip_split e nk
    obtain ⟨m3, m4⟩ := hk _ m1
    have c1 : (ps.contains a.1 || [].contains a.1) = true := by
      rw [List.contains_iff_mem.mpr m3]
      rfl
    have c2 : ((ps.zip us ++ p).lookup a.1).isSome = false := by
      have hno : (ps.zip us ++ p).lookup a.1 = none := lookup_no (by
        rw [List.map_append, keys_zip]
        exact fun z => (List.mem_append.mp z).elim m4 m2)
      rw [hno]
      rfl
    rw [if_pos c1]
    dsimp only
    rw [c2, if_neg (by decide), List.append_assoc]
  · generalize hdl : (o.getD #[]).toList = dl at hd hp ⊢
    have hg : ¬ us.length > ps.length := by omega
    dsimp only
    rw [decide_eq_false hg, Bool.false_and, if_neg Bool.false_ne_true]
    have hdrop : dl.drop (dl.length - ps.length) = dl := by
      rw [show dl.length - ps.length = 0 by omega]
      rfl
    rw [hdrop]
    have hmis : (ps.take (ps.length - dl.length)).filter (fun n => ((ps.zip us ++ ks.zip ws).lookup n).isNone) = [] := List.filter_eq_nil_iff.mpr fun x hx => by
      have hx2 : x ∈ (ps.zip us ++ ks.zip ws).map (·.1) := by
        rw [List.map_append, keys_zip, keys_zip, hw, List.take_length]
        exact List.mem_append.mpr (hm x (by rw [← hd]; exact hx))
      rw [look_some hx2]
      exact Bool.false_ne_true
    rw [hmis]
    rw [if_neg (show ¬ (!([] : List Str).isEmpty) = true by decide)]
    refine (congrArg (· >>= _) (loopZ (g := fun pre => pre.foldl putS (ps.zip us ++ ks.zip ws)) rfl fun p a q e => ?_)).trans ?_
    · rw [List.foldl_append]
      show _ = pure (ForInStep.yield (putS _ a))
      unfold putS
      split <;> rfl
    · rw [pure_bind, List.forIn_nil, pure_bind]
      have hv := (getS_len hp).2
      unfold slotsF at hv
      rw [if_neg (show ¬ (!([] : List Str).isEmpty) = true by decide)]
      exact congrArg pure hv
end
end Mi
namespace Mi
open PySem PySem.Spec L2
open PyProof.Rows hiding St

theorem allR_rep {α : Type} : ∀ {us : List α} {n : Nat}, us.length = n → AllR (fun (_ : Unit) (_ : α) => True) (List.replicate n ()) us
  | [], _, rfl => .nil
  | u :: us, _, rfl => .cons trivial (allR_rep rfl)
theorem allR_vals : ∀ {vs : List V} {us : List Value}, Vals vs us → AllR RelV vs us
  | _, _, .nil => .nil
  | _, _, .cons r q => .cons r (allR_vals q)
theorem vals_allR {vs : List V} {us : List Value} (h : AllR RelV vs us) : Vals vs us := by
  induction h with
  | nil => exact .nil
  | cons r _ ih => exact .cons r ih
theorem allR_reps {T : Tab} {K : PySem.W.Frag} {G : Hp} : ∀ {vs : List V} {ds : List D}, Reps T K G vs ds → AllR (Rep T K G) vs ds
  | _, _, .nil => .nil
  | _, _, .cons r q => .cons r (allR_reps q)
theorem reps_allR {T : Tab} {K : PySem.W.Frag} {G : Hp} {vs : List V} {ds : List D} (h : AllR (Rep T K G) vs ds) : Reps T K G vs ds := by
  induction h with
  | nil => exact .nil
  | cons r _ ih => exact .cons r ih
def bindC (ps ks : List Str) (n dn : Nat) : Bool := decide (n ≤ ps.length) && (decide (dn ≤ ps.length) && (decide ks.Nodup && ((ks.all fun k => ps.contains k && !(ps.take n).contains k) && (((ps.take (ps.length - dn)).all fun x => (ps.take n).contains x || ks.contains x) &&
  (placeF ps ks (List.replicate n ()) (List.replicate ks.length ()) (List.replicate dn ())).isSome))))
theorem bindC_of {ps ks : List Str} {n dn : Nat} (h : bindC ps ks n dn = true) : n ≤ ps.length ∧ dn ≤ ps.length ∧ ks.Nodup ∧ (∀ k ∈ ks, k ∈ ps ∧ k ∉ ps.take n) ∧ (∀ x ∈ ps.take (ps.length - dn), x ∈ ps.take n ∨ x ∈ ks) ∧ (placeF ps ks (List.replicate n ()) (List.replicate ks.length ()) (List.replicate dn ())).isSome = true := by
  unfold bindC at h
  simp only [Bool.and_eq_true, decide_eq_true_eq, List.all_eq_true, Bool.or_eq_true, Bool.not_eq_true', List.contains_iff_mem] at h
  obtain ⟨h1, h2, h3, h4, h5, h6⟩ := h
  refine ⟨h1, h2, h3, fun k hk => ⟨(h4 k hk).1, fun z => ?_⟩, h5, h6⟩
  have := (h4 k hk).2
  rw [List.contains_iff_mem.mpr z] at this
  cases this
section
variable {T : Tab} {K : PySem.W.Frag} {x qual : Str} {params : Arguments} {body : List Stmt} {scope : Scope} {dvs : List V} {kws : List (Str × V)} {f : Addr} {fd : FuncData} {ps ks : List Str} {n : Nat} {dd : List D}
/-- the values of defaults, and how the binder goes -/
theorem bind_ex (F : FunD K x qual params body scope dvs kws f fd) (P : PlainA params ps) : ∃ dl : List Value, Vals dvs dl ∧ ∀ (ks : List Str) (n : Nat), bindC ps ks n dvs.length = true → ∀ (s : Shared) (us ws : List Value), K.In s.heap → us.length = n → ws.length = ks.length → ∃ vals, placeF ps ks us ws dl = some vals ∧ BindsTo s fd ⟨us, ks.zip ws⟩ (ps.zip vals) := by
  obtain ⟨oc, od, dV, kV, doc, pm, an, cdv, ct, osl, rfl, lk, hcd, hD, hK⟩ := F.ex
  have main : ∀ (o : Option (Array Value)) (ks : List Str) (n : Nat), Vals dvs (o.getD #[]).toList → bindC ps ks n dvs.length = true → ∀ (s : Shared) (us ws : List Value), us.length = n → ws.length = ks.length →
      ∃ vals k, placeF ps ks us ws (o.getD #[]).toList = some vals ∧ bindArgs (PySem.W.fnOf x qual params body scope dV kV doc pm an cdv ct) ⟨us, ks.zip ws⟩ = seqItems? dV >>= k ∧ k o = pure (ps.zip vals) := fun o ks n rv c s us ws l1 l2 => by
    subst l1
    obtain ⟨c1, c2, c3, c4, c5, c6⟩ := bindC_of c
    rcases place_rel ps ks (allR_rep (us := us) rfl) (allR_rep (us := ws) l2) (allR_rep (us := (o.getD #[]).toList) rv.length.symm) with ⟨a, b, e1, e2, _⟩ | ⟨e1, _⟩
    · obtain ⟨k, h1, h2⟩ := bind_gen (fd := PySem.W.fnOf x qual params body scope dV kV doc pm an cdv ct) (dn := dvs.length) P c4 c3 c1 l2 c2 c5
      exact ⟨b, k, e2, h1, h2 o b rv.length.symm e2⟩
    · rw [e1] at c6
      cases c6
  rcases hD with ⟨rfl, rfl⟩ | ⟨_, D, o, its, m, rfl, lT, oT, rT⟩
  · refine ⟨[], .nil, fun ks n c s us ws _ l1 l2 => ?_⟩
    obtain ⟨vals, k, h1, h2, h3⟩ := main none ks n .nil c s us ws l1 l2
    exact ⟨vals, h1, .of_eq (h2.trans h3)⟩
  · refine ⟨its, rT, fun ks n c s us ws X l1 l2 => ?_⟩
    obtain ⟨vals, k, h1, h2, h3⟩ := main (some its.toArray) ks n rT c s us ws l1 l2
    refine ⟨vals, h1, BindsTo.of_looks fun M => ?_⟩
    rw [h2]
    exact looks_items X lT oT (.of_pure h3)
theorem bindF_of (F : FunD K x qual params body scope dvs kws f fd) (P : PlainA params ps) (c : bindC ps ks n dvs.length = true) (q : ∀ G, Reps T K G dvs dd) : BindF T K fd ps n ks (fun ds es => placeF ps ks ds es dd) := by
  obtain ⟨dl, rd, h⟩ := bind_ex F P
  refine ⟨fun s us ws X l1 l2 => ?_⟩
  obtain ⟨vals, h1, h2⟩ := h ks n c s us ws X l1 l2
  refine ⟨vals, h2, fun vs zs r1 r2 => ?_⟩
  rcases place_rel ps ks (allR_vals r1) (allR_vals r2) (allR_vals rd) with ⟨a, b, e1, e2, rr⟩ | ⟨_, e2⟩
  · rw [e2] at h1
    cases h1
    refine ⟨a, vals_allR rr, (getS_len e1).1, fun G ds es ds' q1 q2 e => ?_⟩
    rcases place_rel ps ks (allR_reps q1) (allR_reps q2) (allR_reps (q G)) with ⟨a', b', e3, e4, rr'⟩ | ⟨_, e4⟩
    · rw [e3] at e1
      cases e1
      rw [e4] at e
      cases e
      exact reps_allR rr'
    · rw [e4] at e
      cases e
  · rw [e2] at h1
    cases h1
end
section
variable {α : Type} {p : Str} {a : α}
theorem putS_cons {s : List (Str × α)} {q : Str × α} (h : q.1 ≠ p) : putS ((p, a) :: s) q = (p, a) :: putS s q := by
  unfold putS
  rw [List.lookup_cons, beq_eq_false_iff_ne.mpr h]
  show (if (s.lookup q.1).isNone = true then (p, a) :: s ++ [q] else (p, a) :: s) = _
  split <;> rfl
theorem fold_cons : ∀ {l : List (Str × α)} {s : List (Str × α)}, p ∉ l.map (·.1) → l.foldl putS ((p, a) :: s) = (p, a) :: l.foldl putS s
  | [], _, _ => rfl
  | q :: l, s, h => by
    have hne : q.1 ≠ p := fun e => h (by rw [← e]; exact List.mem_cons_self ..)
    rw [List.foldl_cons, List.foldl_cons, putS_cons hne]
    exact fold_cons fun z => h (List.mem_cons_of_mem _ z)
theorem getS_cons {s : List (Str × α)} : ∀ {xs : List Str}, p ∉ xs → getS ((p, a) :: s) xs = getS s xs
  | [], _ => rfl
  | x :: xs, h => by
    unfold getS
    have hne : (x == p) = false := beq_eq_false_iff_ne.mpr fun e => h (by rw [e]; exact List.mem_cons_self ..)
    rw [List.lookup_cons, hne, getS_cons fun z => h (List.mem_cons_of_mem _ z)]
theorem place_cons {ps ks : List Str} {us ws dl : List α} (hp : p ∉ ps) (hd : dl.length ≤ ps.length) : placeF (p :: ps) ks (a :: us) ws dl = (placeF ps ks us ws dl).map (a :: ·) := by
  unfold placeF slotsF
  have e : (p :: ps).drop ((p :: ps).length - dl.length) = ps.drop (ps.length - dl.length) := by
    rw [show (p :: ps).length - dl.length = (ps.length - dl.length) + 1 by rw [List.length_cons]; omega]
    rfl
  rw [e]
  have hno : p ∉ ((ps.drop (ps.length - dl.length)).zip dl).map (·.1) := fun z => by
    rw [keys_zip] at z
    exact hp (List.mem_of_mem_drop (List.mem_of_mem_take z))
  show getS (List.foldl putS ((p, a) :: (ps.zip us ++ ks.zip ws)) _) (p :: ps) = _
  rw [fold_cons hno]
  show (match List.lookup p ((p, a) :: _) with | some v => (getS _ ps).map (v :: ·) | none => none) = _
  rw [List.lookup_cons, beq_self_eq_true]
  show (getS ((p, a) :: _) ps).map (a :: ·) = _
  rw [getS_cons hp]
end
section
variable {T : Tab} {K : PySem.W.Frag} {x qual : Str} {params : Arguments} {body : List Stmt} {scope : Scope} {dvs : List V} {kws : List (Str × V)} {f : Addr} {fd : FuncData} {ps ks : List Str} {p : Str} {n : Nat} {dd : List D}
theorem bindI_of (F : FunD K x qual params body scope dvs kws f fd) (P : PlainA params (p :: ps)) (c : bindC (p :: ps) ks (n + 1) dvs.length = true) (hp : p ∉ ps) (hd : dvs.length ≤ ps.length) (q : ∀ G, Reps T K G dvs dd) : BindI T K fd (p :: ps) n ks (fun ds es => placeF ps ks ds es dd) := by
  obtain ⟨dl, rd, h⟩ := bind_ex F P
  have hdl : dl.length ≤ ps.length := by rw [← rd.length]; exact hd
  refine ⟨fun s u us ws X l1 l2 => ?_⟩
  obtain ⟨vals0, h1, h2⟩ := h ks (n + 1) c s (u :: us) ws X (congrArg Nat.succ l1) l2
  rw [place_cons hp hdl] at h1
  cases h3 : placeF ps ks us ws dl with
  | none => rw [h3] at h1; cases h1
  | some vals =>
    rw [h3] at h1
    cases h1
    refine ⟨vals, h2, fun vs zs r1 r2 => ?_⟩
    rcases place_rel ps ks (allR_vals r1) (allR_vals r2) (allR_vals rd) with ⟨a, b, e1, e2, rr⟩ | ⟨_, e2⟩
    · rw [e2] at h3
      cases h3
      refine ⟨a, vals_allR rr, congrArg Nat.succ (getS_len e1).1, fun G ds es ds' q1 q2 e => ?_⟩
      rcases place_rel ps ks (allR_reps q1) (allR_reps q2) (allR_reps (q G)) with ⟨a', b', e3, e4, rr'⟩ | ⟨_, e4⟩
      · rw [e3] at e1
        cases e1
        rw [e4] at e
        cases e
        exact reps_allR rr'
      · rw [e4] at e
        cases e
    · rw [e2] at h3
      cases h3
end
end Mi
namespace Mi
open PySem PySem.Spec L2
open PyProof.Rows hiding St

mutual
/-- this value of K stands for d -/
def repB (K : PySem.W.Frag) (v : Value) : D → Bool
  | .non => (match v with
    | .none => true
    | _ => false)
  | .bl b => (match v with
    | .bool c => b == c
    | _ => false)
  | .int i => (match v with
    | .int j _ => decide (j = i)
    | _ => false)
  | .str x => (match v with
    | .str y _ => decide (y = x)
    | _ => false)
  | .tup l => (match v with
    | .ref a => (match K.lookup a with
      | some ⟨.type c, none, .seq its _, _⟩ => decide (c = "tuple") && (decide (its.size ≤ sizeLine) && repsB K its.toList l)
      | _ => false)
    | _ => false)
  | .lok l => (match v with
    | .ref a => (match K.lookup a with
      | some ⟨.type c, none, .seq its _, _⟩ => decide (c = "list") && (decide (its.size ≤ sizeLine) && repsB K its.toList l)
      | _ => false)
    | _ => false)
  | _ => false
def repsB (K : PySem.W.Frag) (vs : List Value) : List D → Bool
  | [] => (match vs with
    | [] => true
    | _ => false)
  | d :: ds => (match vs with
    | v :: vs => repB K v d && repsB K vs ds
    | [] => false)
end
mutual
theorem repB_ok {T : Tab} {K : PySem.W.Frag} : ∀ {d : D} {v : Value}, repB K v d = true → ∃ x, RelV x v ∧ ∀ G, Rep T K G x d
  | .non, v, h => by
    unfold repB at h
    split at h
    · exact ⟨.non, rfl, fun _ => .non⟩
    · cases h
  | .bl b, v, h => by
    unfold repB at h
    split at h
    · rename_i c
      obtain rfl : b = c := eq_of_beq h
      exact ⟨.bl b, rfl, fun _ => .bl b⟩
    · cases h
  | .int i, v, h => by
    unfold repB at h
    split at h
    · obtain rfl := of_decide_eq_true h
      exact ⟨.int _, ⟨_, rfl⟩, fun _ => .int _⟩
    · cases h
  | .str x, v, h => by
    unfold repB at h
    split at h
    · obtain rfl := of_decide_eq_true h
      exact ⟨.str _, ⟨_, rfl⟩, fun _ => .str _⟩
    · cases h
  | .tup l, v, h => by
    unfold repB at h
    split at h
    · rename_i a
      split at h
      · rename_i c its n osl hk
        rw [Bool.and_eq_true, Bool.and_eq_true] at h
        obtain ⟨h1, h2, h3⟩ := h
        obtain ⟨xs, r, q⟩ := repsB_ok (T := T) h3
        exact ⟨.ref a, rfl, fun G => .tup (.inr ⟨_, its, n, hk, congrArg Value.type (of_decide_eq_true h1), rfl, rfl, of_decide_eq_true h2, r⟩) (q G)⟩
      · cases h
    · cases h
  | .lok l, v, h => by
    unfold repB at h
    split at h
    · rename_i a
      split at h
      · rename_i c its n osl hk
        rw [Bool.and_eq_true, Bool.and_eq_true] at h
        obtain ⟨h1, h2, h3⟩ := h
        obtain ⟨xs, r, q⟩ := repsB_ok (T := T) h3
        exact ⟨.ref a, rfl, fun G => .lok (.inr ⟨_, its, n, hk, congrArg Value.type (of_decide_eq_true h1), rfl, rfl, of_decide_eq_true h2, r⟩) (q G)⟩
      · cases h
    · cases h
  | .lst _, _, h => by unfold repB at h; cases h
  | .tuq _, _, h => by unfold repB at h; cases h
  | .dic _, _, h => by unfold repB at h; cases h
  | .ins _ _, _, h => by unfold repB at h; cases h
  | .cls _, _, h => by unfold repB at h; cases h
theorem repsB_ok {T : Tab} {K : PySem.W.Frag} : ∀ {ds : List D} {vs : List Value}, repsB K vs ds = true → ∃ xs, Vals xs vs ∧ ∀ G, Reps T K G xs ds
  | [], vs, h => by
    unfold repsB at h
    split at h
    · exact ⟨[], .nil, fun _ => .nil⟩
    · cases h
  | d :: ds, vs, h => by
    unfold repsB at h
    split at h
    · rename_i v ws
      rw [Bool.and_eq_true] at h
      obtain ⟨x, r, q⟩ := repB_ok (T := T) h.1
      obtain ⟨xs, rs, qs⟩ := repsB_ok (T := T) h.2
      exact ⟨x :: xs, .cons r rs, fun G => .cons (q G) (qs G)⟩
    · cases h
end
end Mi
namespace Mi
open PySem PySem.Spec L2
open PyProof.Rows hiding St

/-- where a def stands -/
inductive Wh where
  | glo (x : Str)
  | met (C m : Str)
  | prp (C m : Str)
  | cme (C m : Str)
def firstRec (K : PySem.W.Frag) (p : Addr) (n : String) : Addr := match PySem.W.recIn K p n with
  | some (.ref g :: _) => g
  | _ => 0
def cmAd (K : PySem.W.Frag) (C : Addr) (m : Str) : Addr := match PySem.W.findCls K (.ref C) (.type "type") m with
  | some (.get _ (.ref p) _ _) => p
  | _ => 0
def Wh.ad (K : PySem.W.Frag) : Wh → Addr
  | .glo x => He.ga K x
  | .met C m => He.ma K (He.ga K C) m
  | .prp C m => firstRec K (He.ma K (He.ga K C) m) "property"
  | .cme C m => firstRec K (cmAd K (He.ga K C) m) "classmethod"
/-- a def of the text -/
structure DfE where
  wh : Wh
  name : Str
  qual : Str
  params : Arguments
  body : List Stmt
  scope : Scope
  dd : List D
  N : List Str
  ps : List Str
  ini : Option Nat
abbrev FnT : Type := Option (Str × Str × Arguments × FuncBody × Scope × Addr × List (Str × Addr) × Addr)
def fnAt (K : PySem.W.Frag) (a : Addr) : FnT := match K.lookup a with
  | some ⟨_, _, .func fd, _⟩ => some (fd.name, fd.qualname, fd.params, fd.body, fd.scope, fd.globals, fd.closure, fd.builtins)
  | _ => none
def DfE.val (d : DfE) : FnT := some (d.name, d.qual, d.params, .stmts d.body, d.scope, mainGlobals, [], builtinsNs)
def dflC (K : PySem.W.Frag) (dV : Value) : List D → Bool
  | [] => (match dV with
    | .none => true
    | _ => false)
  | d :: ds => (match dV with
    | .ref T => (match K.lookup T with
      | some ⟨_, _, .seq its _, _⟩ => repsB K its.toList (d :: ds)
      | _ => false)
    | _ => false)
theorem dflC_ok {T : Tab} {K : PySem.W.Frag} {dV : Value} {dd : List D} (h : dflC K dV dd = true) : ∃ dvs, DflV K dV dvs ∧ ∀ G, Reps T K G dvs dd := by
  unfold dflC at h
  split at h
  · split at h
    · exact ⟨[], .inl ⟨rfl, rfl⟩, fun _ => .nil⟩
    · cases h
  · split at h
    · rename_i a
      split at h
      · rename_i oc od its n osl hk
        obtain ⟨xs, r, q⟩ := repsB_ok (T := T) h
        refine ⟨xs, .inr ⟨fun e => ?_, a, _, its.toList, n, rfl, hk, by simp, r⟩, q⟩
        subst e
        cases q (fun _ => none)
      · cases h
    · cases h
def DfE.ok (K : PySem.W.Frag) (d : DfE) : Bool := PySem.W.keepIn K (.ref (d.wh.ad K)) && (match K.lookup (d.wh.ad K) with
  | some ⟨_, _, .func fd, _⟩ => PySem.W.codeIn K fd.code d.qual && dflC K fd.defaults d.dd
  | _ => false)
theorem DfE.funD {T : Tab} {K : PySem.W.Frag} {d : DfE} (e : fnAt K (d.wh.ad K) = d.val) (c : d.ok K = true) : ∃ fd dvs, FunD K d.name d.qual d.params d.body d.scope dvs [] (d.wh.ad K) fd ∧ ∀ G, Reps T K G dvs d.dd := by
  unfold DfE.ok at c
  rw [Bool.and_eq_true] at c
  obtain ⟨kp, c2⟩ := c
  unfold fnAt at e
  split at c2
  · rename_i oc od fd osl hk
    rw [Bool.and_eq_true] at c2
    rw [hk] at e
    obtain ⟨n1, n2, n3, n4, n5, n6, n7, n8, n9, n10, n11, n12, n13, n14, n15⟩ := fd
    have e2 : (some (n1, n2, n3, n4, n5, n6, n7, n15) : FnT) = some (d.name, d.qual, d.params, .stmts d.body, d.scope, mainGlobals, [], builtinsNs) := e
    simp only [Option.some.injEq, Prod.mk.injEq] at e2
    obtain ⟨h1, h2, h3, h4, h5, h6, h7, h8⟩ := e2
    subst h1 h2 h3 h4 h5 h6 h7 h8
    obtain ⟨dvs, q1, q2⟩ := dflC_ok (T := T) c2.2
    exact ⟨_, dvs, ⟨⟨oc, od, n8, n9, n10, n11, n12, n13, n14, osl, rfl, hk, c2.1, q1, .inl rfl⟩, kp⟩, q2⟩
  · cases c2
def strsEq (xs ys : List Str) : Bool := decide (xs = ys)
def plainC (p : Arguments) (ps : List Str) : Bool := p.posonlyargs.isEmpty && (decide (p.args.map (·.arg) = ps) && (p.vararg.isNone && (p.kwonlyargs.isEmpty && p.kwarg.isNone)))
theorem plainC_ok {p : Arguments} {ps : List Str} (h : plainC p ps = true) : PlainA p ps := by
  unfold plainC at h
  simp only [Bool.and_eq_true, List.isEmpty_iff, decide_eq_true_eq, Option.isNone_iff_eq_none] at h
  exact ⟨h.1, h.2.1, h.2.2.1, h.2.2.2.1, h.2.2.2.2⟩
def scopeC (N ps : List Str) (sc : Scope) : Bool := (sc.kind == .function) && (!sc.isCoroutine && (!sc.isGenerator && (decide N.Nodup && (decide (N.take ps.length = ps) && ((ps.all fun x => sc.names.lookup x == some .local || sc.names.lookup x == some .cell) && sc.names.all fun y => !(y.2 == .free))))))
theorem scopeC_ok {N ps : List Str} {sc : Scope} (h : scopeC N ps sc = true) : FnScope N ps sc := by
  unfold scopeC at h
  simp only [Bool.and_eq_true, decide_eq_true_eq, List.all_eq_true, Bool.not_eq_true', Bool.or_eq_true] at h
  obtain ⟨h1, h2, h3, h4, h5, h6, h7⟩ := h
  refine ⟨by simpa using h1, h2, h3, h4, h5, fun x hx => ?_, fun y hy e => ?_⟩
  · rcases h6 x hx with z | z
    · exact .inl (by simpa using z)
    · exact .inr (by simpa using z)
  · have := h7 y hy
    rw [e] at this
    cases this
end Mi
namespace Mi
open PySem PySem.Spec L2
open PyProof.Rows hiding St

/-- a class of the text -/
structure ClE where
  name : Str
  flds : List Str
  init : Option Nat
  mets : List (Str × Nat)
  prps : List (Str × Nat)
  cms : List (Str × Nat)
  duns : List (Str × Nat)
  isi : Bool
structure Tb where
  defs : List DfE
  cls : List ClE
  gfn : List (Str × Nat)
  gcl : List (Str × Nat)
  gv : List (Str × D)
  bl : List Str
  kit : List ((Ty × Ty) × Bool)
  nf : List (Nat × Nat)
  fu : Nat
def Tb.tab (tb : Tb) (K : PySem.W.Frag) : Tab where
  cls := fun c => match tb.cls[c]? with
    | some e => He.ga K e.name
    | none => 0
  fn := fun _ => 0
section
variable {W : Type}
def calF (tb : Tb) (run : Nat → List D → W → Option (D × W)) (i : Nat) (ks : List Str) (n : Nat) : Option (Cal W) := match tb.defs[i]? with
  | some d => if d.ini.isNone = true ∧ bindC d.ps ks n d.dd.length = true then some ⟨n, fun ds es => placeF d.ps ks ds es d.dd, run i⟩ else none
  | none => none
def calI (tb : Tb) (run : Nat → List D → W → Option (D × W)) (c : Nat) (ks : List Str) (n : Nat) : Option (Cal W) := match tb.cls[c]? with
  | some e => (match e.init with
    | some i => (match tb.defs[i]? with
      | some d => (match d.ps with
        | p :: ps => if d.ini = some c ∧ p ∉ ps ∧ d.dd.length ≤ ps.length ∧ bindC (p :: ps) ks (n + 1) d.dd.length = true then some ⟨n, fun ds es => placeF ps ks ds es d.dd, run i⟩ else none
        | [] => none)
      | none => none)
    | none => none)
  | none => none
def inCl (tb : Tb) (g : ClE → List (Str × Nat)) (c : Nat) (nm : Str) : Option Nat := match tb.cls[c]? with
  | some e => (g e).lookup nm
  | none => none
def calM (tb : Tb) (run : Nat → List D → W → Option (D × W)) (g : ClE → List (Str × Nat)) (c : Nat) (nm : Str) (ks : List Str) (n : Nat) : Option (Cal W) := match inCl tb g c nm with
  | some i => calF tb run i ks n
  | none => none
def hasF (tb : Tb) (nm : Str) : List Nat := (List.range tb.cls.length).filter fun c => match tb.cls[c]? with
  | some e => e.flds.contains nm
  | none => false
def cvOf (tb : Tb) (run : Nat → List D → W → Option (D × W)) (N : List Str) : Ctv W where
  N := N
  ow := fun _ => true
  gv := fun x => tb.gv.lookup x
  cl := fun x => tb.gcl.lookup x
  fn := fun x ks n => match tb.gfn.lookup x with
    | some i => calF tb run i ks n
    | none => (match tb.gcl.lookup x with
      | some c => calI tb run c ks n
      | none => none)
  mt := fun nm ks n c => calM tb run ClE.mets c nm ks (n + 1)
  pt := fun nm c => calM tb run ClE.prps c nm [] 1
  fc := hasF tb
  cm := fun c nm ks n => calM tb run ClE.cms c nm ks (n + 1)
  mke := fun c ks n => calI tb run c ks n
  st := fun c => calM tb run ClE.duns c "__str__" [] 1
  eq := fun c => calM tb run ClE.duns c "__eq__" [] 2
  co := fun ks n c => calM tb run ClE.duns c "__call__" ks (n + 1)
  nf := fun c e => tb.nf.contains (c, e)
  kt := fun a b => (tb.kit.find? fun q => decide (q.1 = (a, b))).map (·.2)
  ic := fun c => match tb.cls[c]? with
    | some e => e.isi
    | none => false
  bl := fun x => tb.bl.contains x
  fu := tb.fu
/-- the depth of the text's expressions and blocks -/
def deep : Nat := 60
def runB (tb : Tb) (run : Nat → List D → W → Option (D × W)) (d : DfE) : Sm W := (cvs (cvOf tb run d.N) deep).B d.scope d.body
def runD (tb : Tb) (run : Nat → List D → W → Option (D × W)) (d : DfE) : List D → W → Option (D × W) := match d.ini with
  | none => runF d.N.length (runB tb run d)
  | some c => runI d.N.length c (runB tb run d)
def run (tb : Tb) : Nat → Nat → List D → W → Option (D × W)
  | 0, _ => fun _ _ => none
  | n + 1, i => (match tb.defs[i]? with
    | some d => runD tb (run tb n) d
    | none => fun _ _ => none)
end
/-- what a def promises -/
def spD {W : Type} (T : Tab) (K : PySem.W.Frag) (R : WR W) (d : DfE) (φ : List D → W → Option (D × W)) : Sp := match d.ini with
  | none => spF T K R φ d.ps.length
  | some c => spI T K R φ c d.ps.length
/-- levels -/
def lev (n : Nat) : Nat := 3 * n
/-- the contexts of a level -/
def gx (P : Program) (w : World) (K : PySem.W.Frag) (mg : Str → Option Value) (base : Heap) (k : Nat) (X : Cx) : Prop := X.prog = P ∧ X.w = w ∧ X.K = K ∧ X.mg = mg ∧ X.base = base ∧ Room k X.A ∧ X.calm = true
section
variable {W : Type} {P : Program} {w : World} {K : PySem.W.Frag} {mg : Str → Option Value} {base : Heap} {T : Tab} {R : WR W} {tb : Tb}
/-- a def is known at this level -/
def DefOk (P : Program) (w : World) (K : PySem.W.Frag) (mg : Str → Option Value) (base : Heap) (T : Tab) (R : WR W) (d : DfE) (k : Nat) (φ : List D → W → Option (D × W)) : Prop :=
  ∃ fd dvs, FunD K d.name d.qual d.params d.body d.scope dvs [] (d.wh.ad K) fd ∧ (∀ G, Reps T K G dvs d.dd) ∧ PlainA d.params d.ps ∧ FnOk P w K mg base CX0 k (d.wh.ad K) fd d.ps (spD T K R d φ)
def stC (d : DfE) : Bool := plainC d.params d.ps && (scopeC d.N d.ps d.scope && (d.ini.isNone || decide (0 < d.ps.length)))
theorem def_zero {d : DfE} (e : fnAt K (d.wh.ad K) = d.val) (c : d.ok K = true) (s : stC d = true) (k : Nat) : DefOk P w K mg base T R d k (fun _ _ => none) := by
  obtain ⟨fd, dvs, F, q⟩ := DfE.funD (T := T) e c
  unfold stC at s
  rw [Bool.and_eq_true, Bool.and_eq_true] at s
  have no : ∀ vs H Q E, spD (W := W) T K R d (fun _ _ => none) vs H Q E → False := fun vs H Q E h => by
    unfold spD at h
    cases hi : d.ini with
    | none =>
      rw [hi] at h
      obtain ⟨_, G, w0, fp, ds, _, _, _, _, d', w', z, _⟩ := h
      cases z
    | some c =>
      rw [hi] at h
      obtain ⟨_, x, dx, ws, _, _, G, w0, fp, ds, _, _, _, _, _, _, fs, w', z, _⟩ := h
      cases z
  exact ⟨fd, dvs, F, q, plainC_ok s.1, ⟨fun vs H Q E h => (no vs H Q E h).elim, fun A outer st H args us vs Q E hr e0 hb rv h => (no vs H Q E h).elim⟩⟩
/-- in a context that no exception leaves -/
theorem pss_nox {X : Cx} {b : List Stmt} {t : TS} (h : PSs X.nox b t) : PSs X b t := ⟨fun pins s σ H D I q => wpAny_mono (h.run pins s σ H D (I.wish _) q) (fun f s1 z => z.unwish) fun e s1 z => z.elim⟩
theorem def_step {d : DfE} {k : Nat} {rn : Nat → List D → W → Option (D × W)} (e : fnAt K (d.wh.ad K) = d.val) (c : d.ok K = true) (s : stC d = true) (co : CtxOk T R (cvOf tb rn d.N) (gx P w K mg base (k + 2)) k) : DefOk P w K mg base T R d (k + 3) (runD tb rn d) := by
  obtain ⟨fd, dvs, F, q⟩ := DfE.funD (T := T) e c
  unfold stC at s
  rw [Bool.and_eq_true, Bool.and_eq_true] at s
  have sc := scopeC_ok s.2.1
  have hb : ∀ (cdv : Value) (A : Around) (outer : List Env) (st : Shared) (H : Hp) (E : XK), Room (k + 2) (A.deeper (envOfC d.qual d.scope st.heap.objs.size (d.wh.ad K) cdv)) → PSs (cxOf CX0 P w K mg base d.N d.qual d.scope (d.wh.ad K) cdv A outer st H E) d.body (tS T K R (runB tb rn d)) := fun cdv A outer st H E hr => by
    have g : gx P w K mg base (k + 2) (cxOf CX0 P w K mg base d.N d.qual d.scope (d.wh.ad K) cdv A outer st H E) := ⟨rfl, rfl, rfl, rfl, rfl, hr, rfl⟩
    refine pss_nox ((cvs_ok co deep).B d.body ⟨?_, rfl, sc.nd, rfl, sc.kind, fun _ _ z => z⟩ fun _ => rfl)
    exact g
  refine ⟨fd, dvs, F, q, plainC_ok s.1, ?_⟩
  unfold spD runD
  cases hi : d.ini with
  | none => exact fn_ok F sc hb
  | some c =>
    refine init_ok F sc ?_ hb
    have h3 := s.2.2
    rw [hi] at h3
    simpa using h3
end
end Mi
namespace Mi
open PySem PySem.Spec L2
open PyProof.Rows hiding St

section
variable {W : Type} {P : Program} {w : World} {K : PySem.W.Frag} {mg : Str → Option Value} {base : Heap} {T : Tab} {R : WR W} {tb : Tb} {rn : Nat → List D → W → Option (D × W)} {k i c n : Nat} {ks : List Str} {cd : Cal W} {X : Cx}
/-- all defs are known at this level -/
def AllOk (P : Program) (w : World) (K : PySem.W.Frag) (mg : Str → Option Value) (base : Heap) (T : Tab) (R : WR W) (tb : Tb) (k : Nat) (rn : Nat → List D → W → Option (D × W)) : Prop := ∀ i d, tb.defs[i]? = some d → DefOk P w K mg base T R d k (rn i)
theorem calF_ok (al : AllOk P w K mg base T R tb k rn) (h : calF tb rn i ks n = some cd) : ∃ d fd, tb.defs[i]? = some d ∧ cd.n = n ∧ PySem.W.keepIn K (.ref (d.wh.ad K)) = true ∧ BindF T K fd d.ps n ks cd.pl ∧ FnOk P w K mg base CX0 k (d.wh.ad K) fd d.ps (spF T K R cd.fn d.ps.length) := by
  unfold calF at h
  split at h
  · rename_i d hd
    split at h
    · rename_i hc
      cases h
      obtain ⟨fd, dvs, F, q, pa, fo⟩ := al i d hd
      refine ⟨d, fd, hd, rfl, F.kp, bindF_of F pa (by rw [(q (fun _ => none)).length]; exact hc.2) q, ?_⟩
      unfold spD at fo
      rw [Option.isNone_iff_eq_none.mp hc.1] at fo
      exact fo
    · cases h
  · cases h
theorem calI_ok (al : AllOk P w K mg base T R tb k rn) (h : calI tb rn c ks n = some cd) : ∃ e j d fd, tb.cls[c]? = some e ∧ e.init = some j ∧ tb.defs[j]? = some d ∧ cd.n = n ∧ cd.fn = rn j ∧ d.ini = some c ∧ BindI T K fd d.ps n ks cd.pl ∧ FnOk P w K mg base CX0 k (d.wh.ad K) fd d.ps (spI T K R cd.fn c d.ps.length) := by
  unfold calI at h
  split at h
  · rename_i e he
    split at h
    · rename_i j hj
      split at h
      · rename_i d hd
        split at h
        · rename_i p ps hp
          split at h
          · rename_i hc
            obtain ⟨c1, c2, c3, c4⟩ := hc
            cases h
            obtain ⟨fd, dvs, F, q, pa, fo⟩ := al j d hd
            have ql := (q (fun _ => none)).length
            refine ⟨e, j, d, fd, he, hj, hd, rfl, rfl, c1, ?_, ?_⟩
            · rw [hp] at pa ⊢
              exact bindI_of F pa (by rw [ql]; exact c4) c2 (by rw [ql]; exact c3) q
            · unfold spD at fo
              rw [c1] at fo
              exact fo
          · cases h
        · cases h
      · cases h
    · cases h
  · cases h
/-- as calls -/
theorem calF_v (al : AllOk P w K mg base T R tb k rn) (g : gx P w K mg base (k + 2) X) (h : calF tb rn i ks n = some cd) : ∃ d, tb.defs[i]? = some d ∧ cd.n = n ∧ PySem.W.keepIn X.K (.ref (d.wh.ad X.K)) = true ∧ CalV X (.ref (d.wh.ad X.K)) cd.n ks (rCal T X.K R cd.pl cd.fn) ∧ CalA X k (.ref (d.wh.ad X.K)) cd.n ks (rCal T X.K R cd.pl cd.fn) := by
  obtain ⟨rfl, rfl, rfl, rfl, rfl, hr, _⟩ := g
  obtain ⟨d, fd, hd, hn, kp, b, fo⟩ := calF_ok al h
  subst hn
  exact ⟨d, hd, rfl, kp, cal_fn fo (hr.mono (Nat.le_add_right _ _)) b, cal_fnA fo b⟩
theorem calI_v (al : AllOk P w K mg base T R tb k rn) (g : gx P w K mg base (k + 2) X) (h : calI tb rn c ks n = some cd) (hmk : ∀ e, tb.cls[c]? = some e → ∀ j d, e.init = some j → tb.defs[j]? = some d → Mk K (T.cls c) (d.wh.ad K)) (hrun : ∀ j d, tb.defs[j]? = some d → d.ini = some c → ∀ ds w0 r w', rn j ds w0 = some (r, w') → ∃ fs, r = .ins c fs) :
    PySem.W.keepIn X.K (.ref (T.cls c)) = true ∧ CalV X (.ref (T.cls c)) cd.n ks (rCal T X.K R cd.pl cd.fn) := by
  obtain ⟨rfl, rfl, rfl, rfl, rfl, hr, _⟩ := g
  obtain ⟨e, j, d, fd, he, hj, hd, hn, hf, hi, b, fo⟩ := calI_ok al h
  subst hn
  have M := hmk e he j d hj hd
  refine ⟨M.kp, cal_init M fo (hr.mono (by omega)) b ?_⟩
  rw [hf]
  exact hrun j d hd hi
end
end Mi
namespace Mi
open PySem PySem.Spec L2
open PyProof.Rows hiding St

theorem getS_zip {α : Type} : ∀ {ps : List Str} {us : List α}, ps.Nodup → us.length = ps.length → getS (ps.zip us) ps = some us
  | [], [], _, _ => rfl
  | p :: ps, u :: us, nd, hl => by
    obtain ⟨h1, h2⟩ := List.nodup_cons.mp nd
    show (match List.lookup p ((p, u) :: ps.zip us) with | some v => (getS ((p, u) :: ps.zip us) ps).map (v :: ·) | none => none) = _
    rw [List.lookup_cons, beq_self_eq_true]
    show (getS ((p, u) :: ps.zip us) ps).map (u :: ·) = _
    rw [getS_cons h1, getS_zip h2 (Nat.succ.inj hl)]
    rfl
theorem place_plain {α : Type} {ps : List Str} {us : List α} (nd : ps.Nodup) (hl : us.length = ps.length) : placeF ps [] us [] [] = some us := by
  unfold placeF slotsF
  rw [List.zip_nil_right, List.zip_nil_right, List.append_nil]
  exact getS_zip nd hl
section
variable {W : Type} {P : Program} {w : World} {K : PySem.W.Frag} {mg : Str → Option Value} {base : Heap} {T : Tab} {R : WR W} {tb : Tb} {rn : Nat → List D → W → Option (D × W)} {k i c n : Nat} {ks : List Str} {cd : Cal W} {X : Cx}
/-- a getter, called by the machine -/
theorem prop_run {d : DfE} {p C : Addr} {f : Str} {φ : List D → W → Option (D × W)} (de : DefOk P w K mg base T R d k φ) (hi : d.ini = none) (hd0 : d.dd = []) (h1 : d.ps.length = 1) (g : gx P w K mg base (k + 2) X) (cl : Cls K (T.cls c)) (po : PropOf K (T.cls c) f p (d.wh.ad K))
    {pins : List (Addr × Obj)} {s : Shared} {σ : L2.St} {H : Hp} {a : Addr} {Q : VK} {E' : Value → Shared → Prop} {dx : Addr} {vs : List (Str × V)} (I : Inv X pins σ H s) (ha : H a = some (.ins (T.cls c) dx vs)) (h : rCal T X.K R (fun ds _ => placeF d.ps [] ds [] d.dd) φ [.ref a] [] H Q) :
    wpAny (model X.prog X.w) X.A (getAttr (.ref a) f true) (EP X pins σ Q) E' s := by
  obtain ⟨rfl, rfl, rfl, rfl, rfl, hr, _⟩ := g
  obtain ⟨fd, dvs, F, q, pa, fo⟩ := de
  rw [hd0] at q h
  have hdv : dvs = [] := by
    have := (q (fun _ => none)).length
    exact List.length_eq_zero_iff.mp this
  subst hdv
  have nd : d.ps.Nodup := by
    match hp : d.ps, h1 with
    | [x], _ => simp
  have bc : bindC d.ps [] 1 0 = true := by
    match hp : d.ps, h1 with
    | [x], _ => simp [bindC, placeF, slotsF, getS, List.lookup_cons]
  obtain ⟨dl, rd, hb⟩ := bind_ex F pa
  cases rd
  have hB : Binds X.K fd d.ps [] := fun s us X l => by
    rw [List.append_nil] at l
    obtain ⟨vals, e1, e2⟩ := hb [] 1 bc s us [] X (l.trans h1) rfl
    rw [place_plain nd l] at e1
    cases e1
    rw [List.append_nil]
    exact e2
  unfold spD at fo
  rw [hi] at fo
  obtain ⟨σ', hd, st, fp, ds, es, d', w', q0, r1, r2, ⟨ds', e1, e2⟩, kk⟩ := h
  have l1 : ds.length = d.ps.length := by rw [← r1.length, h1]; rfl
  have e3 := e1
  dsimp only at e3
  rw [place_plain nd l1] at e3
  cases e3
  exact getprop_ok I ha cl po fo (hr.mono (by omega)) hB .nil pass0 (call_sp q0 (by rw [h1]; rfl) r1 e2 kk)
end
end Mi
namespace Mi
open PySem PySem.Spec L2
open PyProof.Rows hiding St

def eqV (a b : Option (Option Value)) : Bool := decide (a = b)
def dAd (tb : Tb) (K : PySem.W.Frag) (i : Nat) : Addr := match tb.defs[i]? with
  | some d => d.wh.ad K
  | none => 0
/-- C's name nm is the def i -/
def findC (tb : Tb) (K : PySem.W.Frag) (C : Addr) (nm : Str) (i : Nat) : Bool := eqV (PySem.W.findIn K (.ref C) nm) (some (some (.ref (dAd tb K i)))) && PySem.W.isFn K (.ref (dAd tb K i))
def oneArg (tb : Tb) (i : Nat) : Bool := match tb.defs[i]? with
  | some d => d.dd.isEmpty && decide (d.ps.length = 1)
  | none => false
def propC (tb : Tb) (K : PySem.W.Frag) (C : Addr) (nm : Str) (i : Nat) : Bool := oneArg tb i && (eqV (PySem.W.findIn K (.ref C) nm) (some (some (.ref (He.ma K C nm)))) && (eqV (PySem.W.specialIn K (.ref (He.ma K C nm)) "__get__") (some (some (.builtin "property.__get__"))) && (decide (PySem.W.takesIn K (.ref (He.ma K C nm)) = some true) &&
  (match PySem.W.recIn K (He.ma K C nm) "property" with
  | some (.ref g :: _) => decide (g = dAd tb K i)
  | _ => false))))
def cmC (tb : Tb) (K : PySem.W.Frag) (C : Addr) (nm : Str) (i : Nat) : Bool := (match PySem.W.findCls K (.ref C) (.type "type") nm with
  | some (.get (.builtin b) (.ref p) .none (.ref e)) => decide (b = "classmethod.__get__") && (decide (e = C) && (match PySem.W.recIn K p "classmethod" with
    | some (.ref g :: _) => decide (g = dAd tb K i)
    | _ => false))
  | _ => false) && PySem.W.fnIn K (dAd tb K i)
def clC (tb : Tb) (K : PySem.W.Frag) (e : ClE) : Bool :=
  (He.Fa.cls e.name).ok K && ((e.flds.all fun f => (He.Fa.noat e.name f).ok K) && ((e.mets.all fun q => findC tb K (He.ga K e.name) q.1 q.2 && PySem.W.keepIn K (.ref (dAd tb K q.2))) &&
  ((e.duns.all fun q => findC tb K (He.ga K e.name) q.1 q.2 && PySem.W.fnIn K (dAd tb K q.2)) && ((e.prps.all fun q => propC tb K (He.ga K e.name) q.1 q.2) &&
  ((e.cms.isEmpty || (PySem.W.readsIn K (He.ga K e.name) (.type "type") && eqV (PySem.W.specialIn K (.ref (He.ga K e.name)) "__getattribute__") (some (some (.builtin "type.__getattribute__"))))) && ((e.cms.all fun q => cmC tb K (He.ga K e.name) q.1 q.2) &&
  ((match e.init with
    | some i => PySem.W.makesIn K (He.ga K e.name) && (findC tb K (He.ga K e.name) "__init__" i && PySem.W.keepIn K (.ref (He.ga K e.name)))
    | none => true) &&
  (!e.isi || (eqV (PySem.W.findIn K (.ref (He.ga K e.name)) "__class__") (some (some (.builtin "object.__class__"))) && decide (PySem.W.mroIn K (He.ga K e.name) (.type "object") = some true))))))))))
def tbC (tb : Tb) (K : PySem.W.Frag) : Bool :=
  (tb.gfn.all fun q => (He.Fa.glo q.1).ok K && (decide (dAd tb K q.2 = He.ga K q.1) && decide (q.2 < tb.defs.length))) &&
  ((tb.gcl.all fun q => (He.Fa.glo q.1).ok K && (match tb.cls[q.2]? with
    | some e => decide (e.name = q.1)
    | none => false)) &&
  ((tb.gv.all fun q => (match PySem.W.nsIn K mainGlobals q.1 with
    | some (some v) => repB K v q.2
    | _ => false)) &&
  ((tb.bl.all fun x => (He.Fa.free x).ok K) && ((tb.cls.all fun e => clC tb K e) &&
  ((tb.kit.all fun q => decide (PySem.W.kitOne K (tyV' (tb.tab K) q.1.1) (tyV' (tb.tab K) q.1.2) = some q.2)) &&
  ((tb.nf.all fun q => PySem.W.notFirst K ((tb.tab K).cls q.1) (.ref ((tb.tab K).cls q.2))) &&
  (eqV (PySem.W.specialIn K (.builtin "object.__class__") "__get__") (some (some (.builtin "getset_descriptor.__get__"))) && decide (PySem.W.takesIn K (.builtin "object.__class__") = some true))))))))
end Mi
namespace Mi
open PySem PySem.Spec L2
open PyProof.Rows hiding St

theorem lookup_mem {α β : Type} [BEq α] [LawfulBEq α] {x : α} {v : β} : ∀ {l : List (α × β)}, l.lookup x = some v → (x, v) ∈ l
  | [], h => by cases h
  | (y, u) :: l, h => by
    rw [List.lookup_cons] at h
    cases e : x == y with
    | true =>
      rw [e] at h
      cases h
      rw [eq_of_beq e]
      exact List.mem_cons_self ..
    | false =>
      rw [e] at h
      exact List.mem_cons_of_mem _ (lookup_mem h)
theorem eqV_ok {a b : Option (Option Value)} (h : eqV a b = true) : a = b := of_decide_eq_true h
section
variable {W : Type} {P : Program} {w : World} {K : PySem.W.Frag} {mg : Str → Option Value} {base : Heap} {R : WR W} {tb : Tb} {rn : Nat → List D → W → Option (D × W)} {k i c n : Nat} {ks : List Str} {cd : Cal W} {X : Cx} {N : List Str}
structure Facts (tb : Tb) (K : PySem.W.Frag) : Prop where
  gfn : ∀ x i, tb.gfn.lookup x = some i → (He.Fa.glo x).ok K = true ∧ dAd tb K i = He.ga K x
  gcl : ∀ x c, tb.gcl.lookup x = some c → (He.Fa.glo x).ok K = true ∧ (tb.tab K).cls c = He.ga K x
  gv : ∀ x d, tb.gv.lookup x = some d → ∃ v, PySem.W.nsIn K mainGlobals x = some (some v) ∧ repB K v d = true
  bl : ∀ x, tb.bl.contains x = true → (He.Fa.free x).ok K = true
  cls : ∀ (c : Nat) (e : ClE), tb.cls[c]? = some e → clC tb K e = true
  kit : ∀ a b r, (tb.kit.find? fun q => decide (q.1 = (a, b))).map (·.2) = some r → PySem.W.kitOne K (tyV' (tb.tab K) a) (tyV' (tb.tab K) b) = some r
  nf : ∀ (c e : Nat), tb.nf.contains (c, e) = true → PySem.W.notFirst K ((tb.tab K).cls c) (.ref ((tb.tab K).cls e)) = true
  get : PySem.W.specialIn K (.builtin "object.__class__") "__get__" = some (some (.builtin "getset_descriptor.__get__"))
  takes : PySem.W.takesIn K (.builtin "object.__class__") = some true
theorem facts_of (h : tbC tb K = true) : Facts tb K := by
  unfold tbC at h
  simp only [Bool.and_eq_true, List.all_eq_true] at h
  obtain ⟨h1, h2, h3, h4, h5, h6, h7, h8, h9⟩ := h
  refine ⟨fun x i e => ?_, fun x c e => ?_, fun x d e => ?_, fun x e => h4 x (List.contains_iff_mem.mp e), fun c e he => h5 e (List.mem_of_getElem? he), fun a b r e => ?_, fun c e he => h7 _ (List.contains_iff_mem.mp he), eqV_ok h8, of_decide_eq_true h9⟩
  · obtain ⟨a, b, _⟩ := h1 _ (lookup_mem e)
    exact ⟨a, of_decide_eq_true b⟩
  · obtain ⟨a, b⟩ := h2 _ (lookup_mem e)
    refine ⟨a, ?_⟩
    dsimp only at b
    split at b
    · rename_i e0 he
      show (match tb.cls[c]? with | some e => He.ga K e.name | none => 0) = _
      rw [he]
      exact congrArg (He.ga K) (of_decide_eq_true b)
    · cases b
  · have b := h3 _ (lookup_mem e)
    dsimp only at b
    split at b
    · rename_i v hv
      exact ⟨v, hv, b⟩
    · cases b
  · obtain ⟨q, hq, rfl⟩ := Option.map_eq_some_iff.mp e
    have h0 := of_decide_eq_true (h6 q (List.mem_of_find?_eq_some hq))
    have e1 := List.find?_some (p := fun q : (Ty × Ty) × Bool => decide (q.1 = (a, b))) hq
    have e0 : q.1 = (a, b) := of_decide_eq_true e1
    rw [e0] at h0
    exact h0
end
end Mi
namespace Mi
open PySem PySem.Spec L2
open PyProof.Rows hiding St

section
variable {W : Type} {P : Program} {w : World} {K : PySem.W.Frag} {mg : Str → Option Value} {base : Heap} {R : WR W} {tb : Tb} {rn : Nat → List D → W → Option (D × W)} {k i c n : Nat} {ks : List Str} {cd : Cal W} {X : Cx} {N : List Str} {g0 : ClE → List (Str × Nat)} {nm : Str}
theorem dAd_of {d : DfE} (h : tb.defs[i]? = some d) : dAd tb K i = d.wh.ad K := by
  unfold dAd
  rw [h]
theorem tab_of {e : ClE} (h : tb.cls[c]? = some e) : (tb.tab K).cls c = He.ga K e.name := by
  show (match tb.cls[c]? with | some e => He.ga K e.name | none => 0) = _
  rw [h]
theorem calM_ok (h : calM tb rn g0 c nm ks n = some cd) : ∃ e i, tb.cls[c]? = some e ∧ (nm, i) ∈ g0 e ∧ calF tb rn i ks n = some cd := by
  unfold calM inCl at h
  split at h
  · rename_i i hi
    split at hi
    · rename_i e he
      exact ⟨e, i, he, lookup_mem hi, h⟩
    · cases hi
  · cases h
theorem clC_ok {e : ClE} (h : clC tb K e = true) : (He.Fa.cls e.name).ok K = true ∧ (∀ f ∈ e.flds, (He.Fa.noat e.name f).ok K = true) ∧ (∀ q ∈ e.mets, findC tb K (He.ga K e.name) q.1 q.2 = true ∧ PySem.W.keepIn K (.ref (dAd tb K q.2)) = true) ∧
    (∀ q ∈ e.duns, findC tb K (He.ga K e.name) q.1 q.2 = true ∧ PySem.W.fnIn K (dAd tb K q.2) = true) ∧ (∀ q ∈ e.prps, propC tb K (He.ga K e.name) q.1 q.2 = true) ∧
    (e.cms.isEmpty = true ∨ PySem.W.readsIn K (He.ga K e.name) (.type "type") = true ∧ eqV (PySem.W.specialIn K (.ref (He.ga K e.name)) "__getattribute__") (some (some (.builtin "type.__getattribute__"))) = true) ∧ (∀ q ∈ e.cms, cmC tb K (He.ga K e.name) q.1 q.2 = true) ∧
    (∀ i, e.init = some i → PySem.W.makesIn K (He.ga K e.name) = true ∧ findC tb K (He.ga K e.name) "__init__" i = true ∧ PySem.W.keepIn K (.ref (He.ga K e.name)) = true) ∧
    (e.isi = true → PySem.W.findIn K (.ref (He.ga K e.name)) "__class__" = some (some (.builtin "object.__class__")) ∧ PySem.W.mroIn K (He.ga K e.name) (.type "object") = some true) := by
  unfold clC at h
  simp only [Bool.and_eq_true, List.all_eq_true, Bool.or_eq_true, Bool.not_eq_true'] at h
  obtain ⟨h1, h2, h3, h4, h5, h6, h7, h8, h9⟩ := h
  refine ⟨h1, h2, h3, h4, h5, h6, h7, fun i hi => ?_, fun hi => ?_⟩
  · rw [hi] at h8
    simpa using h8
  · rcases h9 with z | z
    · rw [hi] at z; cases z
    · exact ⟨eqV_ok z.1, of_decide_eq_true z.2⟩
theorem findC_ok {C : Addr} {d : DfE} (hd : tb.defs[i]? = some d) (h : findC tb K C nm i = true) : PySem.W.findIn K (.ref C) nm = some (some (.ref (d.wh.ad K))) ∧ PySem.W.isFn K (.ref (d.wh.ad K)) = true := by
  unfold findC at h
  rw [Bool.and_eq_true, dAd_of hd] at h
  exact ⟨eqV_ok h.1, h.2⟩
end
end Mi
namespace Mi
open PySem PySem.Spec L2
open PyProof.Rows hiding St

section
variable {W : Type} {P : Program} {w : World} {K : PySem.W.Frag} {mg : Str → Option Value} {base : Heap} {R : WR W} {tb : Tb} {rn : Nat → List D → W → Option (D × W)} {k : Nat} {N : List Str}
theorem mk_of (f : Facts tb K) {c : Nat} : ∀ e, tb.cls[c]? = some e → ∀ j d, e.init = some j → tb.defs[j]? = some d → Mk K ((tb.tab K).cls c) (d.wh.ad K) := fun e he j d hj hd => by
  obtain ⟨_, _, _, _, _, _, _, h8, _⟩ := clC_ok (f.cls c e he)
  obtain ⟨m1, m2, m3⟩ := h8 j hj
  obtain ⟨m4, m5⟩ := findC_ok hd m2
  rw [tab_of he]
  exact ⟨m1, m4, m5, m3⟩
theorem dun_of {X : Cx} (f : Facts tb K) (al : AllOk P w K mg base (tb.tab K) R tb k rn) (g : gx P w K mg base (k + 2) X) {c n : Nat} {nm : Str} {ks : List Str} {cd : Cal W} (h : calM tb rn ClE.duns c nm ks n = some cd) :
    ∃ fm, PySem.W.findIn X.K (.ref ((tb.tab X.K).cls c)) nm = some (some (.ref fm)) ∧ PySem.W.isFn X.K (.ref fm) = true ∧ PySem.W.fnIn X.K fm = true ∧ CalA X k (.ref fm) cd.n ks (rCal (tb.tab X.K) X.K R cd.pl cd.fn) := by
  obtain ⟨e, i, he, hm, hc⟩ := calM_ok h
  have g' := g
  obtain ⟨rfl, rfl, rfl, rfl, rfl, hr, _⟩ := g
  obtain ⟨d, hd, hn, kp, _, cal⟩ := calF_v al g' hc
  obtain ⟨_, _, _, h4, _⟩ := clC_ok (f.cls c e he)
  obtain ⟨m1, m2⟩ := h4 _ hm
  obtain ⟨m3, m4⟩ := findC_ok hd m1
  rw [tab_of he]
  exact ⟨_, m3, m4, by rw [← dAd_of hd]; exact m2, cal⟩
theorem cm_of {C : Addr} {nm : Str} {i : Nat} (h : cmC tb K C nm i = true) : ∃ p, ClX.CMet K C (.type "type") nm p (dAd tb K i) := by
  unfold cmC at h
  rw [Bool.and_eq_true] at h
  obtain ⟨h1, h2⟩ := h
  split at h1
  · rename_i b p e hf
    rw [Bool.and_eq_true, Bool.and_eq_true] at h1
    obtain ⟨h3, h4, h5⟩ := h1
    obtain rfl := of_decide_eq_true h3
    obtain rfl := of_decide_eq_true h4
    split at h5
    · rename_i g rest hr
      obtain rfl := of_decide_eq_true h5
      exact ⟨p, hf, ⟨rest, hr⟩, h2⟩
    · cases h5
  · cases h1
theorem prop_of {C : Addr} {nm : Str} {i : Nat} {d : DfE} (hd : tb.defs[i]? = some d) (h : propC tb K C nm i = true) : d.dd = [] ∧ d.ps.length = 1 ∧ PropOf K C nm (He.ma K C nm) (d.wh.ad K) := by
  unfold propC oneArg at h
  rw [hd] at h
  simp only [Bool.and_eq_true, decide_eq_true_eq, List.isEmpty_iff] at h
  obtain ⟨⟨h1, h2⟩, h3, h4, h5, h6⟩ := h
  refine ⟨h1, h2, eqV_ok h3, eqV_ok h4, h5, ?_⟩
  split at h6
  · rename_i g rest hr
    have h7 := of_decide_eq_true h6
    rw [dAd_of hd] at h7
    subst h7
    exact ⟨rest, hr⟩
  · cases h6
theorem ctx_ok (KX : K.In base) (G : base.Ns mainGlobals mg) (f : Facts tb K) (al : AllOk P w K mg base (tb.tab K) R tb k rn) (hri : ∀ j d c, tb.defs[j]? = some d → d.ini = some c → ∀ ds w0 r w', rn j ds w0 = some (r, w') → ∃ fs, r = .ins c fs) :
    CtxOk (tb.tab K) R (cvOf tb rn N) (gx P w K mg base (k + 2)) k where
  blk X s H scope ce fp h := h
  room X h := h.2.2.2.2.2.1
  calm X h := h.2.2.2.2.2.2
  gv X x d h e := by
    obtain ⟨rfl, rfl, rfl, rfl, rfl, hr, _⟩ := h
    obtain ⟨v, hv, hb⟩ := f.gv x d e
    obtain ⟨y, ry, q⟩ := repB_ok (T := tb.tab X.K) hb
    exact ⟨y, v, PySem.W.mg_of KX G hv, ry, q⟩
  cl X x c h e := by
    obtain ⟨rfl, rfl, rfl, rfl, rfl, hr, _⟩ := h
    obtain ⟨h1, h2⟩ := f.gcl x c e
    rw [h2]
    exact He.glo_ok KX G h1
  fn X x ks n cd h e := by
    have g := h
    obtain ⟨rfl, rfl, rfl, rfl, rfl, hr, _⟩ := h
    dsimp only [cvOf] at e
    split at e
    · rename_i i hi
      obtain ⟨h1, h2⟩ := f.gfn x i hi
      obtain ⟨d, hd, hn, kp, cal, _⟩ := calF_v al g e
      refine ⟨_, He.glo_ok KX G h1, ?_, ?_⟩
      · rw [← h2, dAd_of hd]; exact kp
      · rw [← h2, dAd_of hd]; exact cal
    · split at e
      · rename_i c hc
        obtain ⟨h1, h2⟩ := f.gcl x c hc
        obtain ⟨z1, z2⟩ := calI_v al g e (mk_of f) fun j d hd hi => hri j d c hd hi
        rw [h2] at z1 z2
        exact ⟨_, He.glo_ok KX G h1, z1, z2⟩
      · cases e
  mt X nm ks n h := fun c cd e => by
    obtain ⟨ee, i, he, hm, hc⟩ := calM_ok e
    have g' := h
    obtain ⟨rfl, rfl, rfl, rfl, rfl, hr, _⟩ := h
    obtain ⟨d, hd, hn, kp, cal, _⟩ := calF_v al g' hc
    obtain ⟨h1, _, h3, _⟩ := clC_ok (f.cls c ee he)
    obtain ⟨m1, m2⟩ := findC_ok hd (h3 _ hm).1
    rw [tab_of he]
    exact ⟨_, He.cls_ok h1, ⟨m1, m2, kp⟩, cal⟩
  at_ X nm h := by
    have g' := h
    refine ⟨fun c hc => ?_, fun c cd e => ?_⟩
    · have hc : c ∈ hasF tb nm := hc
      obtain ⟨rfl, rfl, rfl, rfl, rfl, hr, _⟩ := h
      unfold hasF at hc
      have h2 := (List.mem_filter.mp hc).2
      split at h2
      · rename_i ee he
        obtain ⟨h1, hf, _⟩ := clC_ok (f.cls c ee he)
        rw [tab_of he]
        exact ⟨He.cls_ok h1, He.noat_ok (hf nm (List.contains_iff_mem.mp h2))⟩
      · cases h2
    · obtain ⟨ee, i, he, hm, hc⟩ := calM_ok e
      obtain ⟨h1, _, _, _, h5, _⟩ := clC_ok (f.cls c ee he)
      have hc' := hc
      unfold calF at hc'
      split at hc'
      · rename_i d hd
        split at hc'
        · rename_i hini
          cases hc'
          obtain ⟨p1, p2, p3⟩ := prop_of hd (h5 _ hm)
          have cl : Cls K ((tb.tab K).cls c) := by rw [tab_of he]; exact He.cls_ok h1
          have po : PropOf K ((tb.tab K).cls c) nm (He.ma K (He.ga K ee.name) nm) (d.wh.ad K) := by rw [tab_of he]; exact p3
          have run := fun {pins} {s} {σ} {H} {a} {Q} {E'} {dx} {vs} I ha hh => prop_run (pins := pins) (s := s) (σ := σ) (H := H) (a := a) (Q := Q) (E' := E') (dx := dx) (vs := vs) (C := 0) (al i d hd) (Option.isNone_iff_eq_none.mp hini.1) p1 p2 g' cl po I ha hh
          obtain ⟨rfl, rfl, rfl, rfl, rfl, hr, _⟩ := h
          exact ⟨_, _, cl, po, fun pins s σ H a Q E' dx vs I ha hn hh => run I ha hh⟩
        · cases hc'
      · cases hc'
  cm X c nm ks n cd h e := by
    obtain ⟨ee, i, he, hm, hc⟩ := calM_ok e
    have g' := h
    obtain ⟨rfl, rfl, rfl, rfl, rfl, hr, _⟩ := h
    obtain ⟨d, hd, hn, kp, _, cal⟩ := calF_v al g' hc
    obtain ⟨_, _, _, _, _, h6, h7, _⟩ := clC_ok (f.cls c ee he)
    obtain ⟨p, m⟩ := cm_of (h7 _ hm)
    rw [tab_of he]
    rcases h6 with z | z
    · rw [List.isEmpty_iff.mp z] at hm
      cases hm
    · rw [dAd_of hd] at m
      exact ⟨_, p, _, ⟨z.1, eqV_ok z.2⟩, m, cal⟩
  mke X c ks n cd h e := by
    have z := calI_v al h e (mk_of f) fun j d hd hi => hri j d c hd hi
    obtain ⟨rfl, rfl, rfl, rfl, rfl, hr, _⟩ := h
    exact z
  st X h := fun c cd e => by
    have z := dun_of f al h e
    obtain ⟨rfl, rfl, rfl, rfl, rfl, hr, _⟩ := h
    exact z
  eq X h := fun c cd e => by
    have z := dun_of f al h e
    obtain ⟨rfl, rfl, rfl, rfl, rfl, hr, _⟩ := h
    exact z
  co X ks n h := fun c cd e => by
    have z := dun_of f al h e
    obtain ⟨rfl, rfl, rfl, rfl, rfl, hr, _⟩ := h
    exact z
  nf X c c' h e := by
    obtain ⟨rfl, rfl, rfl, rfl, rfl, hr, _⟩ := h
    exact f.nf c c' e
  kit X h := by
    obtain ⟨rfl, rfl, rfl, rfl, rfl, hr, _⟩ := h
    refine ⟨f.kit, fun c e => ?_, f.get, f.takes⟩
    dsimp only [cvOf] at e
    split at e
    · rename_i ee he
      obtain ⟨h1, _, _, _, _, _, _, _, h9⟩ := clC_ok (f.cls c ee he)
      rw [tab_of he]
      exact ⟨He.cls_ok h1, (h9 e).1, (h9 e).2⟩
    · cases e
  bl X x h e := by
    obtain ⟨rfl, rfl, rfl, rfl, rfl, hr, _⟩ := h
    exact He.free_ok KX G (f.bl x e)
end
end Mi
namespace Mi
open PySem PySem.Spec L2
open PyProof.Rows hiding St

section
variable {W : Type} {P : Program} {w : World} {K : PySem.W.Frag} {mg : Str → Option Value} {base : Heap} {R : WR W} {tb : Tb}
theorem run_ini (n : Nat) : ∀ j d c, tb.defs[j]? = some d → d.ini = some c → ∀ ds w0 r w', run (W := W) tb n j ds w0 = some (r, w') → ∃ fs, r = .ins c fs := fun j d c hd hi ds w0 r w' h => by
  cases n with
  | zero => cases h
  | succ n =>
    unfold run at h
    rw [hd] at h
    dsimp only at h
    unfold runD at h
    rw [hi] at h
    dsimp only at h
    unfold runI at h
    split at h
    · split at h
      · split at h
        · cases h
          exact ⟨_, rfl⟩
        · cases h
      · cases h
    · cases h
theorem all_ok (KX : K.In base) (G : base.Ns mainGlobals mg) (f : Facts tb K) (hv : ∀ d ∈ tb.defs, fnAt K (d.wh.ad K) = d.val) (ho : ∀ d ∈ tb.defs, d.ok K = true) (hs : ∀ d ∈ tb.defs, stC d = true) : ∀ n, AllOk P w K mg base (tb.tab K) R tb (lev n) (run tb n)
  | 0 => fun i d hd => def_zero (hv d (List.mem_of_getElem? hd)) (ho d (List.mem_of_getElem? hd)) (hs d (List.mem_of_getElem? hd)) _
  | n + 1 => fun i d hd => by
    have ih := all_ok KX G f hv ho hs n
    have z := def_step (hv d (List.mem_of_getElem? hd)) (ho d (List.mem_of_getElem? hd)) (hs d (List.mem_of_getElem? hd)) (ctx_ok (N := d.N) KX G f ih (run_ini n))
    have e : run (W := W) tb (n + 1) i = runD tb (run tb n) d := by
      show (match tb.defs[i]? with | some d => runD tb (run tb n) d | none => fun _ _ => none) = _
      rw [hd]
    rw [e]
    exact z
end
end Mi
namespace Mi
open PySem PySem.Spec L2
open PyProof.Rows hiding St

def oneR (g : Addr → Option Obj) (a : Addr) : List Addr := match g a with
  | some ⟨_, _, .func fd, _⟩ => a :: (He.refV fd.code ++ He.refV fd.defaults ++ (He.refV fd.defaults).flatMap fun t => match g t with
    | some ⟨_, _, .seq its _, _⟩ => its.toList.flatMap He.refV
    | _ => [])
  | _ => [a]
def memR (g : Addr → Option Obj) (v : Value) : List Addr := match v with
  | .ref a => (match g a with
    | some ⟨_, _, .fields vs, _⟩ => a :: vs.toList.flatMap fun v => match v with
      | .ref b => oneR g b
      | _ => []
    | some ⟨_, _, .func _, _⟩ => oneR g a
    | _ => [])
  | _ => []
def gloR (g : Addr → Option Obj) (v : Value) : List Addr := match v with
  | .ref a => (match g a with
    | some ⟨_, _, .func _, _⟩ => oneR g a
    | some ⟨_, _, .seq _ _, _⟩ => [a]
    | some ⟨_, _, .cls cd, _⟩ => a :: cd.ns :: (match g cd.ns with
      | some ⟨_, _, .dict es _, _⟩ => es.toList.flatMap fun e => memR g e.val
      | _ => [])
    | _ => [])
  | _ => []
def asL (g : Addr → Option Obj) : List Addr := mainGlobals :: cStatics :: (match g mainGlobals with
  | some ⟨_, _, .dict es _, _⟩ => es.toList.flatMap fun e => gloR g e.val
  | _ => [])
abbrev AlM : Type := Bool × List FnT
def obsM (tb : Tb) (K : PySem.W.Frag) : AlM := (tbC tb K && tb.defs.all fun d => d.ok K, tb.defs.map fun d => fnAt K (d.wh.ad K))
def valM (tb : Tb) : AlM := (true, tb.defs.map DfE.val)
def obsMG (tb : Tb) (g : Addr → Option Obj) : AlM := obsM tb (He.frG g (asL g))
def hookM (tb : Tb) : PySem.W.Hook where
  α := AlM
  obs := fun s => obsMG tb s.heap.get?
  val := fun _ => valM tb
  says := fun _ h => ∃ K : PySem.W.Frag, K.In h ∧ obsM tb K = valM tb
  of := fun _ _ e => ⟨_, He.frG_in, e⟩
  keeps := fun _ _ _ ⟨K, hK, c⟩ k => ⟨K, PySem.W.Frag.In.keeps hK k, c⟩
theorem obsMG_eq {tb : Tb} {g : Addr → Option Obj} {s : Shared} (h : ∀ a, g a = s.heap.get? a) : obsMG tb g = (hookM tb).obs s := by
  have e : g = s.heap.get? := funext h
  rw [e] <;> rfl
theorem obs_facts {tb : Tb} {K : PySem.W.Frag} (h : obsM tb K = valM tb) : Facts tb K ∧ (∀ d ∈ tb.defs, fnAt K (d.wh.ad K) = d.val) ∧ ∀ d ∈ tb.defs, d.ok K = true := by
  have h1 : (tbC tb K && tb.defs.all fun d => d.ok K) = true := congrArg Prod.fst h
  have h2 : tb.defs.map (fun d => fnAt K (d.wh.ad K)) = tb.defs.map DfE.val := congrArg Prod.snd h
  rw [Bool.and_eq_true] at h1
  refine ⟨facts_of h1.1, fun d hd => ?_, List.all_eq_true.mp h1.2⟩
  exact List.map_inj_left.mp h2 d hd
/-- no part of the world -/
def wr0 : WR Unit where
  ok := fun _ _ F => F = []
  there := fun _ _ F h a ha => by rw [h] at ha; cases ha
  at_ := fun _ _ _ _ h _ => h
end Mi
namespace Mi
open PySem PySem.Spec L2
open PyProof.Rows hiding St

theorem reps_ints {T : Tab} {K : PySem.W.Frag} {G : Hp} : ∀ ns : List Int, Reps T K G (ns.map V.int) (ns.map D.int)
  | [] => .nil
  | n :: ns => .cons (.int n) (reps_ints ns)
theorem law_sp {T : Tab} {K : PySem.W.Frag} {d : DfE} {φ : List D → Unit → Option (D × Unit)} {H : Hp} {a : Addr} {ns : List Int} {E : XK} (hi : d.ini = none) (hl : d.ps.length = 1) (hs : SqL K H a (ns.map V.int)) (hr : φ [.lok (ns.map D.int)] () = some (.bl true, ())) : spD T K wr0 d φ [.ref a] H (fun v _ => v = .bl true) E := by
  unfold spD
  rw [hi]
  refine ⟨hl.symm, H, (), [], [.lok (ns.map D.int)], Le.refl H, fun _ _ _ z => (by cases z), .cons (.lok hs (reps_ints ns)) .nil, rfl, .bl true, (), hr, fun v H' fp' ok _ le rep => ?_⟩
  have r := rep (fun b => match H b with | some o => some o | none => H' b) (fun b o e => by show (match H b with | some o => some o | none => H' b) = some o; rw [e]) fun b o n _ e => by show (match H b with | some o => some o | none => H' b) = some o; rw [n]; exact e
  cases r
  rfl
theorem bind_one {K : PySem.W.Frag} {x qual y : Str} {params : Arguments} {body : List Stmt} {scope : Scope} {f : Addr} {fd : FuncData} (F : FunD K x qual params body scope [] [] f fd) (P : PlainA params [y]) (s : Shared) (u : Value) : BindsTo s fd ⟨[u], []⟩ [(y, u)] := by
  refine F.bindsA (ps := [y]) (fun kV doc pm an cdv ct us hl => ?_) s [u] rfl
  obtain ⟨k, h1, h2⟩ := bind_gen (fd := PySem.W.fnOf x qual params body scope .none kV doc pm an cdv ct) (us := us) (ws := []) (ks := []) (dn := 0) P (fun _ z => by cases z) .nil (by rw [hl]; exact Nat.le_refl _) rfl (Nat.zero_le _) (fun z hz => .inl (by rw [hl]; exact List.mem_of_mem_take hz |> fun q => by simpa using q))
  exact h1.trans (h2 none us rfl (place_plain (by simp) hl))
theorem fd_same {K : PySem.W.Frag} {x qual : Str} {params : Arguments} {body : List Stmt} {scope : Scope} {f : Addr} {fd fe : FuncData} {dvs dws : List V} (F : FunD K x qual params body scope dvs [] f fd) (F' : FunD K x qual params body scope dws [] f fe) : fd = fe := by
  obtain ⟨oc, od, dV, kV, doc, pm, an, cdv, ct, osl, _, lk, _⟩ := F.ex
  obtain ⟨oc', od', dV', kV', doc', pm', an', cdv', ct', osl', _, lk', _⟩ := F'.ex
  rw [lk] at lk'
  cases lk'
  rfl
/-- THE END: a law holds, if its run says so -/
theorem walk_ofM {l : PySem.W.OpenLaw} {n lv il : Nat} {q : Program} {loose : List Str} {tb : Tb} {d : DefRec} {x : Str} {e : DfE}
    (hn : l.most = some n) (hn2 : n ≤ sizeLine) (hdf : d.params.defaults = []) (hr : Room (lev lv) callerA) (hs : tb.defs.all stC = true) (hg : tb.gfn.lookup d.name = some il) (he : tb.defs[il]? = some e) (hp : e.ps = [x]) (hi : e.ini = none) (hd0 : e.dd = [])
    (hrun : ∀ ns : List Int, ns.length ≤ n → run tb lv il [.lok (ns.map D.int)] () = some (.bl true, ())) :
    PySem.W.WalkO q loose (PySem.W.XL q []) (hookM tb).says l.row.toRowW d [] (fun f vs => PySem.call f vs) := by
  refine walk_ofE (CX := CX0) (k := lev lv) (x := x) hn hn2 hdf hr (fun w mg fa h Y G hm => ?_) fun H s e s' z => z
  obtain ⟨K, KX, hob⟩ := Y
  obtain ⟨f, hv, ho⟩ := obs_facts hob
  have hst : ∀ d ∈ tb.defs, stC d = true := List.all_eq_true.mp hs
  have all := fun (base : Heap) (KB : K.In base) (GB : base.Ns mainGlobals mg) => all_ok (P := l.prog) (w := w) (R := wr0) KB GB f hv ho hst lv il e he
  obtain ⟨h1, h2⟩ := f.gfn d.name il hg
  have hfa : e.wh.ad K = fa := by
    rw [← dAd_of he, h2]
    have := He.glo_ok KX G h1
    rw [hm] at this
    cases this
    rfl
  obtain ⟨fd, dvs, F, qd, pa, _⟩ := all h KX G
  have hdv : dvs = [] := by
    have := (qd (fun _ => none)).length
    rw [hd0] at this
    exact List.length_eq_zero_iff.mp this
  subst hdv
  rw [hp] at pa
  refine ⟨K, fd, spD (tb.tab K) K wr0 e (run tb lv il), KX, bind_one F pa, fun H a ns hl _ hS => law_sp hi (by rw [hp]; rfl) hS (hrun ns hl), fun base KB GB => ?_⟩
  obtain ⟨fe, dws, F', _, _, fo⟩ := all base KB GB
  rw [← hfa, fd_same F F', ← hp]
  exact fo
end Mi
set_option maxRecDepth 200000
set_option maxHeartbeats 0
namespace Mi.Law
open PySem PySem.Spec L2 Mi
open PyProof.Rows hiding St
def top (i : Nat) : Stmt := PySem.Challenge.pw_meltback_k74_arguments_by_names.main.body.getD i (.Pass ⟨0, 0, 0, 0⟩)
def inC (i j : Nat) : Stmt := match top i with
  | .ClassDef _ _ _ b _ _ _ _ _ _ _ => b.getD j (.Pass ⟨0, 0, 0, 0⟩)
  | _ => .Pass ⟨0, 0, 0, 0⟩
def mk (wh : Wh) (nm qu : Str) (s : Stmt) (dd : List D) (N ps : List Str) (ini : Option Nat) : DfE := ⟨wh, nm, qu, defArgs s, defBody s, defScope s, dd, N, ps, ini⟩
def d0 : DfE := mk (.glo "is_sequence") "is_sequence" "is_sequence" (top 16) [] ["thing"] ["thing"] none -- - is_integer
def d1 : DfE := mk (.glo "is_sequence") "is_sequence" "is_sequence" (top 16) [] ["thing"] ["thing"] none -- is_sequence
def d2 : DfE := mk (.glo "is_name") "is_name" "is_name" (top 17) [] ["thing", "sign"] ["thing"] none -- is_name
def d3 : DfE := mk (.glo "is_text") "is_text" "is_text" (top 18) [] ["thing", "sign"] ["thing"] none -- is_text
def d4 : DfE := mk (.glo "is_cell") "is_cell" "is_cell" (top 19) [] ["thing"] ["thing"] none -- is_cell
def d5 : DfE := mk (.glo "are_names") "are_names" "are_names" (top 20) [] ["thing", "least", "name"] ["thing", "least"] none -- are_names
def d6 : DfE := mk (.glo "is_part") "is_part" "is_part" (top 23) [] ["row", "other", "cell", "there"] ["row", "other"] none -- is_part
def d7 : DfE := mk (.glo "is_empty") "is_empty" "is_empty" (top 24) [] ["row", "cell"] ["row"] none -- is_empty
def d8 : DfE := mk (.glo "row_text") "row_text" "row_text" (top 25) [] ["row", "cell"] ["row"] none -- row_text
def d9 : DfE := mk (.glo "common_part") "common_part" "common_part" (top 26) [] ["row", "other", "cell", "there"] ["row", "other"] none -- common_part
def d10 : DfE := mk (.glo "greatest") "greatest" "greatest" (top 27) [] ["rows", "unlike", "row", "left", "text", "name", "other"] ["rows"] none -- greatest
def d11 : DfE := mk (.glo "check_rows") "check_rows" "check_rows" (top 28) [] ["columns", "rows", "row", "cell"] ["columns", "rows"] none -- check_rows
def d12 : DfE := mk (.glo "cells_of") "cells_of" "cells_of" (top 29) [] ["line", "many", "words", "word"] ["line", "many"] none -- cells_of
def d13 : DfE := mk (.met "Table" "__init__") "__init__" "Table.__init__" (inC 30 0) [.tup []] ["self", "columns", "rows", "row"] ["self", "columns", "rows"] (some 0) -- Table.__init__
def d14 : DfE := mk (.cme "Table" "read") "read" "Table.read" (inC 30 1) [] ["cls", "text", "lines", "columns", "rows", "at", "line", "row"] ["cls", "text"] none -- Table.read
def d15 : DfE := mk (.met "Table" "__len__") "__len__" "Table.__len__" (inC 30 2) [] ["self"] ["self"] none -- Table.__len__
def d16 : DfE := mk (.met "Table" "__getitem__") "__getitem__" "Table.__getitem__" (inC 30 3) [] ["self", "at"] ["self", "at"] none -- Table.__getitem__
def d17 : DfE := mk (.met "Table" "__contains__") "__contains__" "Table.__contains__" (inC 30 5) [] ["self", "x", "cell", "row"] ["self", "x"] none -- Table.__contains__
def d18 : DfE := mk (.met "Table" "__eq__") "__eq__" "Table.__eq__" (inC 30 6) [] ["self", "other"] ["self", "other"] none -- Table.__eq__
def d19 : DfE := mk (.met "Table" "__le__") "__le__" "Table.__le__" (inC 30 7) [] ["self", "other", "there", "row"] ["self", "other"] none -- Table.__le__
def d20 : DfE := mk (.met "Table" "__lt__") "__lt__" "Table.__lt__" (inC 30 8) [] ["self", "other"] ["self", "other"] none -- Table.__lt__
def d21 : DfE := mk (.met "Table" "__ge__") "__ge__" "Table.__ge__" (inC 30 9) [] ["self", "other"] ["self", "other"] none -- Table.__ge__
def d22 : DfE := mk (.met "Table" "__gt__") "__gt__" "Table.__gt__" (inC 30 10) [] ["self", "other"] ["self", "other"] none -- Table.__gt__
def d23 : DfE := mk (.met "Table" "__or__") "__or__" "Table.__or__" (inC 30 11) [] ["self", "other"] ["self", "other"] none -- Table.__or__
def d24 : DfE := mk (.met "Table" "__and__") "__and__" "Table.__and__" (inC 30 12) [] ["self", "other", "row", "there"] ["self", "other"] none -- Table.__and__
def d25 : DfE := mk (.met "Table" "__str__") "__str__" "Table.__str__" (inC 30 13) [] ["self", "lines", "row", "cell"] ["self"] none -- Table.__str__
def d26 : DfE := mk (.prp "Table" "texts") "texts" "Table.texts" (inC 30 14) [] ["self", "row", "cell"] ["self"] none -- Table.texts
def d27 : DfE := mk (.met "Table" "under") "under" "Table.under" (inC 30 15) [] ["self", "name", "at", "row"] ["self", "name"] none -- Table.under
def d28 : DfE := mk (.met "Table" "mapped") "mapped" "Table.mapped" (inC 30 16) [] ["self", "texts", "rows", "row", "cell"] ["self", "texts"] none -- Table.mapped
def d29 : DfE := mk (.met "Table" "need_columns") "need_columns" "Table.need_columns" (inC 30 17) [] ["self", "other"] ["self", "other"] none -- Table.need_columns
def d30 : DfE := mk (.glo "need") "need" "need" (top 32) [] ["is_right", "word"] ["is_right", "word"] none -- need
def d31 : DfE := mk (.glo "need_steps") "need_steps" "need_steps" (top 33) [] ["steps", "step"] ["steps"] none -- need_steps
def d32 : DfE := mk (.glo "are_there") "are_there" "are_there" (top 34) [] ["columns", "there", "column"] ["columns", "there"] none -- are_there
def d33 : DfE := mk (.glo "ends_of") "ends_of" "ends_of" (top 35) [] ["steps", "columns", "at", "step", "word"] ["steps", "columns"] none -- ends_of
def d34 : DfE := mk (.glo "done") "done" "done" (top 36) [] ["steps", "columns", "rows", "step"] ["steps", "columns", "rows"] none -- done
def d35 : DfE := mk (.glo "steps_text") "steps_text" "steps_text" (top 37) [] ["steps", "step"] ["steps"] none -- steps_text
def d36 : DfE := mk (.glo "block_text") "block_text" "block_text" (top 38) [] ["head", "steps", "step"] ["head", "steps"] none -- block_text
def d37 : DfE := mk (.met "Step" "__eq__") "__eq__" "Step.__eq__" (inC 39 0) [] ["self", "other"] ["self", "other"] none -- Step.__eq__
def d38 : DfE := mk (.met "Step" "texts_told") "texts_told" "Step.texts_told" (inC 39 1) [] ["self"] ["self"] none -- Step.texts_told
def d39 : DfE := mk (.met "Pick" "__init__") "__init__" "Pick.__init__" (inC 40 0) [] ["self", "columns"] ["self", "columns"] (some 2) -- Pick.__init__
def d40 : DfE := mk (.met "Pick" "__str__") "__str__" "Pick.__str__" (inC 40 1) [] ["self"] ["self"] none -- Pick.__str__
def d41 : DfE := mk (.met "Pick" "after") "after" "Pick.after" (inC 40 2) [] ["self", "columns"] ["self", "columns"] none -- Pick.after
def d42 : DfE := mk (.met "Pick" "rows_of") "rows_of" "Pick.rows_of" (inC 40 3) [] ["self", "columns", "rows", "places", "column", "at", "row"] ["self", "columns", "rows"] none -- Pick.rows_of
def d43 : DfE := mk (.met "Rename" "__init__") "__init__" "Rename.__init__" (inC 41 0) [] ["self", "old", "new"] ["self", "old", "new"] (some 3) -- Rename.__init__
def d44 : DfE := mk (.met "Rename" "__str__") "__str__" "Rename.__str__" (inC 41 1) [] ["self"] ["self"] none -- Rename.__str__
def d45 : DfE := mk (.met "Rename" "after") "after" "Rename.after" (inC 41 2) [] ["self", "columns", "column"] ["self", "columns"] none -- Rename.after
def d46 : DfE := mk (.met "Rename" "rows_of") "rows_of" "Rename.rows_of" (inC 41 3) [] ["self", "columns", "rows"] ["self", "columns", "rows"] none -- Rename.rows_of
def d47 : DfE := mk (.met "Has" "__init__") "__init__" "Has.__init__" (inC 42 0) [] ["self", "column"] ["self", "column"] (some 4) -- Has.__init__
def d48 : DfE := mk (.met "Has" "__str__") "__str__" "Has.__str__" (inC 42 1) [] ["self"] ["self"] none -- Has.__str__
def d49 : DfE := mk (.met "Has" "after") "after" "Has.after" (inC 42 2) [] ["self", "columns"] ["self", "columns"] none -- Has.after
def d50 : DfE := mk (.met "Has" "rows_of") "rows_of" "Has.rows_of" (inC 42 3) [] ["self", "columns", "rows", "at", "row"] ["self", "columns", "rows"] none -- Has.rows_of
def d51 : DfE := mk (.met "Is" "__init__") "__init__" "Is.__init__" (inC 43 0) [] ["self", "column", "text"] ["self", "column", "text"] (some 5) -- Is.__init__
def d52 : DfE := mk (.met "Is" "__str__") "__str__" "Is.__str__" (inC 43 1) [] ["self"] ["self"] none -- Is.__str__
def d53 : DfE := mk (.met "Is" "texts_told") "texts_told" "Is.texts_told" (inC 43 2) [] ["self"] ["self"] none -- Is.texts_told
def d54 : DfE := mk (.met "Is" "after") "after" "Is.after" (inC 43 3) [] ["self", "columns"] ["self", "columns"] none -- Is.after
def d55 : DfE := mk (.met "Is" "rows_of") "rows_of" "Is.rows_of" (inC 43 4) [] ["self", "columns", "rows", "at", "row"] ["self", "columns", "rows"] none -- Is.rows_of
def d56 : DfE := mk (.met "Put" "__init__") "__init__" "Put.__init__" (inC 44 0) [] ["self", "column", "text"] ["self", "column", "text"] (some 6) -- Put.__init__
def d57 : DfE := mk (.met "Put" "__str__") "__str__" "Put.__str__" (inC 44 1) [] ["self"] ["self"] none -- Put.__str__
def d58 : DfE := mk (.met "Put" "texts_told") "texts_told" "Put.texts_told" (inC 44 2) [] ["self"] ["self"] none -- Put.texts_told
def d59 : DfE := mk (.met "Put" "after") "after" "Put.after" (inC 44 3) [] ["self", "columns"] ["self", "columns"] none -- Put.after
def d60 : DfE := mk (.met "Put" "rows_of") "rows_of" "Put.rows_of" (inC 44 4) [] ["self", "columns", "rows", "row"] ["self", "columns", "rows"] none -- Put.rows_of
def d61 : DfE := mk (.met "Alike" "__init__") "__init__" "Alike.__init__" (inC 45 0) [] ["self", "column", "other"] ["self", "column", "other"] (some 7) -- Alike.__init__
def d62 : DfE := mk (.met "Alike" "__str__") "__str__" "Alike.__str__" (inC 45 1) [] ["self"] ["self"] none -- Alike.__str__
def d63 : DfE := mk (.met "Alike" "after") "after" "Alike.after" (inC 45 2) [] ["self", "columns", "is_right"] ["self", "columns"] none -- Alike.after
def d64 : DfE := mk (.met "Alike" "rows_of") "rows_of" "Alike.rows_of" (inC 45 3) [] ["self", "columns", "rows", "one", "two", "row"] ["self", "columns", "rows"] none -- Alike.rows_of
def d65 : DfE := mk (.met "Melt" "__init__") "__init__" "Melt.__init__" (inC 46 0) [] ["self", "columns", "name", "value"] ["self", "columns", "name", "value"] (some 8) -- Melt.__init__
def d66 : DfE := mk (.met "Melt" "__str__") "__str__" "Melt.__str__" (inC 46 1) [] ["self"] ["self"] none -- Melt.__str__
def d67 : DfE := mk (.met "Melt" "texts_told") "texts_told" "Melt.texts_told" (inC 46 2) [] ["self"] ["self"] none -- Melt.texts_told
def d68 : DfE := mk (.met "Melt" "staying") "staying" "Melt.staying" (inC 46 3) [] ["self", "columns", "column"] ["self", "columns"] none -- Melt.staying
def d69 : DfE := mk (.met "Melt" "after") "after" "Melt.after" (inC 46 4) [] ["self", "columns", "stay"] ["self", "columns"] none -- Melt.after
def d70 : DfE := mk (.met "Melt" "rows_of") "rows_of" "Melt.rows_of" (inC 46 5) [] ["self", "columns", "rows", "places", "column", "found", "row", "rest", "at", "cell"] ["self", "columns", "rows"] none -- Melt.rows_of
def d71 : DfE := mk (.met "Pivot" "__init__") "__init__" "Pivot.__init__" (inC 47 0) [] ["self", "by", "name", "value", "heads"] ["self", "by", "name", "value", "heads"] (some 9) -- Pivot.__init__
def d72 : DfE := mk (.met "Pivot" "__str__") "__str__" "Pivot.__str__" (inC 47 1) [] ["self"] ["self"] none -- Pivot.__str__
def d73 : DfE := mk (.met "Pivot" "texts_told") "texts_told" "Pivot.texts_told" (inC 47 2) [] ["self"] ["self"] none -- Pivot.texts_told
def d74 : DfE := mk (.met "Pivot" "after") "after" "Pivot.after" (inC 47 3) [] ["self", "columns", "asked", "head"] ["self", "columns"] none -- Pivot.after
def d75 : DfE := mk (.met "Pivot" "groups") "groups" "Pivot.groups" (inC 47 4) [] ["self", "columns", "rows", "places", "column", "name", "value", "found", "row", "cells", "at", "values"] ["self", "columns", "rows"] none -- Pivot.groups
def d76 : DfE := mk (.met "Pivot" "rows_of") "rows_of" "Pivot.rows_of" (inC 47 5) [] ["self", "columns", "rows", "found", "cells", "group", "choices", "head", "choice", "cell"] ["self", "columns", "rows"] none -- Pivot.rows_of
def d77 : DfE := mk (.met "Join" "__init__") "__init__" "Join.__init__" (inC 48 0) [] ["self", "columns", "steps"] ["self", "columns", "steps"] (some 10) -- Join.__init__
def d78 : DfE := mk (.met "Join" "__str__") "__str__" "Join.__str__" (inC 48 1) [] ["self"] ["self"] none -- Join.__str__
def d79 : DfE := mk (.met "Join" "texts_told") "texts_told" "Join.texts_told" (inC 48 2) [] ["self", "step", "text"] ["self"] none -- Join.texts_told
def d80 : DfE := mk (.met "Join" "after") "after" "Join.after" (inC 48 3) [] ["self", "columns", "at", "word", "ends", "new", "column"] ["self", "columns"] none -- Join.after
def d81 : DfE := mk (.met "Join" "rows_of") "rows_of" "Join.rows_of" (inC 48 4) [] ["self", "columns", "rows", "ends", "others", "here", "column", "there", "new", "at", "found", "row", "cells", "more", "other"] ["self", "columns", "rows"] none -- Join.rows_of
def d82 : DfE := mk (.met "Stack" "__init__") "__init__" "Stack.__init__" (inC 49 0) [] ["self", "steps"] ["self", "steps"] (some 11) -- Stack.__init__
def d83 : DfE := mk (.met "Stack" "__str__") "__str__" "Stack.__str__" (inC 49 1) [] ["self"] ["self"] none -- Stack.__str__
def d84 : DfE := mk (.met "Stack" "texts_told") "texts_told" "Stack.texts_told" (inC 49 2) [] ["self", "step", "text"] ["self"] none -- Stack.texts_told
def d85 : DfE := mk (.met "Stack" "after") "after" "Stack.after" (inC 49 3) [] ["self", "columns", "at", "word", "ends", "is_right"] ["self", "columns"] none -- Stack.after
def d86 : DfE := mk (.met "Stack" "rows_of") "rows_of" "Stack.rows_of" (inC 49 4) [] ["self", "columns", "rows", "ends", "places", "column", "others", "at", "row"] ["self", "columns", "rows"] none -- Stack.rows_of
def d87 : DfE := mk (.glo "melt_of") "melt_of" "melt_of" (top 51) [] ["words"] ["words"] none -- melt_of
def d88 : DfE := mk (.glo "pivot_of") "pivot_of" "pivot_of" (top 52) [] ["words", "at"] ["words"] none -- pivot_of
def d89 : DfE := mk (.glo "step_of") "step_of" "step_of" (top 53) [] ["words", "head", "rest"] ["words"] none -- step_of
def d90 : DfE := mk (.glo "step_in") "step_in" "step_in" (top 54) [] ["line"] ["line"] none -- step_in
def d91 : DfE := mk (.glo "closed") "closed" "closed" (top 55) [] ["step", "steps"] ["step", "steps"] none -- closed
def d92 : DfE := mk (.glo "steps_of") "steps_of" "steps_of" (top 56) [] ["text", "lines", "blocks", "found", "at", "line", "step", "ahead"] ["text"] none -- steps_of
def d93 : DfE := mk (.met "Script" "__init__") "__init__" "Script.__init__" (inC 58 0) [.tup []] ["self", "columns", "steps", "step", "at", "word", "ends"] ["self", "columns", "steps"] (some 12) -- Script.__init__
def d94 : DfE := mk (.cme "Script" "read") "read" "Script.read" (inC 58 1) [] ["cls", "columns", "text"] ["cls", "columns", "text"] none -- Script.read
def d95 : DfE := mk (.met "Script" "__call__") "__call__" "Script.__call__" (inC 58 2) [] ["self", "table"] ["self", "table"] none -- Script.__call__
def d96 : DfE := mk (.met "Script" "__len__") "__len__" "Script.__len__" (inC 58 3) [] ["self"] ["self"] none -- Script.__len__
def d97 : DfE := mk (.met "Script" "__getitem__") "__getitem__" "Script.__getitem__" (inC 58 4) [] ["self", "at"] ["self", "at"] none -- Script.__getitem__
def d98 : DfE := mk (.met "Script" "__eq__") "__eq__" "Script.__eq__" (inC 58 6) [] ["self", "other"] ["self", "other"] none -- Script.__eq__
def d99 : DfE := mk (.met "Script" "__rshift__") "__rshift__" "Script.__rshift__" (inC 58 7) [] ["self", "other"] ["self", "other"] none -- Script.__rshift__
def d100 : DfE := mk (.met "Script" "__str__") "__str__" "Script.__str__" (inC 58 8) [] ["self"] ["self"] none -- Script.__str__
def d101 : DfE := mk (.prp "Script" "texts") "texts" "Script.texts" (inC 58 9) [] ["self", "step", "text"] ["self"] none -- Script.texts
def d102 : DfE := mk (.met "Script" "need") "need" "Script.need" (inC 58 10) [] ["self", "at"] ["self", "at"] none -- Script.need
def d103 : DfE := mk (.met "Script" "without") "without" "Script.without" (inC 58 11) [] ["self", "at"] ["self", "at"] none -- Script.without
def d104 : DfE := mk (.met "Script" "upto") "upto" "Script.upto" (inC 58 12) [] ["self", "at"] ["self", "at"] none -- Script.upto
def d105 : DfE := mk (.glo "is_sequence") "is_sequence" "is_sequence" (top 16) [] ["thing"] ["thing"] none -- - are_columns
def d106 : DfE := mk (.glo "is_sequence") "is_sequence" "is_sequence" (top 16) [] ["thing"] ["thing"] none -- - is_rule
def d107 : DfE := mk (.glo "is_sequence") "is_sequence" "is_sequence" (top 16) [] ["thing"] ["thing"] none -- - is_kept
def d108 : DfE := mk (.glo "is_sequence") "is_sequence" "is_sequence" (top 16) [] ["thing"] ["thing"] none -- - Kind.__init__
def d109 : DfE := mk (.glo "is_sequence") "is_sequence" "is_sequence" (top 16) [] ["thing"] ["thing"] none -- - Kind.read
def d110 : DfE := mk (.glo "is_sequence") "is_sequence" "is_sequence" (top 16) [] ["thing"] ["thing"] none -- - Kind.there
def d111 : DfE := mk (.glo "is_sequence") "is_sequence" "is_sequence" (top 16) [] ["thing"] ["thing"] none -- - Kind.__contains__
def d112 : DfE := mk (.glo "is_sequence") "is_sequence" "is_sequence" (top 16) [] ["thing"] ["thing"] none -- - Kind.follows
def d113 : DfE := mk (.glo "is_sequence") "is_sequence" "is_sequence" (top 16) [] ["thing"] ["thing"] none -- - Kind.__and__
def d114 : DfE := mk (.glo "is_sequence") "is_sequence" "is_sequence" (top 16) [] ["thing"] ["thing"] none -- - Kind.__le__
def d115 : DfE := mk (.glo "is_sequence") "is_sequence" "is_sequence" (top 16) [] ["thing"] ["thing"] none -- - Kind.__lt__
def d116 : DfE := mk (.glo "is_sequence") "is_sequence" "is_sequence" (top 16) [] ["thing"] ["thing"] none -- - Kind.__ge__
def d117 : DfE := mk (.glo "is_sequence") "is_sequence" "is_sequence" (top 16) [] ["thing"] ["thing"] none -- - Kind.__gt__
def d118 : DfE := mk (.glo "is_sequence") "is_sequence" "is_sequence" (top 16) [] ["thing"] ["thing"] none -- - Kind.__eq__
def d119 : DfE := mk (.glo "is_sequence") "is_sequence" "is_sequence" (top 16) [] ["thing"] ["thing"] none -- - Kind.__str__
def d120 : DfE := mk (.glo "is_sequence") "is_sequence" "is_sequence" (top 16) [] ["thing"] ["thing"] none -- - shifted
def d121 : DfE := mk (.glo "is_sequence") "is_sequence" "is_sequence" (top 16) [] ["thing"] ["thing"] none -- - raised
def d122 : DfE := mk (.glo "is_sequence") "is_sequence" "is_sequence" (top 16) [] ["thing"] ["thing"] none -- - unknowns_of
def d123 : DfE := mk (.glo "is_sequence") "is_sequence" "is_sequence" (top 16) [] ["thing"] ["thing"] none -- - fresh_texts
def d124 : DfE := mk (.glo "is_sequence") "is_sequence" "is_sequence" (top 16) [] ["thing"] ["thing"] none -- - written
def d125 : DfE := mk (.glo "is_sequence") "is_sequence" "is_sequence" (top 16) [] ["thing"] ["thing"] none -- - end_of
def d126 : DfE := mk (.glo "is_sequence") "is_sequence" "is_sequence" (top 16) [] ["thing"] ["thing"] none -- - agreed
def d127 : DfE := mk (.glo "is_sequence") "is_sequence" "is_sequence" (top 16) [] ["thing"] ["thing"] none -- - led
def d128 : DfE := mk (.glo "is_sequence") "is_sequence" "is_sequence" (top 16) [] ["thing"] ["thing"] none -- - wholes
def d129 : DfE := mk (.glo "is_sequence") "is_sequence" "is_sequence" (top 16) [] ["thing"] ["thing"] none -- - made_same
def d130 : DfE := mk (.glo "is_sequence") "is_sequence" "is_sequence" (top 16) [] ["thing"] ["thing"] none -- - clashes
def d131 : DfE := mk (.glo "is_sequence") "is_sequence" "is_sequence" (top 16) [] ["thing"] ["thing"] none -- - choices_of
def d132 : DfE := mk (.glo "is_sequence") "is_sequence" "is_sequence" (top 16) [] ["thing"] ["thing"] none -- - begun
def d133 : DfE := mk (.glo "is_sequence") "is_sequence" "is_sequence" (top 16) [] ["thing"] ["thing"] none -- - drafts_of
def d134 : DfE := mk (.glo "is_sequence") "is_sequence" "is_sequence" (top 16) [] ["thing"] ["thing"] none -- - behind
def d135 : DfE := mk (.glo "is_sequence") "is_sequence" "is_sequence" (top 16) [] ["thing"] ["thing"] none -- - stepped
def d136 : DfE := mk (.glo "is_sequence") "is_sequence" "is_sequence" (top 16) [] ["thing"] ["thing"] none -- - one_behind
def d137 : DfE := mk (.glo "is_sequence") "is_sequence" "is_sequence" (top 16) [] ["thing"] ["thing"] none -- - melted
def d138 : DfE := mk (.glo "is_sequence") "is_sequence" "is_sequence" (top 16) [] ["thing"] ["thing"] none -- - pivoted
def d139 : DfE := mk (.glo "is_sequence") "is_sequence" "is_sequence" (top 16) [] ["thing"] ["thing"] none -- - headed
def d140 : DfE := mk (.glo "is_sequence") "is_sequence" "is_sequence" (top 16) [] ["thing"] ["thing"] none -- - joined
def d141 : DfE := mk (.glo "is_sequence") "is_sequence" "is_sequence" (top 16) [] ["thing"] ["thing"] none -- - fewest
def d142 : DfE := mk (.glo "is_sequence") "is_sequence" "is_sequence" (top 16) [] ["thing"] ["thing"] none -- - leads_to
def d143 : DfE := mk (.glo "is_sequence") "is_sequence" "is_sequence" (top 16) [] ["thing"] ["thing"] none -- - laid
def d144 : DfE := mk (.glo "is_sequence") "is_sequence" "is_sequence" (top 16) [] ["thing"] ["thing"] none -- - is_laid
def d145 : DfE := mk (.glo "is_sequence") "is_sequence" "is_sequence" (top 16) [] ["thing"] ["thing"] none -- - Shape.__init__
def d146 : DfE := mk (.glo "is_sequence") "is_sequence" "is_sequence" (top 16) [] ["thing"] ["thing"] none -- - Shape.mapped
def d147 : DfE := mk (.glo "is_sequence") "is_sequence" "is_sequence" (top 16) [] ["thing"] ["thing"] none -- - need_kind
def d148 : DfE := mk (.glo "is_sequence") "is_sequence" "is_sequence" (top 16) [] ["thing"] ["thing"] none -- - shape_of
def d149 : DfE := mk (.glo "is_sequence") "is_sequence" "is_sequence" (top 16) [] ["thing"] ["thing"] none -- - shapes
def d150 : DfE := mk (.glo "is_sequence") "is_sequence" "is_sequence" (top 16) [] ["thing"] ["thing"] none -- - tells
def d151 : DfE := mk (.glo "is_sequence") "is_sequence" "is_sequence" (top 16) [] ["thing"] ["thing"] none -- - weight
def d152 : DfE := mk (.glo "is_sequence") "is_sequence" "is_sequence" (top 16) [] ["thing"] ["thing"] none -- - weight_behind
def d153 : DfE := mk (.glo "is_sequence") "is_sequence" "is_sequence" (top 16) [] ["thing"] ["thing"] none -- - need_alike
def d154 : DfE := mk (.glo "is_sequence") "is_sequence" "is_sequence" (top 16) [] ["thing"] ["thing"] none -- - told_texts
def d155 : DfE := mk (.glo "is_sequence") "is_sequence" "is_sequence" (top 16) [] ["thing"] ["thing"] none -- - failing
def d156 : DfE := mk (.glo "is_sequence") "is_sequence" "is_sequence" (top 16) [] ["thing"] ["thing"] none -- - within
def d157 : DfE := mk (.glo "is_sequence") "is_sequence" "is_sequence" (top 16) [] ["thing"] ["thing"] none -- - same
def d158 : DfE := mk (.glo "is_sequence") "is_sequence" "is_sequence" (top 16) [] ["thing"] ["thing"] none -- - parted
def d159 : DfE := mk (.glo "is_sequence") "is_sequence" "is_sequence" (top 16) [] ["thing"] ["thing"] none -- - laid_together
def d160 : DfE := mk (.glo "is_sequence") "is_sequence" "is_sequence" (top 16) [] ["thing"] ["thing"] none -- - first_there
def d161 : DfE := mk (.glo "is_sequence") "is_sequence" "is_sequence" (top 16) [] ["thing"] ["thing"] none -- - least_draft
def d162 : DfE := mk (.glo "is_sequence") "is_sequence" "is_sequence" (top 16) [] ["thing"] ["thing"] none -- - lost
def d163 : DfE := mk (.glo "is_sequence") "is_sequence" "is_sequence" (top 16) [] ["thing"] ["thing"] none -- - needless
def d164 : DfE := mk (.glo "is_sequence") "is_sequence" "is_sequence" (top 16) [] ["thing"] ["thing"] none -- - shorter
def d165 : DfE := mk (.glo "is_sequence") "is_sequence" "is_sequence" (top 16) [] ["thing"] ["thing"] none -- - steady
def d166 : DfE := mk (.glo "is_sequence") "is_sequence" "is_sequence" (top 16) [] ["thing"] ["thing"] none -- - commuting
def d167 : DfE := mk (.glo "is_sequence") "is_sequence" "is_sequence" (top 16) [] ["thing"] ["thing"] none -- - doubled
def d168 : DfE := mk (.glo "is_sequence") "is_sequence" "is_sequence" (top 16) [] ["thing"] ["thing"] none -- - meetings
def d169 : DfE := mk (.glo "is_sequence") "is_sequence" "is_sequence" (top 16) [] ["thing"] ["thing"] none -- - never
def d170 : DfE := mk (.glo "is_sequence") "is_sequence" "is_sequence" (top 16) [] ["thing"] ["thing"] none -- - Names.__init__
def d171 : DfE := mk (.glo "is_sequence") "is_sequence" "is_sequence" (top 16) [] ["thing"] ["thing"] none -- - Names.fresh
def d172 : DfE := mk (.glo "is_sequence") "is_sequence" "is_sequence" (top 16) [] ["thing"] ["thing"] none -- - way_steps
def d173 : DfE := mk (.glo "is_sequence") "is_sequence" "is_sequence" (top 16) [] ["thing"] ["thing"] none -- - nothing
def d174 : DfE := mk (.glo "is_sequence") "is_sequence" "is_sequence" (top 16) [] ["thing"] ["thing"] none -- - picked
def d175 : DfE := mk (.glo "is_sequence") "is_sequence" "is_sequence" (top 16) [] ["thing"] ["thing"] none -- - lacking
def d176 : DfE := mk (.glo "is_sequence") "is_sequence" "is_sequence" (top 16) [] ["thing"] ["thing"] none -- - pattern_steps
def d177 : DfE := mk (.glo "is_sequence") "is_sequence" "is_sequence" (top 16) [] ["thing"] ["thing"] none -- - copied
def d178 : DfE := mk (.glo "is_sequence") "is_sequence" "is_sequence" (top 16) [] ["thing"] ["thing"] none -- - piece_steps
def d179 : DfE := mk (.glo "is_sequence") "is_sequence" "is_sequence" (top 16) [] ["thing"] ["thing"] none -- - need_kinds
def d180 : DfE := mk (.glo "is_sequence") "is_sequence" "is_sequence" (top 16) [] ["thing"] ["thing"] none -- - looks
def d181 : DfE := mk (.glo "is_sequence") "is_sequence" "is_sequence" (top 16) [] ["thing"] ["thing"] none -- - is_hidden
def d182 : DfE := mk (.glo "is_sequence") "is_sequence" "is_sequence" (top 16) [] ["thing"] ["thing"] none -- - hidden_paper
def d183 : DfE := mk (.glo "is_sequence") "is_sequence" "is_sequence" (top 16) [] ["thing"] ["thing"] none -- - fits
def d184 : DfE := mk (.glo "is_sequence") "is_sequence" "is_sequence" (top 16) [] ["thing"] ["thing"] none -- - fit
def d185 : DfE := mk (.glo "is_sequence") "is_sequence" "is_sequence" (top 16) [] ["thing"] ["thing"] none -- - too_much
def d186 : DfE := mk (.glo "is_sequence") "is_sequence" "is_sequence" (top 16) [] ["thing"] ["thing"] none -- - found_paper
def d187 : DfE := mk (.glo "is_sequence") "is_sequence" "is_sequence" (top 16) [] ["thing"] ["thing"] none -- - no_way
def d188 : DfE := mk (.glo "is_sequence") "is_sequence" "is_sequence" (top 16) [] ["thing"] ["thing"] none -- - way
def d189 : DfE := mk (.glo "is_sequence") "is_sequence" "is_sequence" (top 16) [] ["thing"] ["thing"] none -- - is_row
def d190 : DfE := mk (.glo "is_sequence") "is_sequence" "is_sequence" (top 16) [] ["thing"] ["thing"] none -- - are_pairs
def d191 : DfE := mk (.glo "is_sequence") "is_sequence" "is_sequence" (top 16) [] ["thing"] ["thing"] none -- - no_way_holds
def d192 : DfE := mk (.glo "is_sequence") "is_sequence" "is_sequence" (top 16) [] ["thing"] ["thing"] none -- - subsets
def d193 : DfE := mk (.glo "is_sequence") "is_sequence" "is_sequence" (top 16) [] ["thing"] ["thing"] none -- - kept
def d194 : DfE := mk (.glo "is_sequence") "is_sequence" "is_sequence" (top 16) [] ["thing"] ["thing"] none -- - takes_back
def d195 : DfE := mk (.glo "is_sequence") "is_sequence" "is_sequence" (top 16) [] ["thing"] ["thing"] none -- - words_of
def d196 : DfE := mk (.glo "is_sequence") "is_sequence" "is_sequence" (top 16) [] ["thing"] ["thing"] none -- - lines_of
def d197 : DfE := mk (.glo "is_sequence") "is_sequence" "is_sequence" (top 16) [] ["thing"] ["thing"] none -- - in_one_line
def d198 : DfE := mk (.glo "is_sequence") "is_sequence" "is_sequence" (top 16) [] ["thing"] ["thing"] none -- - yes_or_no
def d199 : DfE := mk (.glo "is_sequence") "is_sequence" "is_sequence" (top 16) [] ["thing"] ["thing"] none -- - Trial.__init__
def d200 : DfE := mk (.glo "is_sequence") "is_sequence" "is_sequence" (top 16) [] ["thing"] ["thing"] none -- - Trial.__enter__
def d201 : DfE := mk (.glo "is_sequence") "is_sequence" "is_sequence" (top 16) [] ["thing"] ["thing"] none -- - Desk.__init__
def d202 : DfE := mk (.glo "is_sequence") "is_sequence" "is_sequence" (top 16) [] ["thing"] ["thing"] none -- - Desk.change
def d203 : DfE := mk (.glo "is_sequence") "is_sequence" "is_sequence" (top 16) [] ["thing"] ["thing"] none -- - Desk.script
def d204 : DfE := mk (.glo "is_sequence") "is_sequence" "is_sequence" (top 16) [] ["thing"] ["thing"] none -- - Desk.take_kind
def d205 : DfE := mk (.glo "is_sequence") "is_sequence" "is_sequence" (top 16) [] ["thing"] ["thing"] none -- - Desk.put_row
def d206 : DfE := mk (.glo "is_sequence") "is_sequence" "is_sequence" (top 16) [] ["thing"] ["thing"] none -- - Desk.keep_script
def d207 : DfE := mk (.glo "is_sequence") "is_sequence" "is_sequence" (top 16) [] ["thing"] ["thing"] none -- - Desk.undo
def d208 : DfE := mk (.glo "is_sequence") "is_sequence" "is_sequence" (top 16) [] ["thing"] ["thing"] none -- - Desk.about_two
def d209 : DfE := mk (.glo "is_sequence") "is_sequence" "is_sequence" (top 16) [] ["thing"] ["thing"] none -- - Desk.say
def d210 : DfE := mk (.glo "is_sequence") "is_sequence" "is_sequence" (top 16) [] ["thing"] ["thing"] none -- - Desk.several
def d211 : DfE := mk (.glo "is_sequence") "is_sequence" "is_sequence" (top 16) [] ["thing"] ["thing"] none -- - Desk.trial
def d212 : DfE := mk (.glo "is_sequence") "is_sequence" "is_sequence" (top 16) [] ["thing"] ["thing"] none -- - Desk.tried
def d213 : DfE := mk (.glo "is_sequence") "is_sequence" "is_sequence" (top 16) [] ["thing"] ["thing"] none -- - Desk.__len__
def d214 : DfE := mk (.glo "_law_number") "_law_number" "_law_number" (top 60) [] ["_law_script", "_law_turn", "_law_zfound", "_law_zcell"] ["_law_script", "_law_turn"] none -- _law_number
def d215 : DfE := mk (.glo "_law_steps_alike") "_law_steps_alike" "_law_steps_alike" (top 61) [] ["_law_za", "_law_ztext", "_law_zhas", "_law_zfound"] ["_law_za", "_law_ztext"] none -- _law_steps_alike
def d216 : DfE := mk (.glo "law") "law" "law" (top 62) [] ["_law_script", "_law_za", "_law_ztext", "_law_zrows", "_law_ztable", "_law_znames", "_law_zfound", "_law_zmade", "_law_zthing"] ["_law_script"] none -- law
def defsL : List DfE := ([d0, d1, d2, d3, d4, d5, d6, d7, d8, d9, d10, d11, d12, d13, d14] : List DfE) ++ (([d15, d16, d17, d18, d19, d20, d21, d22, d23, d24, d25, d26, d27, d28, d29] : List DfE) ++ (([d30, d31, d32, d33, d34, d35, d36, d37, d38, d39, d40, d41, d42, d43, d44] : List DfE) ++ (([d45, d46, d47, d48, d49, d50, d51, d52, d53, d54, d55, d56, d57, d58, d59] : List DfE) ++ (([d60, d61, d62, d63, d64, d65, d66, d67, d68, d69, d70, d71, d72, d73, d74] : List DfE) ++ (([d75, d76, d77, d78, d79, d80, d81, d82, d83, d84, d85, d86, d87, d88, d89] : List DfE) ++ (([d90, d91, d92, d93, d94, d95, d96, d97, d98, d99, d100, d101, d102, d103, d104] : List DfE) ++ (([d105, d106, d107, d108, d109, d110, d111, d112, d113, d114, d115, d116, d117, d118, d119] : List DfE) ++ (([d120, d121, d122, d123, d124, d125, d126, d127, d128, d129, d130, d131, d132, d133, d134] : List DfE) ++ (([d135, d136, d137, d138, d139, d140, d141, d142, d143, d144, d145, d146, d147, d148, d149] : List DfE) ++ (([d150, d151, d152, d153, d154, d155, d156, d157, d158, d159, d160, d161, d162, d163, d164] : List DfE) ++ (([d165, d166, d167, d168, d169, d170, d171, d172, d173, d174, d175, d176, d177, d178, d179] : List DfE) ++ (([d180, d181, d182, d183, d184, d185, d186, d187, d188, d189, d190, d191, d192, d193, d194] : List DfE) ++ (([d195, d196, d197, d198, d199, d200, d201, d202, d203, d204, d205, d206, d207, d208, d209] : List DfE) ++ (([d210, d211, d212, d213, d214, d215, d216] : List DfE)))))))))))))))
def c0 : ClE := ⟨"Table", ["columns", "rows"], (some 13), [("under", 27), ("mapped", 28), ("need_columns", 29)], [("texts", 26)], [("read", 14)], [("__len__", 15), ("__getitem__", 16), ("__contains__", 17), ("__eq__", 18), ("__le__", 19), ("__lt__", 20), ("__ge__", 21), ("__gt__", 22), ("__or__", 23), ("__and__", 24), ("__str__", 25)], true⟩
def c1 : ClE := ⟨"Step", [], none, [("texts_told", 38)], [], [], [("__eq__", 37)], true⟩
def c2 : ClE := ⟨"Pick", ["columns"], (some 39), [("texts_told", 38), ("after", 41), ("rows_of", 42)], [], [], [("__eq__", 37), ("__str__", 40)], true⟩
def c3 : ClE := ⟨"Rename", ["old", "new"], (some 43), [("texts_told", 38), ("after", 45), ("rows_of", 46)], [], [], [("__eq__", 37), ("__str__", 44)], true⟩
def c4 : ClE := ⟨"Has", ["column"], (some 47), [("texts_told", 38), ("after", 49), ("rows_of", 50)], [], [], [("__eq__", 37), ("__str__", 48)], true⟩
def c5 : ClE := ⟨"Is", ["column", "text"], (some 51), [("texts_told", 53), ("after", 54), ("rows_of", 55)], [], [], [("__eq__", 37), ("__str__", 52)], true⟩
def c6 : ClE := ⟨"Put", ["column", "text"], (some 56), [("texts_told", 58), ("after", 59), ("rows_of", 60)], [], [], [("__eq__", 37), ("__str__", 57)], true⟩
def c7 : ClE := ⟨"Alike", ["column", "other"], (some 61), [("texts_told", 38), ("after", 63), ("rows_of", 64)], [], [], [("__eq__", 37), ("__str__", 62)], true⟩
def c8 : ClE := ⟨"Melt", ["columns", "name", "value"], (some 65), [("texts_told", 67), ("staying", 68), ("after", 69), ("rows_of", 70)], [], [], [("__eq__", 37), ("__str__", 66)], true⟩
def c9 : ClE := ⟨"Pivot", ["by", "name", "value", "heads"], (some 71), [("texts_told", 73), ("after", 74), ("groups", 75), ("rows_of", 76)], [], [], [("__eq__", 37), ("__str__", 72)], true⟩
def c10 : ClE := ⟨"Join", ["columns", "steps"], (some 77), [("texts_told", 79), ("after", 80), ("rows_of", 81)], [], [], [("__eq__", 37), ("__str__", 78)], true⟩
def c11 : ClE := ⟨"Stack", ["steps"], (some 82), [("texts_told", 84), ("after", 85), ("rows_of", 86)], [], [], [("__eq__", 37), ("__str__", 83)], true⟩
def c12 : ClE := ⟨"Script", ["columns", "steps", "ends"], (some 93), [("need", 102), ("without", 103), ("upto", 104)], [("texts", 101)], [("read", 94)], [("__call__", 95), ("__len__", 96), ("__getitem__", 97), ("__eq__", 98), ("__rshift__", 99), ("__str__", 100)], true⟩
def c13 : ClE := ⟨"Table", ["columns", "rows"], (some 13), [("under", 27), ("mapped", 28), ("need_columns", 29)], [("texts", 26)], [("read", 14)], [("__len__", 15), ("__getitem__", 16), ("__contains__", 17), ("__eq__", 18), ("__le__", 19), ("__lt__", 20), ("__ge__", 21), ("__gt__", 22), ("__or__", 23), ("__and__", 24), ("__str__", 25)], true⟩
def c14 : ClE := ⟨"Table", ["columns", "rows"], (some 13), [("under", 27), ("mapped", 28), ("need_columns", 29)], [("texts", 26)], [("read", 14)], [("__len__", 15), ("__getitem__", 16), ("__contains__", 17), ("__eq__", 18), ("__le__", 19), ("__lt__", 20), ("__ge__", 21), ("__gt__", 22), ("__or__", 23), ("__and__", 24), ("__str__", 25)], true⟩
def c15 : ClE := ⟨"Table", ["columns", "rows"], (some 13), [("under", 27), ("mapped", 28), ("need_columns", 29)], [("texts", 26)], [("read", 14)], [("__len__", 15), ("__getitem__", 16), ("__contains__", 17), ("__eq__", 18), ("__le__", 19), ("__lt__", 20), ("__ge__", 21), ("__gt__", 22), ("__or__", 23), ("__and__", 24), ("__str__", 25)], true⟩
def c16 : ClE := ⟨"Table", ["columns", "rows"], (some 13), [("under", 27), ("mapped", 28), ("need_columns", 29)], [("texts", 26)], [("read", 14)], [("__len__", 15), ("__getitem__", 16), ("__contains__", 17), ("__eq__", 18), ("__le__", 19), ("__lt__", 20), ("__ge__", 21), ("__gt__", 22), ("__or__", 23), ("__and__", 24), ("__str__", 25)], true⟩
def c17 : ClE := ⟨"Table", ["columns", "rows"], (some 13), [("under", 27), ("mapped", 28), ("need_columns", 29)], [("texts", 26)], [("read", 14)], [("__len__", 15), ("__getitem__", 16), ("__contains__", 17), ("__eq__", 18), ("__le__", 19), ("__lt__", 20), ("__ge__", 21), ("__gt__", 22), ("__or__", 23), ("__and__", 24), ("__str__", 25)], true⟩
def clsL : List ClE := [c0, c1, c2, c3, c4, c5, c6, c7, c8, c9, c10, c11, c12, c13, c14, c15, c16, c17]
def gfnL : List (Str × Nat) := ([("is_sequence", 1), ("is_name", 2), ("is_text", 3), ("is_cell", 4), ("are_names", 5), ("is_part", 6), ("is_empty", 7), ("row_text", 8), ("common_part", 9), ("greatest", 10), ("check_rows", 11), ("cells_of", 12), ("need", 30), ("need_steps", 31), ("are_there", 32)] : List (Str × Nat)) ++ (([("ends_of", 33), ("done", 34), ("steps_text", 35), ("block_text", 36), ("melt_of", 87), ("pivot_of", 88), ("step_of", 89), ("step_in", 90), ("closed", 91), ("steps_of", 92), ("_law_number", 214), ("_law_steps_alike", 215), ("law", 216)] : List (Str × Nat)))
def gclL : List (Str × Nat) := ([("Table", 0), ("Step", 1), ("Pick", 2), ("Rename", 3), ("Has", 4), ("Is", 5), ("Put", 6), ("Alike", 7), ("Melt", 8), ("Pivot", 9), ("Join", 10), ("Stack", 11), ("Script", 12)] : List (Str × Nat))
def gvL : List (Str × D) := [("LETTERS", .str "abcdefghijklmnopqrstuvwxyz"), ("SIGNS", .str "0123456789abcdefghijklmnopqrstuvwxyz"), ("MOST_OF_NAMES", .int (4)), ("MOST_OF_TEXTS", .int (6)), ("KEPT", .tup [.str "as", .str "by", .str "end", .str "to"]), ("LACKING", .str "-")]
def blL : List Str := ["len", "isinstance", "str", "all", "any", "tuple", "list", "sorted", "abs", "enumerate", "zip", "set"]
def kitL : List ((Ty × Ty) × Bool) := ([((.inl "NoneType", .inl "list"), false), ((.inl "bool", .inl "list"), false), ((.inl "int", .inl "list"), false), ((.inl "str", .inl "list"), false), ((.inl "list", .inl "list"), true), ((.inl "tuple", .inl "list"), false), ((.inr 0, .inl "list"), false), ((.inr 1, .inl "list"), false), ((.inr 2, .inl "list"), false), ((.inr 3, .inl "list"), false), ((.inr 4, .inl "list"), false), ((.inr 5, .inl "list"), false), ((.inr 6, .inl "list"), false), ((.inr 7, .inl "list"), false), ((.inr 8, .inl "list"), false)] : List ((Ty × Ty) × Bool)) ++ (([((.inr 9, .inl "list"), false), ((.inr 10, .inl "list"), false), ((.inr 11, .inl "list"), false), ((.inr 12, .inl "list"), false), ((.inl "NoneType", .inl "tuple"), false), ((.inl "bool", .inl "tuple"), false), ((.inl "int", .inl "tuple"), false), ((.inl "str", .inl "tuple"), false), ((.inl "list", .inl "tuple"), false), ((.inl "tuple", .inl "tuple"), true), ((.inr 0, .inl "tuple"), false), ((.inr 1, .inl "tuple"), false), ((.inr 2, .inl "tuple"), false), ((.inr 3, .inl "tuple"), false), ((.inr 4, .inl "tuple"), false)] : List ((Ty × Ty) × Bool)) ++ (([((.inr 5, .inl "tuple"), false), ((.inr 6, .inl "tuple"), false), ((.inr 7, .inl "tuple"), false), ((.inr 8, .inl "tuple"), false), ((.inr 9, .inl "tuple"), false), ((.inr 10, .inl "tuple"), false), ((.inr 11, .inl "tuple"), false), ((.inr 12, .inl "tuple"), false), ((.inl "NoneType", .inr 10), false), ((.inl "bool", .inr 10), false), ((.inl "int", .inr 10), false), ((.inl "str", .inr 10), false), ((.inl "list", .inr 10), false), ((.inl "tuple", .inr 10), false), ((.inr 0, .inr 10), false)] : List ((Ty × Ty) × Bool)) ++ (([((.inr 1, .inr 10), false), ((.inr 2, .inr 10), false), ((.inr 3, .inr 10), false), ((.inr 4, .inr 10), false), ((.inr 5, .inr 10), false), ((.inr 6, .inr 10), false), ((.inr 7, .inr 10), false), ((.inr 8, .inr 10), false), ((.inr 9, .inr 10), false), ((.inr 10, .inr 10), true), ((.inr 11, .inr 10), false), ((.inr 12, .inr 10), false), ((.inl "NoneType", .inr 11), false), ((.inl "bool", .inr 11), false), ((.inl "int", .inr 11), false)] : List ((Ty × Ty) × Bool)) ++ (([((.inl "str", .inr 11), false), ((.inl "list", .inr 11), false), ((.inl "tuple", .inr 11), false), ((.inr 0, .inr 11), false), ((.inr 1, .inr 11), false), ((.inr 2, .inr 11), false), ((.inr 3, .inr 11), false), ((.inr 4, .inr 11), false), ((.inr 5, .inr 11), false), ((.inr 6, .inr 11), false), ((.inr 7, .inr 11), false), ((.inr 8, .inr 11), false), ((.inr 9, .inr 11), false), ((.inr 10, .inr 11), false), ((.inr 11, .inr 11), true)] : List ((Ty × Ty) × Bool)) ++ (([((.inr 12, .inr 11), false), ((.inl "NoneType", .inl "str"), false), ((.inl "bool", .inl "str"), false), ((.inl "int", .inl "str"), false), ((.inl "str", .inl "str"), true), ((.inl "list", .inl "str"), false), ((.inl "tuple", .inl "str"), false), ((.inr 0, .inl "str"), false), ((.inr 1, .inl "str"), false), ((.inr 2, .inl "str"), false), ((.inr 3, .inl "str"), false), ((.inr 4, .inl "str"), false), ((.inr 5, .inl "str"), false), ((.inr 6, .inl "str"), false), ((.inr 7, .inl "str"), false)] : List ((Ty × Ty) × Bool)) ++ (([((.inr 8, .inl "str"), false), ((.inr 9, .inl "str"), false), ((.inr 10, .inl "str"), false), ((.inr 11, .inl "str"), false), ((.inr 12, .inl "str"), false), ((.inl "NoneType", .inr 0), false), ((.inl "bool", .inr 0), false), ((.inl "int", .inr 0), false), ((.inl "str", .inr 0), false), ((.inl "list", .inr 0), false), ((.inl "tuple", .inr 0), false), ((.inr 0, .inr 0), true), ((.inr 1, .inr 0), false), ((.inr 2, .inr 0), false), ((.inr 3, .inr 0), false)] : List ((Ty × Ty) × Bool)) ++ (([((.inr 4, .inr 0), false), ((.inr 5, .inr 0), false), ((.inr 6, .inr 0), false), ((.inr 7, .inr 0), false), ((.inr 8, .inr 0), false), ((.inr 9, .inr 0), false), ((.inr 10, .inr 0), false), ((.inr 11, .inr 0), false), ((.inr 12, .inr 0), false), ((.inl "NoneType", .inr 1), false), ((.inl "bool", .inr 1), false), ((.inl "int", .inr 1), false), ((.inl "str", .inr 1), false), ((.inl "list", .inr 1), false), ((.inl "tuple", .inr 1), false)] : List ((Ty × Ty) × Bool)) ++ (([((.inr 0, .inr 1), false), ((.inr 1, .inr 1), true), ((.inr 2, .inr 1), true), ((.inr 3, .inr 1), true), ((.inr 4, .inr 1), true), ((.inr 5, .inr 1), true), ((.inr 6, .inr 1), true), ((.inr 7, .inr 1), true), ((.inr 8, .inr 1), true), ((.inr 9, .inr 1), true), ((.inr 10, .inr 1), true), ((.inr 11, .inr 1), true), ((.inr 12, .inr 1), false), ((.inl "NoneType", .inr 12), false), ((.inl "bool", .inr 12), false)] : List ((Ty × Ty) × Bool)) ++ (([((.inl "int", .inr 12), false), ((.inl "str", .inr 12), false), ((.inl "list", .inr 12), false), ((.inl "tuple", .inr 12), false), ((.inr 0, .inr 12), false), ((.inr 1, .inr 12), false), ((.inr 2, .inr 12), false), ((.inr 3, .inr 12), false), ((.inr 4, .inr 12), false), ((.inr 5, .inr 12), false), ((.inr 6, .inr 12), false), ((.inr 7, .inr 12), false), ((.inr 8, .inr 12), false), ((.inr 9, .inr 12), false), ((.inr 10, .inr 12), false)] : List ((Ty × Ty) × Bool)) ++ (([((.inr 11, .inr 12), false), ((.inr 12, .inr 12), true)] : List ((Ty × Ty) × Bool))))))))))))
def nfL : List (Nat × Nat) := ([(0, 0), (1, 1), (2, 2), (3, 3), (4, 4), (5, 5), (6, 6), (7, 7), (8, 8), (9, 9), (10, 10), (11, 11), (12, 12)] : List (Nat × Nat))
def tb : Tb := ⟨defsL, clsL, gfnL, gclL, gvL, blL, kitL, nfL, 1000000⟩
abbrev R : PySem.W.OpenRow := PySem.W.OpenLaw.row PySem.Challenge.rw_meltback_k74_arguments_by_names
abbrev qv : Program := PySem.W.view R.prog [62]
def loose : List Str := (["TableError", "InvalidTable", "InvalidStep", "InvalidScript", "InvalidText", "Mismatch", "NoRow", "NoStep", "NoColumn", "LETTERS", "SIGNS", "MOST_OF_NAMES"] : List Str) ++ ((["MOST_OF_TEXTS", "KEPT", "is_sequence", "is_name", "is_text", "is_cell", "are_names", "LACKING", "is_part", "is_empty", "row_text", "common_part"] : List Str) ++ ((["greatest", "check_rows", "cells_of", "Table", "need", "need_steps", "are_there", "ends_of", "done", "steps_text", "block_text", "Step"] : List Str) ++ ((["Pick", "Rename", "Has", "Is", "Put", "Alike", "Melt", "Pivot", "Join", "Stack", "melt_of", "pivot_of"] : List Str) ++ ((["step_of", "step_in", "closed", "steps_of", "Script", "_law_number", "_law_steps_alike"] : List Str)))))
abbrev hk : PySem.W.Hook := hookM tb
def ob (s : PySem.W.SharedT) : AlM := obsMG tb (HandSHeadRun.getT s)
theorem ob_eq (s : PySem.W.SharedT) : ob s = hk.obs s.abs := obsMG_eq (HandSHeadRun.getT_eq s)
def lawIx : Nat := 216
theorem stC_all : tb.defs.all stC = true := by decide +kernel
theorem run_head (w : World) : HandSHeadRun.RunEq R qv hk ob 60000 loose w := by
  intro os
  kernel_rfl
end Mi.Law
set_option maxRecDepth 100000
set_option maxHeartbeats 4000000
namespace Mi.Law
open PySem PySem.Spec L2 Mi
open PyProof.Rows hiding St
def subD : D → D → Option D := gI (fun _ _ => true) fun i j => .int (i - j)
def mulD : D → D → Option D := gI mulOk fun i j => .int (i * j)
def fdivD : D → D → Option D := gI (fun _ j => decide (0 < j ∧ j < 1073741824)) fun i j => .int (i / j)
def modD : D → D → Option D := gI (fun _ j => decide (0 < j)) fun i j => .int (i % j)
def loopB : Sm Unit := sAsg (eBin modD (eBin addD (eBin addD (eBin mulD (eVar 2) (eC (.int 31))) (eBin modD (ePure gAbs (aCons (eVar 3) aNil)) (eC (.int 1000003)))) (eVar 1)) (eC (.int 1000003))) (gNm 2)
def b214 : Sm Unit := sSeq (sAlt (sOwn 2 (eBin gAddL (eC (.int 23)) (eVar 1))) (sAsg (eBin addD (eC (.int 23)) (eVar 1)) (gNm 2)))
  (sSeq (sFor (iOf walkA (eSl (eVar 0) oNo (oYes (eC (.int 50))))) (gNm 3) loopB) (sRet (eBin modD (eBin fdivD (eVar 2) (eC (.int 7))) (eC (.int 5)))))
theorem b214_eq (rn : Nat → List D → Unit → Option (D × Unit)) : runB tb rn d214 = b214 := by kernel_rfl
theorem loop_ok (L : D) (t : Int) (ht : t = 1 ∨ t = 2) : ∀ (l : List Int) (z : Int) (s3 : Slot), 0 ≤ z → z < 1000003 → ∃ z' s3', 0 ≤ z' ∧ z' < 1000003 ∧ forL (gNm 3) loopB (l.map D.int) ⟨[.fz L, .fz (.int t), .fz (.int z), s3], ()⟩ = some (.nx, ⟨[.fz L, .fz (.int t), .fz (.int z'), s3'], ()⟩)
  | [], z, s3, h1, h2 => ⟨z, s3, h1, h2, rfl⟩
  | n :: l, z, s3, h1, h2 => by
    have hm : mulOk z 31 = true := by unfold mulOk; rw [show decide ((31 : Int).natAbs < 2 ^ 64) = true from by decide, Bool.or_true]
    obtain ⟨z', s3', a, b, e⟩ := loop_ok L t ht l ((z * 31 + (if n < 0 then -n else n) % 1000003 + t) % 1000003) (.fz (.int n)) (Int.emod_nonneg _ (by decide)) (Int.emod_lt_of_pos _ (by decide))
    refine ⟨z', s3', a, b, ?_⟩
    have hb : loopB ⟨[.fz L, .fz (.int t), .fz (.int z), .fz (.int n)], ()⟩ = some (.nx, ⟨[.fz L, .fz (.int t), .fz (.int ((z * 31 + (if n < 0 then -n else n) % 1000003 + t) % 1000003)), .fz (.int n)], ()⟩) := by
      simp [loopB, sAsg, eBin, modD, mulD, addD, eVar, eC, ePure, aCons, aNil, gI, orG, gAbs, gNm, hm]
    rw [List.map_cons, forL]
    simp only [gNm, List.set_cons_succ, List.set_cons_zero, hb]
    exact e
theorem num_ok (rn : Nat → List D → Unit → Option (D × Unit)) (ns : List Int) (hl : ns.length ≤ 63) (t : Int) (ht : t = 1 ∨ t = 2) : ∃ r : Int, 0 ≤ r ∧ r < 5 ∧ runD tb rn d214 [.lok (ns.map D.int), .int t] () = some (.int r, ()) := by
  obtain ⟨z', s3', a, b, e⟩ := loop_ok (.lok (ns.map D.int)) t ht (ns.take 50) (23 + t) .un (by omega) (by omega)
  refine ⟨z' / 7 % 5, Int.emod_nonneg _ (by decide), Int.emod_lt_of_pos _ (by decide), ?_⟩
  show runF 4 (runB tb rn d214) _ _ = _
  rw [b214_eq]
  have h1 : b214 ⟨[.fz (.lok (ns.map D.int)), .fz (.int t), .un, .un], ()⟩ = some (.rt (.int (z' / 7 % 5)), ⟨[.fz (.lok (ns.map D.int)), .fz (.int t), .fz (.int z'), s3'], ()⟩) := by
    have hc : cutD (.lok (ns.map D.int)) none (some 50) = some (.lst ((ns.take 50).map D.int)) := by
      have : HT.sIx (ns.map D.int).length (ns.map D.int).length (some 50) - HT.sIx (ns.map D.int).length 0 none = min 50 ns.length := by
        simp [HT.sIx]
      have h0 : HT.sIx (ns.map D.int).length 0 none = 0 := rfl
      simp only [cutD]
      rw [this, h0, List.drop_zero, ← List.map_take]
      congr 3
      rw [List.take_eq_take_iff]
      omega
    have hs : (iOf walkA (eSl (eVar 0) oNo (oYes (eC (.int 50)))) : As Unit) ⟨[.fz (.lok (ns.map D.int)), .fz (.int t), .fz (.int (23 + t)), .un], ()⟩ = some ((ns.take 50).map D.int, ⟨[.fz (.lok (ns.map D.int)), .fz (.int t), .fz (.int (23 + t)), .un], ()⟩) := by
      simp [iOf, eSl, eVar, oNo, oYes, eC, hc, walkA, walkD]
    generalize ns.take 50 = l at hs e
    simp [b214, sSeq, sAlt, sOwn, sAsg, eBin, gAddL, addD, orG, gI, eC, eVar, gNm, sFor, hs, e, sRet, modD, fdivD]
  show runF 4 b214 [.lok (ns.map D.int), .int t] () = _
  unfold runF
  rw [show initSl 4 [.lok (ns.map D.int), .int t] = [.fz (.lok (ns.map D.int)), .fz (.int t), .un, .un] from rfl]
  rw [h1]

/-- the law's body behind its first statement -/
def restB (rn : Nat → List D → Unit → Option (D × Unit)) : Sm Unit := (cvs (cvOf tb rn d216.N) deep).B d216.scope (d216.body.drop 1)
def firB : Sm Unit := sPar 1 2 (aCons (eBin gIxA (eC (.str "abxyz")) (eCall ⟨2, fun ds es => placeF ["_law_script", "_law_turn"] [] ds es [], run tb 40 214⟩ 0 (aCons (eVar 0) (aCons (eC (.int 1)) aNil)) aNil)) (aCons (eBin gIxA (ePure gLstD (aCons (eC (.str "1")) (aCons (eC (.str "q")) (aCons (eC (.str "01")) (aCons (eC (.str "zz9")) (aCons (eC (.str "a")) aNil)))))) (eCall ⟨2, fun ds es => placeF ["_law_script", "_law_turn"] [] ds es [], run tb 40 214⟩ 0 (aCons (eVar 0) (aCons (eC (.int 2)) aNil)) aNil)) aNil))
theorem b216_eq : runB tb (run tb 40) d216 = sSeq firB (restB (run tb 40)) := by kernel_rfl
end Mi.Law
set_option maxHeartbeats 0
namespace Mi.Law
open PySem PySem.Spec L2 Mi
open PyProof.Rows hiding St
def za (a : Nat) : D := (D.str (["a", "b", "x", "y", "z"].getD a ""))
def zt (b : Nat) : D := (D.str (["1", "q", "01", "zz9", "a"].getD b ""))
def chk (L : D) (a b : Nat) : Bool := match restB (run tb 40) ⟨[.fz L, .fz (za a), .fz (zt b), .un, .un, .un, .un, .un, .un], ()⟩ with
  | some (.rt (.bl true), _) => true
  | _ => false
theorem cs0 (L : D) : ([0, 1, 2, 3, 4].all fun b => chk L 0 b) = true := by kernel_rfl
theorem cs1 (L : D) : ([0, 1, 2, 3, 4].all fun b => chk L 1 b) = true := by kernel_rfl
theorem cs2 (L : D) : ([0, 1, 2, 3, 4].all fun b => chk L 2 b) = true := by kernel_rfl
theorem cs3 (L : D) : ([0, 1, 2, 3, 4].all fun b => chk L 3 b) = true := by kernel_rfl
theorem cs4 (L : D) : ([0, 1, 2, 3, 4].all fun b => chk L 4 b) = true := by kernel_rfl
theorem cs (L : D) (a b : Nat) (ha : a < 5) (hb : b < 5) : chk L a b = true := by
  have hb' : b ∈ [0, 1, 2, 3, 4] := by
    match b, hb with
    | 0, _ => decide
    | 1, _ => decide
    | 2, _ => decide
    | 3, _ => decide
    | 4, _ => decide
  match a, ha with
  | 0, _ => exact List.all_eq_true.mp (cs0 L) b hb'
  | 1, _ => exact List.all_eq_true.mp (cs1 L) b hb'
  | 2, _ => exact List.all_eq_true.mp (cs2 L) b hb'
  | 3, _ => exact List.all_eq_true.mp (cs3 L) b hb'
  | 4, _ => exact List.all_eq_true.mp (cs4 L) b hb'
end Mi.Law
namespace Mi.Law
open PySem PySem.Spec L2 Mi
open PyProof.Rows hiding St
theorem nat5 {r : Int} (h1 : 0 ≤ r) (h2 : r < 5) : ∃ a : Nat, a < 5 ∧ r = (a : Int) := ⟨r.toNat, by omega, by omega⟩
theorem ix_a (a : Nat) (h : a < 5) : gIxA (.str "abxyz") (.int (a : Int)) = some (za a) := by
  match a, h with
  | 0, _ => kernel_rfl
  | 1, _ => kernel_rfl
  | 2, _ => kernel_rfl
  | 3, _ => kernel_rfl
  | 4, _ => kernel_rfl
theorem ix_t (a : Nat) (h : a < 5) : gIxA (.lst [.str "1", .str "q", .str "01", .str "zz9", .str "a"]) (.int (a : Int)) = some (zt a) := by
  match a, h with
  | 0, _ => kernel_rfl
  | 1, _ => kernel_rfl
  | 2, _ => kernel_rfl
  | 3, _ => kernel_rfl
  | 4, _ => kernel_rfl
theorem call_num (L : D) (t : Int) (r : Int) (st : S Unit) (e : run tb 40 214 [L, .int t] () = some (.int r, ())) : eGo ⟨2, fun ds es => placeF ["_law_script", "_law_turn"] [] ds es [], run tb 40 214⟩ 0 [L, .int t] [] st = some (.int r, { st with w := () }) := by
  unfold eGo
  rw [if_pos ⟨rfl, rfl⟩]
  dsimp only
  rw [show placeF ["_law_script", "_law_turn"] [] [L, .int t] [] [] = some [L, .int t] from by kernel_rfl]
  dsimp only
  rw [show st.w = () from rfl, e]
theorem hrun (ns : List Int) (hl : ns.length ≤ 63) : run tb 41 216 [.lok (ns.map D.int)] () = some (.bl true, ()) := by
  obtain ⟨r1, p1, p2, e1⟩ := num_ok (run tb 39) ns hl 1 (.inl rfl)
  obtain ⟨r2, p3, p4, e2⟩ := num_ok (run tb 39) ns hl 2 (.inr rfl)
  obtain ⟨a, ha, rfl⟩ := nat5 p1 p2
  obtain ⟨b, hb, rfl⟩ := nat5 p3 p4
  have f1 : run tb 40 214 [.lok (ns.map D.int), .int 1] () = some (.int (a : Int), ()) := e1
  have f2 : run tb 40 214 [.lok (ns.map D.int), .int 2] () = some (.int (b : Int), ()) := e2
  have hc := cs (.lok (ns.map D.int)) a b ha hb
  show runF 9 (runB tb (run tb 40) d216) [.lok (ns.map D.int)] () = _
  generalize D.lok (ns.map D.int) = L at *
  rw [b216_eq]
  unfold runF
  rw [show initSl 9 [L] = [.fz L, .un, .un, .un, .un, .un, .un, .un, .un] from rfl]
  have h1 : firB ⟨[.fz L, .un, .un, .un, .un, .un, .un, .un, .un], ()⟩ = some (.nx, ⟨[.fz L, .fz (za a), .fz (zt b), .un, .un, .un, .un, .un, .un], ()⟩) := by
    simp [firB, sPar, aCons, aNil, eBin, eC, eCall, eVar, call_num L 1 _ _ f1, call_num L 2 _ _ f2, ix_a a ha, ix_t b hb, ePure, gLstD, sizeLine]
  unfold chk at hc
  simp only [sSeq, h1]
  split at hc
  · rename_i z hz
    rw [hz]
  · cases hc
end Mi.Law
open PySem PySem.W PySem.Calls PyProof.Rows
theorem PySem.Challenge.cw_meltback_k74_arguments_by_names_holds : PySem.Challenge.rw_meltback_k74_arguments_by_names.Holds := by
  w_on; o_law
  refine HandSHeadRun.head_any (r := OpenLaw.row PySem.Challenge.rw_meltback_k74_arguments_by_names) (q := Mi.Law.qv) (H := Mi.Law.hk) (ob := Mi.Law.ob) (M := 60000) (loose := Mi.Law.loose) (d := HandSHeadRun.topDef (OpenLaw.row PySem.Challenge.rw_meltback_k74_arguments_by_names).prog 62) (kwd := []) Mi.Law.ob_eq
    (by kernel_rfl) (fun s => by kernel_rfl) Mi.Law.run_head (by kernel_rfl) (by kernel_rfl) (by kernel_rfl) (by rfl) (by first | assumption | decide +kernel) (by decide +kernel) ⟨rfl, rfl, rfl, rfl, rfl, by decide +kernel⟩ ?hw ?hc
  case hw => w_witness2
  case hc => exact Mi.walk_ofM (l := PySem.Challenge.rw_meltback_k74_arguments_by_names) (n := 63) (lv := 41) (il := 216) (tb := Mi.Law.tb) (e := Mi.Law.d216) (x := "_law_script") rfl (by decide) (by kernel_rfl) ⟨rfl, by decide, by decide⟩ Mi.Law.stC_all (by kernel_rfl) (by kernel_rfl) (by kernel_rfl) (by kernel_rfl) (by kernel_rfl) Mi.Law.hrun
