import PyProof.Rows.All
import Wide.All
import OpenK.AllK
import Wide.FinOn
import HandS.TupSets
import HandS.Strs
import HandS.Zip
import HandS.Iter
import HandS.ForMost
import KE.GoesEnum
import HandS.IsInst
import HandS.TupAny
import HandS.TupMul
import HandS.Wide
import HandS.Walk
import HandS.Exc
import HandS.TryOnly
import HandS.ExcOwn
import HandS.Text
import HandS.Style
import HandS.SortInts
import HandS.Flt
import HandS.ExcCtx
import HandS.ExcInit
import HandS.Ends
import KE.KExcSuper
import KE.KSuper
import HandS.ExcIs
import HandS.ExcField
import HandS.HotCalls
import HandS.CallSlots
import HandS.Comp
import HandS.WordsExc
import HandS.Defaults
import HandS.HeadHook3
import PySem.Challenge.RW_packetoaths_k61_sources_are_checked
set_option Elab.async false
set_option maxRecDepth 100000
/-! St0: set(xs) of a list of ints, as the sets that sorted walks. -/
namespace Zp
open PySem PySem.Spec PyProof.Rows L2
section
variable {P : Program} {w : World} {A : Around} {E : Value → Shared → Prop} {s : Shared}
/-- a set, new -/
abbrev sOb (w : World) : Obj := { cls := .type "set", dict := none, data := .set #[] 0 (.fresh 0 0 (!w.params.followText "set-order")) }
/-- what a set of the first ones is -/
def Sin (ns : List Int) (i : Nat) (k : Int) : Bool := (ns.take i).any (· == k)
theorem sin_next {ns : List Int} {i : Nat} {x : Int} (h : ns[i]? = some x) (k : Int) : (Sin ns i k || decide (k = x)) = Sin ns (i + 1) k := by
  unfold Sin
  rw [List.take_add_one, h]
  simp only [Option.toList, List.any_append, List.any_cons, List.any_nil, Bool.or_false]
  congr 1
  by_cases e : k = x
  · subst e; simp
  · have e' : ¬ x = k := fun z => e z.symm
    simp [e, e']
theorem SetR.stay {h h' : Heap} {a : Addr} {S : Int → Bool} {n : Nat} (R : SetR w h a S n) (k : ∀ o, h.get? a = some o → h'.get? a = some o) : SetR w h' a S n := by
  obtain ⟨o, es, ep, t, ho, r⟩ := R
  exact ⟨o, es, ep, t, k o ho, r⟩
theorem ints_nth : ∀ {vs : List Value} {ns : List Int} {i : Nat} {v : Value}, IntsAre vs ns → vs[i]? = some v → ∃ x t, ns[i]? = some x ∧ v = .int x t
  | _, _, _, _, .nil, e => by simp at e
  | _, _, 0, _, .cons k t h, e => by simp at e; subst e; exact ⟨k, t, rfl, rfl⟩
  | _, _, i + 1, _, .cons _ _ h, e => by
    obtain ⟨x, t, e1, e2⟩ := ints_nth (i := i) h (by simpa using e)
    exact ⟨x, t, by simpa using e1, e2⟩
/-- set.update's own loop, ints -/
theorem upd_ints {I : Addr} {fp wr : List Addr} {Gn : Array GenState → Array GenState → Prop} {n : Nat} {Pv : Nat → Value → Prop} {Stt : Nat → Shared → Prop} {R : Result → Shared → Prop}
    (W : WalksS P w A.in1 I fp wr Gn n Pv Stt) (a : Addr) (af : a ∉ fp) (ns : List Int) (hn : n = ns.length) (few : ns.length < 4000) (hval : ∀ i v, Pv i v → ∃ x t, ns[i]? = some x ∧ v = .int x t) (h0 : Heap) (ha0 : h0.get? a = none) (hw0 : ∀ b ∈ wr, h0.get? b = none) :
    ∀ (k i : Nat) (s : Shared), n - i = k → i ≤ n → Stt i s → (∀ b o, h0.get? b = some o → s.heap.get? b = some o) → (∃ m, m ≤ i ∧ SetR w s.heap a (Sin ns i) m) →
      (∀ s' m, Moved (a :: wr) Gn s s' → m ≤ n → SetR w s'.heap a (Sin ns n) m → (∀ b o, h0.get? b = some o → s'.heap.get? b = some o) → R (.ok (.ret .none)) s') →
      codeAny (model P w) A (.builtin "set.update.loop" ⟨[.ref a, .ref I], []⟩) R s := by
  have aw : a ∉ wr := fun z => af (W.sub _ z)
  have more : ∀ b ∈ wr, b ∈ a :: wr := fun b z => List.mem_cons_of_mem _ z
  have stays : ∀ {s s' : Shared}, Moved wr Gn s s' → (∀ b o, h0.get? b = some o → s.heap.get? b = some o) → ∀ b o, h0.get? b = some o → s'.heap.get? b = some o := fun mv kp b o e =>
    mv.heap b o (fun z => by rw [hw0 b z] at e; cases e) (kp b o e)
  intro k
  induction k with
  | zero =>
    intro i s q1 q2 st kp ⟨m, mi, R0⟩ fin
    have e : i = n := by omega
    subst e
    refine codeAny_builtin F.entry_set_update_loop ?_
    rw [Around.under_plainId F.plain_set_update_loop _]
    show wpAny _ A.in1 (pyNext (.ref I) >>= _) _ _ s
    refine wpAny_bind (W.done s _ _ st fun s' mv => ?_)
    show wpAny _ A.in1 (ret Value.none) _ _ s'
    exact wpAny_pure (fin s' m (mv.mono more) mi (SetR.stay R0 fun o e => mv.heap a o aw e) (stays mv kp))
  | succ k ih =>
    intro i s q1 q2 st kp ⟨m, mi, R0⟩ fin
    have lt : i < n := by omega
    refine codeAny_builtin F.entry_set_update_loop ?_
    rw [Around.under_plainId F.plain_set_update_loop _]
    show wpAny _ A.in1 (pyNext (.ref I) >>= _) _ _ s
    refine wpAny_bind (W.item i s _ _ lt st fun v s' pv st' mv => ?_)
    obtain ⟨x, t, hx, rfl⟩ := hval i v pv
    have kp' := stays mv kp
    have R1 : SetR w s'.heap a (Sin ns i) m := SetR.stay R0 fun o e => mv.heap a o aw e
    show wpAny _ A.in1 (holding [Value.int x t] (setAdd a (.int x t)) >>= _) _ _ s'
    refine wpAny_bind (wpAny_holding ?_)
    unfold setAdd
    refine wpAny_holding ?_
    refine wpAny_bind ((intKind P w).pyHash (intKind_is P w x t) ?_)
    refine setR_add_hashed (s := { s' with toks := s'.toks + 1 }) R1 (by unfold scanBound; omega) fun h' sb R2 => ?_
    have R3 : SetR w h' a (Sin ns (i + 1)) (if Sin ns i x = true then m else m + 1) := R2.congr fun k => (sin_next hx k).symm
    have kp2 : ∀ b o, h0.get? b = some o → h'.get? b = some o := fun b o e => (sb.2 b (fun z => by rw [z, ha0] at e; cases e)).trans (kp' b o e)
    refine wpAny_pure ⟨plainId_quiet F.plain_set_update_loop _, ih (i + 1) _ (by omega) lt (W.frame _ s' _ _ st' (Nat.le_add_right _ _) fun b hb o e => ?_) kp2 ⟨_, by split <;> omega, R3⟩ fun s2 m2 mv2 le2 R4 kp3 => ?_⟩
    · rw [sb.2 b (fun z : b = a => af (by rw [← z]; exact hb))]; exact e
    · refine fin s2 m2 (Moved.trans W.gtrans ((mv.mono more).then_heap (Nat.le_add_right _ _) fun b o hb e => ?_) mv2) le2 R4 kp3
      rw [sb.2 b (fun z : b = a => hb (by rw [z]; exact List.mem_cons_self))]; exact e
set_option maxHeartbeats 3200000 in
/-- set(xs), few ints -/
theorem call_set_ints {l : Addr} {items : Array Value} (ns : List Int) {Q : Value → Shared → Prop} (hh : A.handled = none) (hl : s.heap.IsList l items) (hi : IntsAre items.toList ns) (few : ns.length < 4000)
    (h : ∀ (h' : Heap) (tk m : Nat), m ≤ ns.length → SetR w h' s.heap.objs.size (Sin ns ns.length) m → (∀ b o, s.heap.get? b = some o → h'.get? b = some o) → Q (.ref s.heap.objs.size) { s with heap := h', toks := tk }) :
    wpAny (model P w) A (call (.type "set") [.ref l]) Q E s := by
  have isz : items.size = ns.length := by rw [← Array.length_toList]; exact hi.length
  obtain ⟨c, tl, mro⟩ := F.called_set.mro
  have made := F.called_set.made; have subs := F.called_set.sub
  refine wpAny_call (codeAny_of_tree ?_)
  show wpAny _ _ (callAny (.type "set") _) _ _ _
  refine wpAny_pure ⟨Code.quiet_builtin _ (by decide +kernel), codeAny_builtin F.entry_type_call ?_⟩
  rw [Around.under_plain (weight_type_call_type "set" [.ref l] []) rfl]
  have g1 := F.called_set.notType; have g2 := F.called_set.canCreate; have g3 := F.typeCall_set_1 (.ref l)
  repeat (any_goals (first | assumption | wp_step))
  refine codeAny_mono (code_set_led1 (.ref l) (E := E) (Q₁ := fun ob s1 => ob = .ref s.heap.objs.size ∧ s1 = { s with heap := s.heap.push (sOb w) }) ⟨rfl, rfl⟩) fun r s1 hr => ?_
  cases r with
  | error e => exact hr
  | ok fl =>
    cases fl with
    | ret ob =>
      obtain ⟨rfl, rfl⟩ := hr
      have hS : (s.heap.push (sOb w)).get? s.heap.objs.size = some (sOb w) := Heap.get?_push_size _ rfl
      have hT : Shared.TypeIs { s with heap := s.heap.push (sOb w) } (.ref s.heap.objs.size) "set" := ⟨_, hS, rfl⟩
      have i1 := F.called_set.init.lookup; have i2 := F.called_set.init.bind (.ref s.heap.objs.size)
      repeat (any_goals (first | assumption | wp_step))
      refine codeAny_mono (codeAny_call_builtin (R := wants (fun r s2 => r = .none ∧ ∃ h' tk m, s2 = { s with heap := h', toks := tk } ∧ m ≤ ns.length ∧ SetR w h' s.heap.objs.size (Sin ns ns.length) m ∧
          (∀ b o, s.heap.get? b = some o → h'.get? b = some o)) E) F.called_set.init.plain F.entry_set_init (check_set_init_1 hT ?_)) fun r2 s2 hr2 => ?_
      · obtain ⟨ol, hol, hcl, nl, hdl⟩ := hl
        obtain ⟨ocls, odict, odata, oslots⟩ := ol
        simp only at hcl hdl
        subst hcl; subst hdl
        have hol' : (s.heap.push (sOb w)).get? l = some { cls := .type "list", dict := odict, data := .seq items nl, slots := oslots } := Heap.get?_push_of_some _ hol
        have e1 := F.sub_list_set; have e2 := F.sub_list_frozenset
        have e3 : (Value.type "list" == Value.type "dict") = false := by decide
        have hl1 : (s.heap.push (sOb w)).IsList l items := ⟨_, hol', rfl, nl, rfl⟩
        unfold Builtin.«set.__init__» noKeywords Builtin.Frozenset.updateFrom
        generalize hPI : pyIter = PI
        wp_walk
        subst hPI
        refine wpAny_pyIter_list hl1 ?_
        refine wpAny_bind (wpAny_runValue ?_)
        have lS : l < s.heap.objs.size := Heap.lt_size hol
        have h3 : A.in1.in1.in1.handled = none := by simp [hh]
        have neI : l ≠ (s.heap.push (sOb w)).objs.size := by
          rw [Heap.size_push]; exact Nat.ne_of_lt (Nat.lt_succ_of_lt lS)
        have nf : s.heap.objs.size ∉ [(s.heap.push (sOb w)).objs.size, l] := by
          rw [Heap.size_push]; simp only [List.mem_cons, List.mem_singleton, List.not_mem_nil, or_false, not_or]
          exact ⟨Nat.ne_of_lt (Nat.lt_succ_self _), Nat.ne_of_gt lS⟩
        have vals : ∀ (i : Nat) (v : Value), items[i]? = some v → ∃ x t, ns[i]? = some x ∧ v = .int x t := fun i v hv => by
          have q : items.toList[i]? = some v := by rw [Array.getElem?_toList]; exact hv
          exact ints_nth hi q
        have free : ∀ b, s.heap.objs.size ≤ b → s.heap.get? b = none := fun b hb => by
          cases q : s.heap.get? b with
          | none => rfl
          | some o => exact absurd (Nat.lt_of_lt_of_le (Heap.lt_size q) hb) (Nat.lt_irrefl _)
        refine upd_ints ((Walks.list h3 _ l neI items).toS) s.heap.objs.size
          nf ns isz few vals s.heap (free _ (Nat.le_refl _)) (fun b hb => free b (by
            rw [List.mem_singleton.mp hb, Heap.size_push]
            exact Nat.le_succ _)) (items.size - 0) 0 _ (by omega) (Nat.zero_le _)
          ⟨⟨_, Heap.get?_push_size _ rfl, rfl, rfl⟩, (hl1.push _)⟩ (fun b o e => Heap.get?_push_of_some _ (Heap.get?_push_of_some _ e)) ?S0 ?Rr
        case S0 => exact ⟨0, Nat.le_refl _, SetR.stay ((setR_fresh w).congr fun k => rfl) fun o e => Heap.get?_push_of_some _ e⟩
        case Rr =>
          intro s' m mv le R1 kp
          obtain ⟨h', g4, d4, tk, os4⟩ := s'
          have eg : g4 = s.gens := mv.gens
          have ed : d4 = s.drawn := mv.drawn
          have eo : os4 = s.os := mv.os
          subst eg; subst ed; subst eo
          show wpAny _ _ _ _ _ _
          refine wpAny_pure ?_
          show wpAny _ _ (ret Value.none) _ _ _
          rw [isz] at R1 le
          exact wpAny_pure ⟨rfl, h', tk, m, rfl, le, R1, kp⟩
      · cases r2 with
        | error e => exact hr2
        | ok fl2 =>
          cases fl2 with
          | ret r =>
            obtain ⟨rfl, h', tk, m, rfl, le, R1, kp⟩ := hr2
            repeat (any_goals (first | assumption | wp_step))
            exact h _ _ _ le R1 kp
          | _ => exact hr2.elim
    | _ => exact hr.elim
end
theorem nodup_le : ∀ {ks ds : List Int}, ks.Nodup → (∀ k ∈ ks, k ∈ ds) → ks.length ≤ ds.length
  | [], _, _, _ => Nat.zero_le _
  | k :: ks, ds, nd, h => by
    have n1 := List.nodup_cons.mp nd
    have hk : k ∈ ds := h k List.mem_cons_self
    have q := nodup_le (ds := ds.erase k) n1.2 fun j hj => (List.mem_erase_of_ne (fun e : j = k => n1.1 (by rw [← e]; exact hj))).mpr (h j (List.mem_cons_of_mem _ hj))
    rw [List.length_erase_of_mem hk] at q
    have : 0 < ds.length := List.length_pos_of_mem hk
    rw [List.length_cons]
    omega
theorem setR_few {w : World} {h : Heap} {a : Addr} {ns ds : List Int} {m : Nat} (R : SetR w h a (Sin ns ns.length) m) (k : ∀ j ∈ ns, j ∈ ds) : m ≤ ds.length := by
  obtain ⟨o, es, ep, t, _, _, _, _, nd, hm, _, _, e, _⟩ := R
  have q := nodup_le nd fun j hj => by
    have z := (hm j).mpr hj
    unfold Sin at z
    rw [List.take_length, List.any_eq_true] at z
    obtain ⟨y, hy, e⟩ := z
    have e : y = j := by simpa using e
    subst e
    exact k y hy
  rw [List.length_map, Array.length_toList, e] at q
  exact q
/-- set(xs), few ints -/
def rSetI (K : PySem.W.Frag) (w : World) : List V → Hp → VK → Prop := fun xs H Q => ∃ (l : Addr) (ns : List Int), xs = [V.ref l] ∧ SqL K H l (ns.map V.int) ∧ ns.length < 4000 ∧
  ∀ a m, H a = none → (∀ ds : List Int, (∀ k ∈ ns, k ∈ ds) → m ≤ ds.length) → Q (.ref a) (upd H a (SetO w a (Sin ns ns.length) m))
theorem cr_setI {X : Cx} (hc : X.calm = true) : CallR X (.type "set") (rSetI X.K X.w) := by
  intro pins s σ H xs us Q I r h
  obtain ⟨l, ns, rfl, hl, hf, q⟩ := h
  rw [Vals.ref1 r]
  obtain ⟨its, rv, pl, hz⟩ := I.list hl
  have hn : H s.heap.objs.size = none := I.hok.fresh (Nat.le_refl _)
  refine call_set_ints (P := X.prog) (w := X.w) ns (I.ok.hd hc) pl.isList (by simpa using rv.ints) hf fun h' tk m le R k => ?_
  exact ⟨.ref s.heap.objs.size, upd H s.heap.objs.size (SetO X.w s.heap.objs.size (Sin ns ns.length) m), I.laid (t' := tk) k (Nat.le_refl _) (setO_new R), rfl, q _ m hn fun ds k => setR_few R k⟩
end Zp


set_option Elab.async false
set_option maxRecDepth 100000
set_option maxHeartbeats 2000000
/-! Zp0: zip of two sources of any kind, enumerate of one: tuples, lists, texts. -/
namespace Zp
open PySem PySem.Spec PyProof.Rows L2

/-- what is walked -/
inductive Sk where
  | tup (a : Addr) | lst (a : Addr) | txt (x : Str)
def Sk.val : Sk → V
  | .tup a => .ref a
  | .lst a => .ref a
  | .txt x => .str x
/-- how many there are -/
def Sk.cnt (K : PySem.W.Frag) (H : Hp) : Sk → Nat → Prop
  | .tup a, n => ∃ xs, SqT K H a xs ∧ xs.length = n
  | .lst a, n => ∃ xs, SqL K H a xs ∧ xs.length = n
  | .txt x, n => x.cps.size = n
/-- the one at a place -/
def Sk.one (K : PySem.W.Frag) (H : Hp) : Sk → Nat → V → Prop
  | .tup a, i, v => ∀ xs, SqT K H a xs → xs[i]? = some v
  | .lst a, i, v => ∀ xs, SqL K H a xs → xs[i]? = some v
  | .txt x, i, v => ∃ c, x.cps[i]? = some c ∧ v = .str ⟨#[c]⟩
/-- its iterator -/
def Sk.it : Sk → Addr → Nat → Heap → Prop
  | .tup a, p, i, h => h.IsTupleIter p a i
  | .lst a, p, i, h => h.IsListIter p a i
  | .txt x, p, i, h => ∃ t, h.IsStrIter p (strIterType x) x t i
def Sk.ad : Sk → List Addr
  | .tup a => [a]
  | .lst a => [a]
  | .txt _ => []
theorem Sk.it_at {k : Sk} {p : Addr} {i : Nat} {h h' : Heap} (st : k.it p i h) (q : ∀ o, h.get? p = some o → h'.get? p = some o) : k.it p i h' := by
  cases k with
  | tup a => exact Heap.IsTupleIter.at st q
  | lst a => exact Heap.IsListIter.at st q
  | txt x =>
    obtain ⟨t, o, e, r⟩ := st
    exact ⟨t, o, q o e, r⟩
theorem Sk.it_obj {k : Sk} {p : Addr} {i : Nat} {h : Heap} (st : k.it p i h) : ∃ o, h.get? p = some o ∧ ∀ v, o.data ≠ .cell v := by
  cases k with
  | tup a =>
    obtain ⟨o, e, _, d⟩ := st
    exact ⟨o, e, fun v q => by rw [d] at q; cases q⟩
  | lst a =>
    obtain ⟨o, e, _, d⟩ := st
    exact ⟨o, e, fun v q => by rw [d] at q; cases q⟩
  | txt x =>
    obtain ⟨t, o, e, _, d⟩ := st
    exact ⟨o, e, fun v q => by rw [d] at q; cases q⟩
/-- what the kit's iterators need: at this turn -/
structure Dr (P : Program) (w : World) (A : Around) (K : PySem.W.Frag) (H : Hp) (k : Sk) (p : Addr) (n : Nat) (s : Shared) (i : Nat) (fp : List Addr) (Pv : Nat → Value → Prop) (St : Nat → Heap → Prop) : Prop where
  d : Draws P w A p fp n Pv St
  st : St i s.heap
  mem : p ∈ fp
  sub : ∀ b ∈ fp, b = p ∨ b ∈ k.ad
  it : ∀ j h, St j h → k.it p j h
  one : ∀ x, Pv i x → ∃ v, RelV v x ∧ k.one K H i v
theorem vals_at : ∀ {xs : List V} {us : List Value} {i : Nat} {u : Value}, Vals xs us → us[i]? = some u → ∃ x, xs[i]? = some x ∧ RelV x u := fun {xs us i u} h e => by
  have l := h.length
  have hi : i < us.length := (List.getElem?_eq_some_iff.mp e).1
  have hx : xs[i]? = some (xs[i]'(by omega)) := List.getElem?_eq_getElem (by omega)
  obtain ⟨u', e2, r⟩ := h.get hx
  rw [e] at e2
  cases e2
  exact ⟨_, hx, r⟩
section
variable {X : Cx} {pins : List (Addr × Obj)} {σ : L2.St} {H : Hp} {s : Shared}
theorem dr_of (I : Inv X pins σ H s) {A : Around} (hh : A.handled = none) {k : Sk} {p : Addr} {i n : Nat} (hp : p ∉ k.ad) (st : k.it p i s.heap) (c : k.cnt X.K H n) :
    ∃ fp Pv St, Dr X.prog X.w A X.K H k p n s i fp Pv St := by
  cases k with
  | tup a =>
    obtain ⟨xs, hq, hl⟩ := c
    obtain ⟨its, rv, pt, _⟩ := I.tuple hq
    have hne : a ≠ p := fun z => hp (by simp [Sk.ad, z])
    have e : its.toArray.size = n := by rw [List.size_toArray, ← rv.length, hl]
    subst e
    refine ⟨_, _, _, ⟨Draws.tuple hh p a hne its.toArray, ⟨st, pt⟩, by simp, fun b hb => ?_, fun j h q => q.1, fun x hx => ?_⟩⟩
    · rcases List.mem_cons.mp hb with z | z
      · exact .inl z
      · exact .inr z
    · have hx' : its[i]? = some x := by simpa using hx
      obtain ⟨v, hv, r⟩ := vals_at rv hx'
      exact ⟨v, r, fun ys hy => by rw [I.tuple_inj hy hq]; exact hv⟩
  | lst a =>
    obtain ⟨xs, hq, hl⟩ := c
    obtain ⟨its, rv, pt, _⟩ := I.list hq
    have hne : a ≠ p := fun z => hp (by simp [Sk.ad, z])
    have e : its.toArray.size = n := by rw [List.size_toArray, ← rv.length, hl]
    subst e
    refine ⟨_, _, _, ⟨Draws.list hh p a hne its.toArray, ⟨st, pt.isList⟩, by simp, fun b hb => ?_, fun j h q => q.1, fun x hx => ?_⟩⟩
    · rcases List.mem_cons.mp hb with z | z
      · exact .inl z
      · exact .inr z
    · have hx' : its[i]? = some x := by simpa using hx
      obtain ⟨v, hv, r⟩ := vals_at rv hx'
      exact ⟨v, r, fun ys hy => by rw [I.list_inj hy hq]; exact hv⟩
  | txt x =>
    obtain ⟨t, st⟩ := st
    cases c
    refine ⟨_, _, _, ⟨Draws.text hh p x t, st, by simp, fun b hb => .inl (by simpa using hb), fun j h q => ⟨t, q⟩, fun y hy => ?_⟩⟩
    obtain ⟨c, u, h1, rfl⟩ := hy
    exact ⟨.str ⟨#[c]⟩, ⟨u, rfl⟩, c, h1, rfl⟩
end
/-- where the cells of a zip lie -/
structure Far (k1 k2 : Sk) (N : Nat) : Prop where
  a : ∀ b ∈ k1.ad, b < N
  b : ∀ b ∈ k2.ad, b < N
/-- zip(k1, k2): pairs, each new -/
def Jz (K : PySem.W.Frag) (k1 k2 : Sk) : It :=
  ⟨fun i H => ∃ n m, k1.cnt K H n ∧ k2.cnt K H m ∧ i < n ∧ i < m,
    fun i H v H' => ∃ T x y, v = .ref T ∧ H T = none ∧ H' = upd H T (.tup [x, y]) ∧ k1.one K H i x ∧ k2.one K H i y,
    fun i H => ∃ n m, k1.cnt K H n ∧ k2.cnt K H m ∧ i ≤ n ∧ i ≤ m ∧ (i = n ∨ i = m)⟩
theorem sep_of {k1 k2 : Sk} {N : Nat} {f1 f2 : List Addr} (F : Far k1 k2 N) (h1 : ∀ b ∈ f1, b = N ∨ b ∈ k1.ad) (h2 : ∀ b ∈ f2, b = N + 1 ∨ b ∈ k2.ad) (m1 : N ∈ f1) (m2 : N + 1 ∈ f2) : ZipSep2 (N + 4) (N + 2) (N + 3) N (N + 1) f1 f2 := by
  have o1 : ∀ j, 0 < j → N + j ∉ f1 := fun j hj hm => by
    rcases h1 _ hm with e | e
    · have e' : (N + j : Nat) = N := e
      omega
    · have q : (N + j : Nat) < N := F.a _ e
      omega
  have o2 : ∀ j, j ≠ 1 → N + j ∉ f2 := fun j hj hm => by
    rcases h2 _ hm with e | e
    · have e' : (N + j : Nat) = N + 1 := e
      omega
    · have q : (N + j : Nat) < N := F.b _ e
      omega
  have d : ∀ i j : Nat, i ≠ j → (N + i : Nat) ≠ N + j := fun i j h e => h (by omega)
  exact ⟨d 2 4 (by decide), d 3 4 (by decide), d 2 3 (by decide), d 2 0 (by decide), m1, o1 4 (by decide), o1 3 (by decide), d 2 1 (by decide), m2, o2 4 (by decide), o2 3 (by decide), o2 0 (by decide), o1 1 (by decide)⟩
/-- how a zip stands -/
def zTn (k1 k2 : Sk) (N : Nat) (i : Nat) (h : Heap) : Prop := IsZip h (N + 4) (N + 2) (N + 3) .none ∧ IsTupOf2 h (N + 2) (.ref N) (.ref (N + 1)) ∧ (∃ x y, IsTupOf2 h (N + 3) x y) ∧ k1.it N i h ∧ k2.it (N + 1) i h
def zFp (N : Nat) : List Addr := [N + 4, N + 2, N + 3, N, N + 1]
theorem zFp_in {N : Nat} {c : Addr} (h : c ∈ zFp N) : c = N + 4 ∨ c = N + 2 ∨ c = N + 3 ∨ c = N ∨ c = N + 1 := by simpa [zFp] using h
theorem turn_z {P : Program} {w : World} {K : PySem.W.Frag} {elts : List Expr} {kk : Nat} {tpos : Pos} {k1 k2 : Sk} {N : Nat} (F : Far k1 k2 N) :
    Turn P w K (.Tuple elts kk tpos) (Jz K k1 k2) (zFp N) (N + 4) (zTn k1 k2 N) where
  mem := by simp [zFp]
  obj := fun i h st c hc => by
    obtain ⟨hz, hTI, ⟨x, y, hTO⟩, s1, s2⟩ := st
    rcases zFp_in hc with q | q | q | q | q
    · rw [q]; exact ⟨_, hz, fun v q => nomatch q⟩
    · rw [q]; exact ⟨_, hTI, fun v q => nomatch q⟩
    · rw [q]; exact ⟨_, hTO, fun v q => nomatch q⟩
    · rw [q]; exact Sk.it_obj s1
    · rw [q]; exact Sk.it_obj s2
  keep := fun i h h' st k => by
    obtain ⟨hz, hTI, ⟨x, y, hTO⟩, s1, s2⟩ := st
    exact ⟨k _ (by simp [zFp]) _ hz, k _ (by simp [zFp]) _ hTI, ⟨x, y, k _ (by simp [zFp]) _ hTO⟩, Sk.it_at s1 fun o q => k _ (by simp [zFp]) o q, Sk.it_at s2 fun o q => k _ (by simp [zFp]) o q⟩
  item := by
    intro X hP hw hK hc i pins s σ H E I hf st hg
    subst hP hw hK
    obtain ⟨hz, hTI, ⟨x0, y0, hTO⟩, s1, s2⟩ := st
    obtain ⟨n, m, c1, c2, l1, l2⟩ := hg
    have hh : X.A.in1.handled = none := I.ok.hd hc
    have p1 : N ∉ k1.ad := fun q => Nat.lt_irrefl _ (F.a _ q)
    have p2 : N + 1 ∉ k2.ad := fun q => absurd (F.b _ q) (by show ¬ ((N + 1 : Nat) < N); omega)
    obtain ⟨f1, P1, St1, D1⟩ := dr_of I hh p1 s1 c1
    obtain ⟨f2, P2, St2, D2⟩ := dr_of I hh p2 s2 c2
    have S := sep_of F D1.sub D2.sub D1.mem D2.mem
    have hzl : N + 4 < s.heap.objs.size := Heap.lt_size hz
    refine wpAny_pyNext_zipD2_item S D1.d D2.d hz hTI hTO D1.st D2.st l1 l2 fun u1 u2 h' tk y1 y2 z' TO' e1 e2 hT hsz hk => ?_
    obtain ⟨v1, r1, w1⟩ := D1.one _ y1
    obtain ⟨v2, r2, w2⟩ := D2.one _ y2
    refine ⟨_, rfl, wpAny_letOwnedTupleGo_zip (s := { s with heap := h', toks := tk }) z' fun h'' z'' sb => ?_⟩
    have hT2 : h''.get? s.heap.objs.size = some { cls := .type "tuple", data := .seq #[u1, u2] } := (sb.2 _ (Nat.ne_of_gt hzl)).trans hT
    have new : ObjOk X.prog X.w (upd H s.heap.objs.size (.tup [v1, v2])) h'' s.heap.objs.size (.tup [v1, v2]) :=
      ⟨by show 2 ≤ sizeLine; decide, [u1, u2], .cons r1 (.cons r2 .nil), ⟨_, hT2, rfl, _, rfl⟩⟩
    have I1 : Inv X pins σ (upd H s.heap.objs.size (.tup [v1, v2])) { s with heap := h'', toks := tk } :=
      I.turnedNew (t' := tk) (ch := zFp N) (fun c o hb q => (sb.2 c (fun q' => hb (by simp [q', zFp]))).trans (hk c o (fun q' => hb (by simp [q', zFp])) (fun q' => hb (by simp [q', zFp])) (fun q' => hb (by simp [q', zFp])) (fun q' => hb (by simp [q', zFp])) q)) hf (Nat.le_refl _) new
    have d : ∀ i j : Nat, i ≠ j → (N + i : Nat) ≠ N + j := fun i j h e => h (by omega)
    refine ⟨.ref s.heap.objs.size, _, I1, rfl, ⟨_, v1, v2, rfl, I.hok.fresh (Nat.le_refl _), rfl, w1, w2⟩, ⟨z'', ?_, ⟨u1, u2, ?_⟩, ?_, ?_⟩, fun c hcm => ?_⟩
    · exact (sb.2 _ (d 2 4 (by decide))).trans (hk _ _ (d 2 4 (by decide)) (d 2 3 (by decide)) (d 2 0 (by decide)) (d 2 1 (by decide)) hTI)
    · exact (sb.2 _ (d 3 4 (by decide))).trans TO'
    · exact Sk.it_at (D1.it _ _ e1) fun o q => (sb.2 _ (d 0 4 (by decide))).trans q
    · exact Sk.it_at (D2.it _ _ e2) fun o q => (sb.2 _ (d 1 4 (by decide))).trans q
    · have hlt : c < s.heap.objs.size := by
        have hN : ∀ j : Nat, j ≤ 4 → (N + j : Nat) < s.heap.objs.size := fun j hj => by
          have q : (N + 4 : Nat) < s.heap.objs.size := hzl
          omega
        rcases zFp_in hcm with q | q | q | q | q
        · rw [q]; exact hzl
        · rw [q]; exact hN 2 (by decide)
        · rw [q]; exact hN 3 (by decide)
        · rw [q]; exact hN 0 (by decide)
        · rw [q]; exact hN 1 (by decide)
      rw [upd_ne (Nat.ne_of_lt hlt)]
      exact (hf c hcm).1
  done := by
    intro X hP hw hK hc i pins s σ H E I hf st hg
    subst hP hw hK
    obtain ⟨hz, hTI, ⟨x0, y0, hTO⟩, s1, s2⟩ := st
    obtain ⟨n, m, c1, c2, l1, l2, he⟩ := hg
    have hh : X.A.in1.handled = none := I.ok.hd hc
    have p1 : N ∉ k1.ad := fun q => Nat.lt_irrefl _ (F.a _ q)
    have p2 : N + 1 ∉ k2.ad := fun q => absurd (F.b _ q) (by show ¬ ((N + 1 : Nat) < N); omega)
    obtain ⟨f1, P1, St1, D1⟩ := dr_of I hh p1 s1 c1
    obtain ⟨f2, P2, St2, D2⟩ := dr_of I hh p2 s2 c2
    have S := sep_of F D1.sub D2.sub D1.mem D2.mem
    exact wpAny_pyNext_zipD2_end S D1.d D2.d hz hTI hTO D1.st D2.st l1 l2 he fun h' tk hk => ⟨rfl, I.turnedL (t' := tk) (ch := zFp N) (fun c o hb q =>
      hk c o (fun q' => hb (by simp [q', zFp])) (fun q' => hb (by simp [q', zFp])) (fun q' => hb (by simp [q', zFp])) (fun q' => hb (by simp [q', zFp])) q) hf⟩
  self := fun A i s Q E st h => wpAny_pyIter_zip st.1 h
/-- enumerate(k): pairs, each new -/
def Jn (K : PySem.W.Frag) (k : Sk) : It :=
  ⟨fun i H => ∃ n, k.cnt K H n ∧ i < n, fun i H v H' => ∃ T x, v = .ref T ∧ H T = none ∧ H' = upd H T (.tup [.int (i : Nat), x]) ∧ k.one K H i x, fun i H => k.cnt K H i⟩
def nTn (k : Sk) (N : Nat) (i : Nat) (h : Heap) : Prop := (∃ old, IsEnum h (N + 1) N ((i : Nat) : Int) old) ∧ k.it N i h
theorem turn_n {P : Program} {w : World} {K : PySem.W.Frag} {elts : List Expr} {kk : Nat} {tpos : Pos} {k : Sk} {N : Nat} (F : ∀ b ∈ k.ad, b < N) :
    Turn P w K (.Tuple elts kk tpos) (Jn K k) [N + 1, N] (N + 1) (nTn k N) where
  mem := by simp
  obj := fun i h st c hc => by
    obtain ⟨⟨old, he⟩, s1⟩ := st
    have e' : c = N + 1 ∨ c = N := by simpa using hc
    rcases e' with q | q
    · rw [q]; exact ⟨_, he, fun v q => nomatch q⟩
    · rw [q]; exact Sk.it_obj s1
  keep := fun i h h' st k => by
    obtain ⟨⟨old, he⟩, s1⟩ := st
    exact ⟨⟨old, k _ (by simp) _ he⟩, Sk.it_at s1 fun o q => k _ (by simp) o q⟩
  item := by
    intro X hP hw hK hc i pins s σ H E I hf st hg
    subst hP hw hK
    obtain ⟨⟨old, he⟩, s1⟩ := st
    obtain ⟨n, c1, l1⟩ := hg
    have hh : X.A.in1.handled = none := I.ok.hd hc
    have p1 : N ∉ k.ad := fun q => Nat.lt_irrefl _ (F _ q)
    obtain ⟨f1, P1, St1, D1⟩ := dr_of I hh p1 s1 c1
    have hne : (N + 1 : Nat) ≠ N := by omega
    have hef : N + 1 ∉ f1 := fun q => by
      rcases D1.sub _ q with e | e
      · exact hne e
      · have z : (N + 1 : Nat) < N := F _ e
        omega
    have hel : N + 1 < s.heap.objs.size := Heap.lt_size he
    refine wpAny_pyNext_enum_itemC D1.d he D1.st l1 hne hef fun u h' tk y1 ho e1 hT hsz hk => ?_
    obtain ⟨v1, r1, w1⟩ := D1.one _ y1
    refine ⟨_, rfl, wpAny_letOwnedTupleGo_enum (s := { s with heap := h', toks := tk + 1 }) ho fun h'' he' sb => ?_⟩
    have hT2 : h''.get? s.heap.objs.size = some { cls := .type "tuple", data := .seq #[.int i tk, u] } := (sb.2 _ (Nat.ne_of_gt hel)).trans hT
    have new : ObjOk X.prog X.w (upd H s.heap.objs.size (.tup [.int (i : Nat), v1])) h'' s.heap.objs.size (.tup [.int (i : Nat), v1]) :=
      ⟨by show 2 ≤ sizeLine; decide, [.int i tk, u], .cons ⟨_, rfl⟩ (.cons r1 .nil), ⟨_, hT2, rfl, _, rfl⟩⟩
    have I1 : Inv X pins σ (upd H s.heap.objs.size (.tup [.int (i : Nat), v1])) { s with heap := h'', toks := tk + 1 } :=
      I.turnedNew (ch := [N + 1, N]) (fun b ob hb q => (sb.2 b (fun z => hb (by simp [z]))).trans (hk b ob (fun z => hb (by simp [z])) (fun z => hb (by simp [z])) q)) hf (Nat.le_refl _) new
    refine ⟨.ref s.heap.objs.size, _, I1, rfl, ⟨_, v1, rfl, I.hok.fresh (Nat.le_refl _), rfl, w1⟩, ⟨⟨u, ?_⟩, Sk.it_at (D1.it _ _ e1) fun o q => (sb.2 _ (Ne.symm hne)).trans q⟩, fun b hb => ?_⟩
    · have e2 : ((i + 1 : Nat) : Int) = (i : Int) + 1 := by omega
      rw [e2]; exact he'
    · have hb' : b < s.heap.objs.size := by
        have e' : b = N + 1 ∨ b = N := by simpa using hb
        rcases e' with z | z
        · rw [z]; exact hel
        · rw [z]; exact Nat.lt_of_succ_lt hel
      rw [upd_ne (Nat.ne_of_lt hb')]
      exact (hf b hb).1
  done := by
    intro X hP hw hK hc i pins s σ H E I hf st hg
    subst hP hw hK
    obtain ⟨⟨old, he⟩, s1⟩ := st
    have hh : X.A.in1.handled = none := I.ok.hd hc
    have p1 : N ∉ k.ad := fun q => Nat.lt_irrefl _ (F _ q)
    obtain ⟨f1, P1, St1, D1⟩ := dr_of I hh p1 s1 hg
    exact wpAny_pyNext_enum_endD D1.d he D1.st fun h' hx => ⟨rfl, I.turnedL (t' := s.toks) (ch := [N + 1, N]) (fun c o hb q => hx c o (fun q' => hb (by simp [q'])) q) hf⟩
  self := fun A i s Q E st h => let ⟨⟨_, he⟩, _⟩ := st; wpAny_pyIter_enum he h
/-! ### they begin -/
/-- how a source's iterator begins -/
structure Bg (X : Cx) (s : Shared) (k : Sk) (u : Value) (o : Obj) (P : Heap → Prop) : Prop where
  b : Begins u o P
  h : P s.heap
  it : ∀ (h : Heap) (p : Addr), h.get? p = some o → k.it p 0 h
  lt : ∀ b ∈ k.ad, b < s.heap.objs.size
theorem bg_of {X : Cx} {pins : List (Addr × Obj)} {σ : L2.St} {H : Hp} {s : Shared} (I : Inv X pins σ H s) {k : Sk} {u : Value} {n : Nat} (r : RelV k.val u) (c : k.cnt X.K H n) : ∃ o P, Bg X s k u o P := by
  cases k with
  | tup a =>
    obtain ⟨xs, hq, hl⟩ := c
    obtain ⟨its, rv, pt, _⟩ := I.tuple hq
    obtain rfl : u = Value.ref a := r
    obtain ⟨o, ho, _⟩ := id pt
    exact ⟨_, _, begins_tuple a its.toArray, pt, fun h p e => ⟨_, e, rfl, rfl⟩, fun b hb => by
      have e : b = a := by simpa [Sk.ad] using hb
      rw [e]; exact Heap.lt_size ho⟩
  | lst a =>
    obtain ⟨xs, hq, hl⟩ := c
    obtain ⟨its, rv, pt, _⟩ := I.list hq
    obtain rfl : u = Value.ref a := r
    obtain ⟨o, ho, _⟩ := id pt.isList
    exact ⟨_, _, begins_list a its.toArray, pt.isList, fun h p e => ⟨_, e, rfl, rfl⟩, fun b hb => by
      have e : b = a := by simpa [Sk.ad] using hb
      rw [e]; exact Heap.lt_size ho⟩
  | txt x =>
    obtain ⟨t, rfl⟩ := r
    exact ⟨_, _, begins_text x t, trivial, fun h p e => ⟨t, _, e, rfl, rfl⟩, fun b hb => by cases hb⟩
/-- zip of any two sources -/
def iZ (K : PySem.W.Frag) (ta : TA) : TI := fun σ H R => ta σ H fun vs H1 => ∃ k1 k2 n m, vs = [k1.val, k2.val] ∧ k1.cnt K H1 n ∧ k2.cnt K H1 m ∧ R (Jz K k1 k2) H1
theorem pi_z {X : Cx} {e e2 : Expr} {ta : TA} {p pos tpos : Pos} {elts : List Expr} {kk : Nat} (hg : Gl X "zip") (hm : X.mg "zip" = none) (ha : PA X [e, e2] ta)
    (hs : starEach [e, e2] X.env = (false, eval e X.env) :: starEach [e2] X.env := by rfl) (hpl : (backTo pos (starEach [e2] X.env)).any (·.1) = false := by rfl) :
    PI X (.Tuple elts kk tpos) (.Call (.Name "zip" p) [e, e2] [] pos) (iZ X.K ta) := by
  constructor
  intro pins s σ H R I h
  refine Call_ (ld_blt I hg hm PyProof.Rows.boot_zip (PyProof.Rows.callWith_type1 (thn (ha.run pos pins s σ H _ I h) ?_) hs hpl))
  rintro us s1 ⟨vs, H1, I1, r1, k1, k2, n, m, rfl, c1, c2, q⟩
  cases r1 with
  | cons r rr =>
    cases rr with
    | cons r' rr =>
      cases rr
      obtain ⟨o1, P1, B1⟩ := bg_of I1 r c1
      obtain ⟨o2, P2, B2⟩ := bg_of I1 r' c2
      refine zip_begins2 B1.b B2.b B1.h B2.h fun h' hz hTI hTO e1 e2 hsz hk => wpAny_pyIter_zip hz ?_
      have I2 : Inv X pins σ H1 { s1 with heap := h' } := I1.kept (t' := s1.toks) hk
      refine ⟨s1.heap.objs.size + 4, zFp s1.heap.objs.size, _, _, H1, rfl, I2, turn_z ⟨B1.lt, B2.lt⟩, ⟨hz, hTI, ⟨_, _, hTO⟩, B1.it _ _ e1, B2.it _ _ e2⟩, fun c hcm => ?_, q⟩
      have hle : s1.heap.objs.size ≤ c := by
        rcases zFp_in hcm with z | z | z | z | z
        · rw [z]; exact Nat.le_add_right _ _
        · rw [z]; exact Nat.le_add_right _ _
        · rw [z]; exact Nat.le_add_right _ _
        · rw [z]; exact Nat.le_refl _
        · rw [z]; exact Nat.le_add_right _ _
      exact I1.fpOk hle (I1.hok.fresh hle)
/-- enumerate(v) is made -/
theorem meets_en {v : Value} {o : Obj} {Hd : Heap → Prop} (B : Begins v o Hd) :
    Meets (Builtin.«enumerate.__new__» ⟨[.type "enumerate", v], []⟩) (fun _ R s => Hd s.heap ∧
      R (.ok (.ret (.ref (s.heap.push o).objs.size))) { s with heap := (s.heap.push o).push { cls := .type "enumerate", data := .fields #[.none, .bool false, .ref s.heap.objs.size, rawInt 0, .none, .none] } }) :=
  .of_wp fun prog w A R s g => by
    obtain ⟨hp, gn, dr, tk, os⟩ := s
    obtain ⟨h1, g⟩ := g
    have hsub := sub_enumerate
    have step : ∀ {A' : Around} {E : Value → Shared → Prop} {Q : Value → Shared → Prop}, Q (.ref hp.objs.size) ⟨hp.push o, gn, dr, tk, os⟩ → wpAny (model prog w) A' (pyIter v) Q E ⟨hp, gn, dr, tk, os⟩ :=
      fun z => B.iter prog w _ _ ⟨hp, gn, dr, tk, os⟩ _ h1 z
    wp_walk using step
    refine wpAny_stack_any fun st => wpAny_pure ?_
    split
    · rename_i c _ _ _ _ _
      cases (c == Value.type "enumerate")
      · wp_walk using step
        exact ⟨_, rfl, g⟩
      · wp_walk using step
        exact ⟨_, rfl, g⟩
    · wp_walk using step
      exact ⟨_, rfl, g⟩
theorem call_en {prog : Program} {w : World} {A : Around} {E : Value → Shared → Prop} {s : Shared} {v : Value} {o : Obj} {Hd : Heap → Prop} {Q : Value → Shared → Prop} (B : Begins v o Hd) (h1 : Hd s.heap)
    (h : ∀ h', IsEnum h' (s.heap.objs.size + 1) s.heap.objs.size 0 .none → h'.get? s.heap.objs.size = some o → h'.objs.size = s.heap.objs.size + 2 →
      (∀ c y, s.heap.get? c = some y → h'.get? c = some y) → Q (.ref (s.heap.objs.size + 1)) { s with heap := h' }) :
    wpAny (model prog w) A (call (.type "enumerate") [v]) Q E s := by
  refine callType_new F.called_enumerate (by decide) (F.typeCall_enumerate_1 _) (F.newCall_enumerate_1 _) (fun ob => F.args_object_init_2 ob _) F.entry_enumerate_new (meets_en B) ⟨h1, ?_⟩
  have hz : (s.heap.push o).objs.size = s.heap.objs.size + 1 := Heap.size_push ..
  show _ ∧ _
  rw [hz]
  have made := Heap.get?_push_size (s.heap.push o) (o := { cls := .type "enumerate", data := .fields #[.none, .bool false, .ref s.heap.objs.size, rawInt 0, .none, .none] }) rfl
  rw [hz] at made
  exact ⟨⟨_, made, rfl⟩, h _ made (Heap.get?_push_of_some _ (Heap.get?_push_size _ B.free)) (by rw [Heap.size_push, hz]) fun c y x => Heap.get?_push_of_some _ (Heap.get?_push_of_some _ x)⟩
def iN (K : PySem.W.Frag) (ta : TA) : TI := fun σ H R => ta σ H fun vs H1 => ∃ k n, vs = [k.val] ∧ k.cnt K H1 n ∧ R (Jn K k) H1
theorem pi_n {X : Cx} {e : Expr} {ta : TA} {p pos tpos : Pos} {elts : List Expr} {kk : Nat} (hg : Gl X "enumerate") (hm : X.mg "enumerate" = none) (ha : PA X [e] ta) (hs : starEach [e] X.env = [(false, eval e X.env)] := by rfl) :
    PI X (.Tuple elts kk tpos) (.Call (.Name "enumerate" p) [e] [] pos) (iN X.K ta) := by
  constructor
  intro pins s σ H R I h
  refine Call_ (ld_blt I hg hm boot_enumerate (PyProof.Rows.callWith_type1 (thn (ha.run pos pins s σ H _ I h) ?_) hs rfl))
  rintro us s1 ⟨vs, H1, I1, r1, k, n, rfl, c1, q⟩
  cases r1 with
  | cons r rr =>
    cases rr
    obtain ⟨o1, P1, B1⟩ := bg_of I1 r c1
    refine call_en B1.b B1.h fun h' he e1 hsz hk => wpAny_pyIter_enum he ?_
    have I2 : Inv X pins σ H1 { s1 with heap := h' } := I1.kept (t' := s1.toks) hk
    refine ⟨s1.heap.objs.size + 1, [s1.heap.objs.size + 1, s1.heap.objs.size], _, _, H1, rfl, I2, turn_n B1.lt, ⟨⟨.none, he⟩, B1.it _ _ e1⟩, fun b hb => ?_, q⟩
    have e' : b = s1.heap.objs.size + 1 ∨ b = s1.heap.objs.size := by simpa using hb
    have hle : s1.heap.objs.size ≤ b := by
      rcases e' with z | z
      · rw [z]; exact Nat.le_add_right _ _
      · rw [z]; exact Nat.le_refl _
    exact I1.fpOk hle (I1.hok.fresh hle)
end Zp


set_option Elab.async false
set_option maxRecDepth 100000
/-! Mi1: a small language over plain data, its evaluator, and the translation of the model's syntax into it. -/
namespace Mi
open PySem L2

/-- plain data; st stands for the list of the draws, sub k for its k-th list, scr for the script handed in, exn for the exception that is handled -/
inductive D where
  | non | bl (b : Bool) | int (i : Int) | str (s : Str) | tup (xs : List D) | lst (xs : List D) | st | sub (k : Nat) | scr (ns : List Int) | exn (k : Nat) (fs : List D)
  deriving Inhabited

/-- a place of the list of the draws: a number, or the k-th of its lists -/
inductive Gc where
  | num (i : Int) | at_ (k : Nat)
/-- what the list of the draws holds, and its lists of numbers -/
structure Gs where
  row : List Gc
  ls : List (List Int)

/-- the classes of the package's errors and the fields that they keep -/
def exCls : List (Str × List Str) := [("InvalidShape", ["shape"]), ("InvalidPacket", ["packet"]), ("InvalidNumber", ["number"]), ("InvalidValue", ["value"]), ("InvalidProgram", ["place"]), ("InvalidSource", ["place"]), ("InvalidRules", ["place"]),
  ("InvalidText", ["place"]), ("InvalidLine", ["place"]), ("TooMany", ["what"]), ("Undefined", ["what"]), ("NothingDone", ["what"]), ("Refused", ["what", "packet"])]
def exFs (k : Nat) : List Str := match exCls[k]? with
  | some (_, fs) => fs
  | none => []
def exNm (k : Nat) : Str := match exCls[k]? with
  | some (x, _) => x
  | none => ""
/-- 100 stands for OathError, 101 for ValueError -/
def isSub (c k : Nat) : Bool := c == k || decide (100 ≤ k)
structure Exn where
  cls : Nat
  fs : List D

inductive R (α : Type) where
  | ok (a : α) (g : Gs) | ex (e : Exn) (g : Gs) | no
def R.bind {α β : Type} (r : R α) (f : α → Gs → R β) : R β := match r with
  | .ok a g => f a g
  | .ex e g => .ex e g
  | .no => .no
@[simp] theorem R.bind_ok {α β : Type} (a : α) (g : Gs) (f : α → Gs → R β) : (R.ok a g).bind f = f a g := (rfl)
@[simp] theorem R.bind_ex {α β : Type} (e : Exn) (g : Gs) (f : α → Gs → R β) : (R.ex e g : R α).bind f = .ex e g := (rfl)
@[simp] theorem R.bind_no {α β : Type} (f : α → Gs → R β) : (R.no : R α).bind f = .no := (rfl)
/-- a partial operation on data -/
def R.of {α : Type} (o : Option α) (g : Gs) : R α := match o with
  | some a => .ok a g
  | none => .no
@[simp] theorem R.of_some {α : Type} (a : α) (g : Gs) : R.of (some a) g = .ok a g := (rfl)
@[simp] theorem R.of_none {α : Type} (g : Gs) : (R.of none g : R α) = .no := (rfl)

/-- a slot: a value, or a list that this def alone holds -/
inductive Cell where
  | val (d : D) | own (ds : List D)
abbrev Env := List (Option Cell)
def Env.get (ρ : Env) (i : Nat) : Option Cell := match ρ[i]? with
  | some (some c) => some c
  | _ => none

inductive Op where
  | add | sub | mul | fdiv | mod | pow | shl | shr | band | bor | bxor
inductive Cm where
  | eq | ne | lt | le | gt | ge | isN | notN | mem | nmem
inductive Ty where
  | int | bool | str | list | tuple
inductive BI where
  | len | tuple | list | int | sum | all | any | max2 | min2 | abs | str | sorted | max3 | maxL | minL
inductive Tg where
  | nm (i : Nat) | tup (is : List Nat)

inductive E where
  | nm (i : Nat)
  | lit (d : D)
  | tup (es : List E) | lst (es : List E)
  | op (o : Op) (a b : E)
  | neg (a : E)
  | cmp (o : Cm) (a b : E)
  | chain (o o' : Cm) (a b c : E)
  | and (a b : E) | or (a b : E) | not (a : E)
  | tand (a b : E) | tor (a b : E) | tnot (a : E)
  | ite (t a b : E)
  | ix (a b : E) | sl (a lo hi : E) | rev (a : E) | part (a : E) | pop (a : E)
  | call (f : Nat) (es : List E)
  | bi (b : BI) (es : List E)
  | isi (a : E) (ts : List Ty) (tp : Bool)
  | comp (tg : Tg) (it : E) (cond : E) (own : List Nat) (elt : E)
  | comp2 (tg : Tg) (it : E) (tg2 : Tg) (it2 : E) (own own2 : List Nat) (elt : E)
  | isx (a : E) (k : Nat) | fld (a : E) (f : Str) | lend (is : List Nat) (e : E)
  | dget (kvs : List (Str × Str)) (a : E) | dmem (neg : Bool) (kvs : List (Str × Str)) (a : E) | upper (a : E) | sset (a : E) | join (a e : E)
  | iseq (a : E) | irng1 (a : E) | irng2 (a b : E) | izip (a b : E) | ienum (a : E)

/-! ### operations on data -/
def eqF : D → D → Bool
  | .non, .non => true
  | .bl a, .bl b => a == b
  | .bl a, .int b => (if a = true then 1 else 0) == b
  | .int a, .bl b => a == (if b = true then 1 else 0)
  | .int a, .int b => a == b
  | .str a, .str b => a == b
  | _, _ => false
def flatD : D → Bool
  | .non | .bl _ | .int _ | .str _ => true
  | _ => false
mutual
def D.toP : D → Option PyData
  | .non => some .none
  | .bl b => some (.bool b)
  | .int i => some (.int i)
  | .str s => some (.str s)
  | .tup xs => match D.toPs xs with
    | some ps => some (.tuple ps)
    | none => none
  | .lst xs => match D.toPs xs with
    | some ps => some (.list ps)
    | none => none
  | .st => none
  | .sub _ => none
  | .scr _ => none
  | .exn _ _ => none
def D.toPs : List D → Option (List PyData)
  | [] => some []
  | x :: xs => match D.toP x, D.toPs xs with
    | some p, some ps => some (p :: ps)
    | _, _ => none
end
def eqD (d e : D) : Option Bool := match d, e with
  | .int a, .int b => some (a == b)
  | .str a, .str b => some (a == b)
  | .bl a, .bl b => some (a == b)
  | .non, .non => some true
  | d, e => match d.toP, e.toP with
    | some p, some q => if SeqAt.shaped p = true ∧ SeqAt.shaped q = true then some (PyData.eqv p q) else none
    | _, _ => none
def truth : D → Option Bool
  | .non => some false
  | .bl b => some b
  | .int i => some (i != 0)
  | .str s => if s.length ≤ sizeLine then some (((s.length : Nat) : Int) != 0) else none
  | .tup xs => some (!xs.isEmpty)
  | .lst xs => some (!xs.isEmpty)
  | .st => none
  | .sub _ => none
  | .scr _ => none
  | .exn _ _ => none
def smallI (i : Int) : Bool := decide (-(2 ^ 64) < i ∧ i < 2 ^ 64)
def opD : Op → D → D → Option D
  | .add, .int a, .int b => some (.int (a + b))
  | .add, .str a, .str b => if a.length + b.length ≤ sizeLine then some (.str (a ++ b)) else none
  | .add, .tup a, .tup b => if a.length + b.length ≤ sizeLine then some (.tup (a ++ b)) else none
  | .add, .lst a, .lst b => if a.length + b.length ≤ sizeLine then some (.lst (a ++ b)) else none
  | .sub, .int a, .int b => some (.int (a - b))
  | .mul, .int a, .int b => if (smallI a || smallI b) = true then some (.int (a * b)) else none
  | .mul, .lst a, .int k => if -(2 ^ 63) ≤ k ∧ k < 2 ^ 63 ∧ a.length * k.toNat ≤ sizeLine then some (.lst (List.replicate k.toNat a).flatten) else none
  | .mul, .tup a, .int k => if a ≠ [] ∧ 0 ≤ k ∧ k ≤ 1000 ∧ a.length ≤ 1000 then some (.tup (List.replicate k.toNat a).flatten) else none
  | .fdiv, .int a, .int b => if 0 < b ∧ b.natAbs.log2 < 9000 then some (.int (a / b)) else none
  | .mod, .int a, .int b => if 0 < b then some (.int (a % b)) else none
  | .pow, .int a, .int b => if 0 ≤ b ∧ b ≤ 1000000 ∧ a.natAbs < 2 ^ 64 then some (.int (a ^ b.toNat)) else none
  | .shl, .int a, .int b => if 0 ≤ b ∧ b ≤ 1000000 ∧ a.natAbs < 2 ^ 64 then some (.int (a * 2 ^ b.toNat)) else none
  | .shr, .int a, .int b => if 0 ≤ b then some (.int (a / 2 ^ b.toNat)) else none
  | .band, .int a, .int b => some (.int (Builtin.bitAnd a b))
  | .bor, .int a, .int b => some (.int (Builtin.bitOr a b))
  | .bxor, .int a, .int b => some (.int (Builtin.bitXor a b))
  | _, _, _ => none
def inD (x : D) (xs : List D) : Option Bool := if flatD x = true ∧ xs.all flatD = true then some (xs.any fun y => eqF y x) else match D.toP x, D.toPs xs with
  | some p, some ps => if p.canLay0 = true ∧ PyData.canLayAll0 ps = true ∧ min (PyData.depthAll ps) p.depth ≤ 50 then some (ps.any fun y => PyData.eqv y p) else none
  | _, _ => none
def isNon : D → Bool
  | .non => true
  | _ => false
def isBl (b : Bool) : D → Bool
  | .bl a => a == b
  | _ => false
def cmpD : Cm → D → D → Option Bool
  | .eq, d, e => eqD d e
  | .ne, d, e => (eqD d e).map (!·)
  | .lt, .int a, .int b => some (decide (a < b))
  | .le, .int a, .int b => some (decide (a ≤ b))
  | .gt, .int a, .int b => some (decide (b < a))
  | .ge, .int a, .int b => some (decide (b ≤ a))
  | .isN, d, .non => some (isNon d)
  | .notN, d, .non => some (!isNon d)
  | .isN, d, .bl b => some (isBl b d)
  | .notN, d, .bl b => some (!isBl b d)
  | .mem, d, .tup xs => inD d xs
  | .mem, d, .lst xs => inD d xs
  | .nmem, d, .tup xs => (inD d xs).map (!·)
  | .nmem, d, .lst xs => (inD d xs).map (!·)
  | _, _, _ => none
def strAt (z : Str) (i : Int) : Option D := if z.length ≤ sizeLine then (atI z.cps.toList i).map fun c => .str ⟨#[c]⟩ else none
def ixD : D → D → Option D
  | .tup xs, .int i => atI xs i
  | .lst xs, .int i => atI xs i
  | .str z, .int i => strAt z i
  | .scr ns, .int i => (atI ns i).map .int
  | _, _ => none
/-- a subscript, of the draws' list too -/
def ixG (g : Gs) : D → D → Option D
  | .st, .int j => match atI g.row j with
    | some (.num i) => some (.int i)
    | some (.at_ k) => if k < g.ls.length then some (.sub k) else none
    | none => none
  | .sub k, .int j => match g.ls[k]? with
    | some l => (atI l j).map .int
    | none => none
  | x, y => ixD x y
/-- a place of the draws' list is set -/
def setG (g : Gs) : D → D → D → Option Gs
  | .st, .int j, .int v => match ixN g.row.length j with
    | some i => some { g with row := g.row.set i (.num v) }
    | none => none
  | .sub k, .int j, .int v => match g.ls[k]? with
    | some l => match ixN l.length j with
      | some i => some { g with ls := g.ls.set k (l.set i v) }
      | none => none
    | none => none
  | _, _, _ => none
/-- the first one is taken out -/
def popG (g : Gs) : D → Option (Int × Gs)
  | .sub k => match g.ls[k]? with
    | some (v :: r) => some (v, { g with ls := g.ls.set k r })
    | _ => none
  | _ => none
def appG (g : Gs) : D → D → Option Gs
  | .sub k, .int v => match g.ls[k]? with
    | some l => if l.length < sizeLine then some { g with ls := g.ls.set k (l ++ [v]) } else none
    | none => none
  | _, _ => none
def subOk (g : Gs) : D → Bool
  | .sub k => decide (k < g.ls.length)
  | _ => false
def truthG (g : Gs) : D → Option Bool
  | .sub k => match g.ls[k]? with
    | some l => some (!l.isEmpty)
    | none => none
  | d => truth d
def cutD {α : Type} (xs : List α) (lo hi : Option Int) : List α :=
  List.take (HT.sIx xs.length xs.length hi - HT.sIx xs.length 0 lo) (List.drop (HT.sIx xs.length 0 lo) xs)
def partD : D → Option (Option Int)
  | .non => some none
  | .int i => some (some i)
  | _ => none
def slD (d : D) (lo hi : Option Int) : Option D := match d with
  | .tup xs => some (.tup (cutD xs lo hi))
  | .lst xs => some (.lst (cutD xs lo hi))
  | .scr ns => some (.lst (cutD (ns.map .int) lo hi))
  | _ => none
def intsD : List D → Option (List Int)
  | [] => some []
  | .int i :: r => (intsD r).map (i :: ·)
  | _ => none
def blsD : List D → Option (List Bool)
  | [] => some []
  | .bl i :: r => (blsD r).map (i :: ·)
  | _ => none
def strsD : List D → Option (List Str)
  | [] => some []
  | .str i :: r => (strsD r).map (i :: ·)
  | _ => none
/-- the greatest, the least -/
def maxI : List Int → Option Int
  | [] => none
  | x :: r => some (r.foldl (fun m y => if y > m then y else m) x)
def minI : List Int → Option Int
  | [] => none
  | x :: r => some (r.foldl (fun m y => if y < m then y else m) x)
/-- sorted -/
def sortI (ns : List Int) : List Int := ns.mergeSort (fun a b => decide (a ≤ b))
/-- sorted, each once -/
def insS (x : Int) : List Int → List Int
  | [] => [x]
  | y :: r => if x < y then x :: y :: r else if x = y then y :: r else y :: insS x r
def ssetI (ns : List Int) : List Int := ns.foldr insS []
/-- str(i) -/
def strI (i : Int) : Str := toString i
def biD : BI → List D → Option D
  | .len, [.tup xs] => some (.int xs.length)
  | .len, [.lst xs] => some (.int xs.length)
  | .len, [.scr ns] => some (.int ns.length)
  | .len, [.str z] => if z.length ≤ sizeLine then some (.int z.length) else none
  | .tuple, [.tup xs] => some (.tup xs)
  | .tuple, [.lst xs] => some (.tup xs)
  | .list, [.tup xs] => some (.lst xs)
  | .list, [.lst xs] => some (.lst xs)
  | .int, [.int i] => some (.int i)
  | .int, [.bl k] => some (.int (if k then 1 else 0))
  | .sum, [.lst xs] => (intsD xs).map fun ns => .int ns.sum
  | .all, [.lst xs] => (blsD xs).map fun bs => .bl (bs.all id)
  | .any, [.lst xs] => (blsD xs).map fun bs => .bl (bs.any id)
  | .max2, [.int i, .int j] => some (.int (if j > i then j else i))
  | .min2, [.int i, .int j] => some (.int (if j < i then j else i))
  | .abs, [.int i] => some (.int (if i < 0 then -i else i))
  | .max3, [.int i, .int j, .int k] => some (.int (if k > (if j > i then j else i) then k else (if j > i then j else i)))
  | .maxL, [.lst xs] => (intsD xs).bind fun ns => (maxI ns).map .int
  | .minL, [.lst xs] => (intsD xs).bind fun ns => (minI ns).map .int
  | .str, [.int i] => if smallI i = true then some (.str (strI i)) else none
  | .sorted, [.lst xs] => (intsD xs).map fun ns => .lst ((sortI ns).map .int)
  | _, _ => none
def biS (g : Gs) : BI → List D → Option D
  | .len, [.sub k] => match g.ls[k]? with
    | some l => some (.int l.length)
    | none => none
  | _, _ => none
def biG (g : Gs) (b : BI) (ds : List D) : Option D := match biS g b ds with
  | some r => some r
  | none => biD b ds
def isiTy : D → Option Ty
  | .bl _ => some .bool
  | .int _ => some .int
  | .str _ => some .str
  | .tup _ => some .tuple
  | .lst _ => some .list
  | _ => none
def tyOk : Ty → Ty → Bool
  | .int, .int | .bool, .bool | .bool, .int | .str, .str | .list, .list | .tuple, .tuple => true
  | _, _ => false
def isiD (d : D) (ts : List Ty) : Option Bool := match d with
  | .non => some false
  | .st => none
  | .sub _ => none
  | .scr _ => none
  | .exn _ _ => none
  | d => (isiTy d).map fun t => ts.any fun u => tyOk t u
mutual
/-- no exception within -/
def D.noX : D → Bool
  | .tup xs => D.noXs xs
  | .lst xs => D.noXs xs
  | .exn _ _ => false
  | _ => true
def D.noXs : List D → Bool
  | [] => true
  | x :: xs => D.noX x && D.noXs xs
end
mutual
/-- nothing within that can be changed -/
def D.fast : D → Bool
  | .tup xs => D.fasts xs
  | .lst _ => false
  | .scr _ => false
  | .exn _ _ => false
  | _ => true
def D.fasts : List D → Bool
  | [] => true
  | x :: xs => D.fast x && D.fasts xs
end
def noXc : Option Cell → Bool
  | some (.val d) => d.noX
  | some (.own ds) => D.noXs ds
  | none => true
def fastC : Option Cell → Bool
  | some (.val d) => d.fast
  | some (.own ds) => D.fasts ds
  | none => true
/-- all slots but one hold nothing that can be changed -/
def othersFast (ρ : Env) (i : Nat) : Bool := (ρ.set i none).all fastC
/-- flat ones, one by one the same -/
def flatEq : D → D → Bool
  | .non, .non => true
  | .bl a, .bl b => a == b
  | .int a, .int b => a == b
  | .str a, .str b => a == b
  | _, _ => false
def flatsEq : List D → List D → Bool
  | [], [] => true
  | x :: xs, y :: ys => flatEq x y && flatsEq xs ys
  | _, _ => false
/-- a list of flat ones that surely is another one, or nothing that can be changed -/
def apart (es : List D) : D → Bool
  | .lst us => us.all flatD && !flatsEq es us
  | d => d.fast
/-- a place of a list within a list is set -/
def set2 (ds : List D) (z u y : D) : Option (List D) := match z, u with
  | .int i, .int j => match ixN ds.length i with
    | some i => match ds[i]? with
      | some (.lst es) => match ixN es.length j with
        | some j => if flatD y = true ∧ es.all flatD = true ∧ (ds.set i .non).all (apart es) = true then some (ds.set i (.lst (es.set j y))) else none
        | none => none
      | _ => none
    | none => none
  | _, _ => none
def at2 (ds : List D) (z : D) : Option (List D) := match z with
  | .int i => match ixN ds.length i with
    | some i => match ds[i]? with
      | some (.lst es) => some es
      | _ => none
    | none => none
  | _ => none
/-- the slots' lists are held alone no more -/
def freeze (ρ : Env) : List Nat → Env
  | [] => ρ
  | i :: is => match ρ.get i with
    | some (.own ds) => freeze (ρ.set i (some (.val (.lst ds)))) is
    | _ => freeze ρ is
def lent (r : R D) : R D := match r with
  | .ok d g => if d.fast = true then .ok d g else .no
  | _ => .no
/-- a handled exception's field -/
def fldD (d : D) (f : Str) : Option D := match d with
  | .exn k fs => ((exFs k).zip fs).lookup f
  | _ => none
def isxD (d : D) (k : Nat) : Option Bool := match d with
  | .exn c _ => some (isSub c k)
  | _ => none
def setAll : Env → List Nat → List D → Env
  | ρ, i :: is, d :: ds => setAll (ρ.set i (some (.val d))) is ds
  | ρ, _, _ => ρ
def bindTg (ρ : Env) : Tg → D → Option Env
  | .nm i, d => some (ρ.set i (some (.val d)))
  | .tup is, .tup ds => if ds.length = is.length then some (setAll ρ is ds) else none
  | _, _ => none
def wipeE (ρ : Env) : List Nat → Env
  | [] => ρ
  | v :: vs => (wipeE ρ vs).set v none
/-- a borrowed value: a list that is held alone may be read -/
def brw (m : E) (ρ : Env) (g : Gs) (r : R D) : R D := match m with
  | .nm i => match ρ.get i with
    | some (.own ds) => .ok (.lst ds) g
    | _ => r
  | _ => r
def itemsD : D → Option (List D)
  | .tup xs => some xs
  | .lst xs => some xs
  | .scr ns => some (ns.map .int)
  | _ => none
/-- what zip and enumerate walk -/
def itemsZ : D → Option (List D)
  | .tup xs => some xs
  | .lst xs => some xs
  | .str z => some (z.cps.toList.map fun c => .str ⟨#[c]⟩)
  | _ => none
def zipD (xs ys : List D) : List D := List.zipWith (fun x y => .tup [x, y]) xs ys
def enumD (xs : List D) : List D := xs.mapIdx fun i x => .tup [.int (i : Nat), x]
def rangeD (lo : Int) (n : Nat) : List D := (List.range n).map fun (k : Nat) => .int (lo + k)
def fits (i : Int) : Bool := decide (-(2 ^ 62) ≤ i ∧ i < 2 ^ 62)
/-- the comprehension's loop -/
def compL {α : Type} (f : D → Gs → R (List α)) : List D → Gs → R (List α)
  | [], g => .ok [] g
  | x :: xs, g => match f x g with
    | .ok o g1 => (compL f xs g1).bind fun r g2 => .ok (o ++ r) g2
    | _ => .no
def oneOrNone (c : Option Bool) (k : R D) (g : Gs) : R (List D) := match c with
  | some true => k.bind fun d g => .ok [d] g
  | some false => .ok [] g
  | none => .no
def sized (r : R (List D)) : R D := match r with
  | .ok xs g => if xs.length ≤ sizeLine then .ok (.lst xs) g else .no
  | _ => .no

abbrev CallF := Nat → List D → Gs → R D
section
variable (c : CallF)
mutual
def ev : E → Env → Gs → R D
  | .nm i, ρ, g => match ρ.get i with
    | some (.val d) => .ok d g
    | _ => .no
  | .lit d, _, g => .ok d g
  | .tup es, ρ, g => (evL es ρ g).bind fun ds g => if ds.length ≤ sizeLine then .ok (.tup ds) g else .no
  | .lst es, ρ, g => (evL es ρ g).bind fun ds g => if ds.length ≤ sizeLine then .ok (.lst ds) g else .no
  | .op o a b, ρ, g => (brw a ρ g (ev a ρ g)).bind fun x g => (brw b ρ g (ev b ρ g)).bind fun y g => R.of (opD o x y) g
  | .neg a, ρ, g => (ev a ρ g).bind fun x g => match x with
    | .int i => .ok (.int (-i)) g
    | _ => .no
  | .cmp o a b, ρ, g => (brw a ρ g (ev a ρ g)).bind fun x g => (brw b ρ g (ev b ρ g)).bind fun y g => (R.of (cmpD o x y) g).bind fun k g => .ok (.bl k) g
  | .chain o o' a b d, ρ, g => (ev a ρ g).bind fun x g => (ev b ρ g).bind fun y g => (R.of (cmpD o x y) g).bind fun k g =>
      if k = true then (ev d ρ g).bind fun z g => (R.of (cmpD o' y z) g).bind fun k' g => .ok (.bl k') g else .ok (.bl false) g
  | .and a b, ρ, g => (ev a ρ g).bind fun x g => match x with
    | .bl true => ev b ρ g
    | .bl false => .ok (.bl false) g
    | _ => .no
  | .or a b, ρ, g => (ev a ρ g).bind fun x g => match x with
    | .bl true => .ok (.bl true) g
    | .bl false => ev b ρ g
    | _ => .no
  | .not a, ρ, g => (ev a ρ g).bind fun x g => match x with
    | .bl k => .ok (.bl (!k)) g
    | _ => .no
  | .tand a b, ρ, g => (brw a ρ g (ev a ρ g)).bind fun x g => match truthG g x with
    | some true => (brw b ρ g (ev b ρ g)).bind fun y g => (R.of (truthG g y) g).bind fun k g => .ok (.bl k) g
    | some false => .ok (.bl false) g
    | none => .no
  | .tor a b, ρ, g => (brw a ρ g (ev a ρ g)).bind fun x g => match truthG g x with
    | some true => .ok (.bl true) g
    | some false => (brw b ρ g (ev b ρ g)).bind fun y g => (R.of (truthG g y) g).bind fun k g => .ok (.bl k) g
    | none => .no
  | .tnot a, ρ, g => (brw a ρ g (ev a ρ g)).bind fun x g => (R.of (truthG g x) g).bind fun k g => .ok (.bl (!k)) g
  | .ite t a b, ρ, g => (brw t ρ g (ev t ρ g)).bind fun x g => match truthG g x with
    | some true => ev a ρ g
    | some false => ev b ρ g
    | none => .no
  | .ix a b, ρ, g => (brw a ρ g (ev a ρ g)).bind fun x g => (ev b ρ g).bind fun y g => R.of (ixG g x y) g
  | .sl a lo hi, ρ, g => (brw a ρ g (ev a ρ g)).bind fun x g => (ev lo ρ g).bind fun l g => match partD l with
    | some l => (ev hi ρ g).bind fun h g => match partD h with
      | some h => R.of (slD x l h) g
      | none => .no
    | none => .no
  | .rev a, ρ, g => (brw a ρ g (ev a ρ g)).bind fun x g => match x with
    | .lst xs => .ok (.lst xs.reverse) g
    | _ => .no
  | .part a, ρ, g => (ev a ρ g).bind fun x g => match x with
    | .int i => .ok (.int i) g
    | _ => .no
  | .pop a, ρ, g => (ev a ρ g).bind fun x g => match popG g x with
    | some (v, g) => .ok (.int v) g
    | none => .no
  | .call f es, ρ, g => (evL es ρ g).bind fun ds g => c f ds g
  | .bi b es, ρ, g => (evB es ρ g).bind fun ds g => R.of (biG g b ds) g
  | .isi a ts _, ρ, g => (brw a ρ g (ev a ρ g)).bind fun x g => (R.of (isiD x ts) g).bind fun k g => .ok (.bl k) g
  | .comp tg it cond own elt, ρ, g => (evI it ρ g).bind fun xs g => sized (compL (fun x g => match bindTg (wipeE ρ own) tg x with
      | some ρ1 => (brw cond ρ1 g (ev cond ρ1 g)).bind fun k g => oneOrNone (truthG g k) (ev elt ρ1 g) g
      | none => .no) xs g)
  | .comp2 tg it tg2 it2 own own2 elt, ρ, g => (evI it ρ g).bind fun xs g => sized (compL (fun x g => match bindTg (wipeE ρ own) tg x with
      | some ρ1 => (evJ it2 ρ1 g).bind fun ys g => compL (fun y g => match bindTg (wipeE ρ1 own2) tg2 y with
        | some ρ2 => (ev elt ρ2 g).bind fun d g => .ok [d] g
        | none => .no) ys g
      | none => .no) xs g)
  | .isx a k, ρ, g => (ev a ρ g).bind fun x g => (R.of (isxD x k) g).bind fun b g => .ok (.bl b) g
  | .fld a f, ρ, g => (ev a ρ g).bind fun x g => R.of (fldD x f) g
  | .lend is e, ρ, g => lent (ev e (freeze ρ is) g)
  | .dget kvs a, ρ, g => (ev a ρ g).bind fun x g => match x with
    | .str z => R.of ((kvs.lookup z).map .str) g
    | _ => .no
  | .dmem neg kvs a, ρ, g => (ev a ρ g).bind fun x g => match x with
    | .str z => .ok (.bl (neg != (kvs.lookup z).isSome)) g
    | _ => .no
  | .upper a, ρ, g => (ev a ρ g).bind fun x g => match x with
    | .str z => if z.length ≤ 5592405 then .ok (.str (Txt.upper z)) g else .no
    | _ => .no
  | .sset a, ρ, g => (ev a ρ g).bind fun x g => match x with
    | .lst xs => match intsD xs with
      | some ns => if ns.length < 4000 ∧ (ssetI ns).length < 64 then .ok (.lst ((ssetI ns).map .int)) g else .no
      | none => .no
    | _ => .no
  | .join a e, ρ, g => (ev a ρ g).bind fun x g => match x with
    | .str s => (ev e ρ g).bind fun y g => match y with
      | .lst xs => match strsD xs with
        | some ys => if (ys.map (·.length)).sum + ys.length * s.length ≤ 16777216 then .ok (.str (Txt.join s ys)) g else .no
        | none => .no
      | _ => .no
    | _ => .no
  | .iseq _, _, _ => .no
  | .irng1 _, _, _ => .no
  | .irng2 _ _, _, _ => .no
  | .izip _ _, _, _ => .no
  | .ienum _, _, _ => .no
def evL : List E → Env → Gs → R (List D)
  | [], _, g => .ok [] g
  | e :: es, ρ, g => (ev e ρ g).bind fun d g => (evL es ρ g).bind fun ds g => .ok (d :: ds) g
def evB : List E → Env → Gs → R (List D)
  | [], _, g => .ok [] g
  | e :: es, ρ, g => (brw e ρ g (ev e ρ g)).bind fun d g => (evB es ρ g).bind fun ds g => .ok (d :: ds) g
def evI : E → Env → Gs → R (List D)
  | .iseq a, ρ, g => (brw a ρ g (ev a ρ g)).bind fun x g => R.of (itemsD x) g
  | .irng1 a, ρ, g => (ev a ρ g).bind fun x g => match x with
    | .int j => if fits j = true then .ok (rangeD 0 j.toNat) g else .no
    | _ => .no
  | .irng2 a b, ρ, g => (ev a ρ g).bind fun x g => (ev b ρ g).bind fun y g => match x, y with
    | .int i, .int j => if (fits i && fits j) = true then .ok (rangeD i (j - i).toNat) g else .no
    | _, _ => .no
  | .izip a b, ρ, g => (ev a ρ g).bind fun x g => (ev b ρ g).bind fun y g => match itemsZ x, itemsZ y with
    | some xs, some ys => .ok (zipD xs ys) g
    | _, _ => .no
  | .ienum a, ρ, g => (ev a ρ g).bind fun x g => match itemsZ x with
    | some xs => .ok (enumD xs) g
    | none => .no
  | _, _, _ => .no
/-- what is walked, nothing that is held alone -/
def evJ : E → Env → Gs → R (List D)
  | .iseq a, ρ, g => (ev a ρ g).bind fun x g => R.of (itemsD x) g
  | .irng1 a, ρ, g => (ev a ρ g).bind fun x g => match x with
    | .int j => if fits j = true then .ok (rangeD 0 j.toNat) g else .no
    | _ => .no
  | .irng2 a b, ρ, g => (ev a ρ g).bind fun x g => (ev b ρ g).bind fun y g => match x, y with
    | .int i, .int j => if (fits i && fits j) = true then .ok (rangeD i (j - i).toNat) g else .no
    | _, _ => .no
  | .izip a b, ρ, g => (ev a ρ g).bind fun x g => (ev b ρ g).bind fun y g => match itemsZ x, itemsZ y with
    | some xs, some ys => .ok (zipD xs ys) g
    | _, _ => .no
  | .ienum a, ρ, g => (ev a ρ g).bind fun x g => match itemsZ x with
    | some xs => .ok (enumD xs) g
    | none => .no
  | _, _, _ => .no
end
end
end Mi
/-! ### statements -/
namespace Mi
open PySem L2
inductive S where
  | asg (i : Nat) (e : E)
  | asgT (is : List Nat) (e : E)
  | par (i j : Nat) (a b : E)
  | aug (i : Nat) (o : Op) (e : E)
  | app (i : Nat) (e : E)
  | setix (i : Nat) (k e : E)
  | setg (a k e : E)
  | appg (a e : E)
  | expr (e : E)
  | ife (t : E) (a b : List S)
  | forS (tg : Tg) (it : E) (body : List S)
  | whl (fz : List Nat) (t : E) (body : List S)
  | ret (e : E) | retN | brk | cnt | pass
  | fz (is : List Nat) (s : S)
  | tryT (body : List S)
  | raise (k : Nat) (es : List E)
  | tryX (body : List S) (k i : Nat) (h : List S)
  | stuck
  | ext (i : Nat) (e : E)
  | setix2 (i : Nat) (a k e : E)
  | fastS
  | popT (is : List Nat) (i : Nat)
inductive SR where
  | nx (ρ : Env) (g : Gs) | rt (d : D) (g : Gs) | bk (ρ : Env) (g : Gs) | ct (ρ : Env) (g : Gs) | ex (e : Exn) (ρ : Env) (g : Gs) | no
def isFr : E → Bool
  | .lst _ | .comp .. | .comp2 .. | .bi .list _ | .bi .sorted _ | .sset _ | .op .add _ _ | .op .mul _ _ | .sl .. | .rev _ => true
  | _ => false
def mkCell (fr : Bool) (d : D) : Cell := match fr, d with
  | true, .lst ds => .own ds
  | _, d => .val d
/-- an expression's answer, then a statement -/
def R.st {α : Type} (r : R α) (ρ : Env) (f : α → Gs → SR) : SR := match r with
  | .ok a g => f a g
  | .ex e g => .ex e ρ g
  | .no => .no
@[simp] theorem R.st_ok {α : Type} (a : α) (g : Gs) (ρ : Env) (f : α → Gs → SR) : (R.ok a g).st ρ f = f a g := (rfl)
@[simp] theorem R.st_ex {α : Type} (e : Exn) (g : Gs) (ρ : Env) (f : α → Gs → SR) : (R.ex e g : R α).st ρ f = .ex e ρ g := (rfl)
@[simp] theorem R.st_no {α : Type} (ρ : Env) (f : α → Gs → SR) : (R.no : R α).st ρ f = .no := (rfl)
def SR.seq (r : SR) (f : Env → Gs → SR) : SR := match r with
  | .nx ρ g => f ρ g
  | r => r
@[simp] theorem SR.seq_nx (ρ : Env) (g : Gs) (f : Env → Gs → SR) : (SR.nx ρ g).seq f = f ρ g := (rfl)
@[simp] theorem SR.seq_rt (d : D) (g : Gs) (f : Env → Gs → SR) : (SR.rt d g).seq f = .rt d g := (rfl)
@[simp] theorem SR.seq_bk (ρ : Env) (g : Gs) (f : Env → Gs → SR) : (SR.bk ρ g).seq f = .bk ρ g := (rfl)
@[simp] theorem SR.seq_ct (ρ : Env) (g : Gs) (f : Env → Gs → SR) : (SR.ct ρ g).seq f = .ct ρ g := (rfl)
@[simp] theorem SR.seq_ex (e : Exn) (ρ : Env) (g : Gs) (f : Env → Gs → SR) : (SR.ex e ρ g).seq f = .ex e ρ g := (rfl)
@[simp] theorem SR.seq_no (f : Env → Gs → SR) : SR.no.seq f = .no := (rfl)
/-- what a loop does behind a turn -/
def SR.turn (r : SR) (f : Env → Gs → SR) : SR := match r with
  | .nx ρ g => f ρ g
  | .ct ρ g => f ρ g
  | .bk ρ g => .nx ρ g
  | r => r
@[simp] theorem SR.turn_nx (ρ : Env) (g : Gs) (f : Env → Gs → SR) : (SR.nx ρ g).turn f = f ρ g := (rfl)
@[simp] theorem SR.turn_ct (ρ : Env) (g : Gs) (f : Env → Gs → SR) : (SR.ct ρ g).turn f = f ρ g := (rfl)
@[simp] theorem SR.turn_bk (ρ : Env) (g : Gs) (f : Env → Gs → SR) : (SR.bk ρ g).turn f = .nx ρ g := (rfl)
@[simp] theorem SR.turn_rt (d : D) (g : Gs) (f : Env → Gs → SR) : (SR.rt d g).turn f = .rt d g := (rfl)
@[simp] theorem SR.turn_ex (e : Exn) (ρ : Env) (g : Gs) (f : Env → Gs → SR) : (SR.ex e ρ g).turn f = .ex e ρ g := (rfl)
@[simp] theorem SR.turn_no (f : Env → Gs → SR) : SR.no.turn f = .no := (rfl)
/-- an except clause of the class k, the exception in slot i -/
def SR.caught (r : SR) (k : Nat) (f : Exn → Env → Gs → SR) : SR := match r with
  | .ex e ρ g => if isSub e.cls k = true then f e ρ g else .ex e ρ g
  | r => r
@[simp] theorem SR.caught_ex (e : Exn) (ρ : Env) (g : Gs) (k : Nat) (f : Exn → Env → Gs → SR) : (SR.ex e ρ g).caught k f = if isSub e.cls k = true then f e ρ g else .ex e ρ g := (rfl)
@[simp] theorem SR.caught_nx (ρ : Env) (g : Gs) (k : Nat) (f : Exn → Env → Gs → SR) : (SR.nx ρ g).caught k f = .nx ρ g := (rfl)
@[simp] theorem SR.caught_rt (d : D) (g : Gs) (k : Nat) (f : Exn → Env → Gs → SR) : (SR.rt d g).caught k f = .rt d g := (rfl)
@[simp] theorem SR.caught_bk (ρ : Env) (g : Gs) (k : Nat) (f : Exn → Env → Gs → SR) : (SR.bk ρ g).caught k f = .bk ρ g := (rfl)
@[simp] theorem SR.caught_ct (ρ : Env) (g : Gs) (k : Nat) (f : Exn → Env → Gs → SR) : (SR.ct ρ g).caught k f = .ct ρ g := (rfl)
@[simp] theorem SR.caught_no (k : Nat) (f : Exn → Env → Gs → SR) : SR.no.caught k f = .no := (rfl)
/-- behind the clause: its name goes, the exception is nowhere -/
def gone (ρ : Env) (i : Nat) : Option Env := if (ρ.set i none).all noXc = true then some (ρ.set i none) else none
def SR.out (r : SR) (i : Nat) : SR := match r with
  | .nx ρ g => match gone ρ i with
    | some ρ => .nx ρ g
    | none => .no
  | .bk ρ g => match gone ρ i with
    | some ρ => .bk ρ g
    | none => .no
  | .ct ρ g => match gone ρ i with
    | some ρ => .ct ρ g
    | none => .no
  | .rt d g => if d.noX = true then .rt d g else .no
  | .ex _ _ _ => .no
  | .no => .no
@[simp] theorem SR.out_rt (d : D) (g : Gs) (i : Nat) : (SR.rt d g).out i = if d.noX = true then .rt d g else .no := (rfl)
def forL (step : D → Env → Gs → SR) : List D → Env → Gs → SR
  | [], ρ, g => .nx ρ g
  | x :: xs, ρ, g => (step x ρ g).turn (forL step xs)
def whlL (fz : List Nat) (test : Env → Gs → R D) (body : Env → Gs → SR) : Nat → Env → Gs → SR
  | 0, _, _ => .no
  | n + 1, ρ, g => (test (freeze ρ fz) g).st (freeze ρ fz) fun x g => match truthG g x with
    | some true => (body (freeze ρ fz) g).turn (whlL fz test body n)
    | some false => .nx (freeze ρ fz) g
    | none => .no
/-- more turns than any loop here takes -/
def turns : Nat := 1000000
def onInts (o : Op) (x y : D) : Option D := match x, y with
  | .int a, .int b => opD o (.int a) (.int b)
  | _, _ => none
section
variable (c : CallF)
mutual
def exS : S → Env → Gs → SR
  | .asg i e, ρ, g => (ev c e ρ g).st ρ fun d g => .nx (ρ.set i (some (mkCell (isFr e) d))) g
  | .asgT is e, ρ, g => (ev c e ρ g).st ρ fun d g => match bindTg ρ (.tup is) d with
    | some ρ1 => .nx ρ1 g
    | none => .no
  | .par i j a b, ρ, g => (ev c a ρ g).st ρ fun x g => (ev c b ρ g).st ρ fun y g => .nx ((ρ.set i (some (.val x))).set j (some (.val y))) g
  | .aug i o e, ρ, g => match ρ.get i with
    | some (.val x) => (ev c e ρ g).st ρ fun y g => match onInts o x y with
      | some z => .nx (ρ.set i (some (.val z))) g
      | none => .no
    | _ => .no
  | .app i e, ρ, g => match ρ.get i with
    | some (.own ds) => (ev c e ρ g).st ρ fun y g => if ds.length < sizeLine then .nx (ρ.set i (some (.own (ds ++ [y])))) g else .no
    | _ => .no
  | .setix i k e, ρ, g => (ev c e ρ g).st ρ fun y g => match ρ.get i with
    | some (.own ds) => (ev c k ρ g).st ρ fun z g => match z with
      | .int j => match ixN ds.length j with
        | some j => .nx (ρ.set i (some (.own (ds.set j y)))) g
        | none => .no
      | _ => .no
    | some (.val d) => (ev c k ρ g).st ρ fun z g => match setG g d z y with
      | some g => .nx ρ g
      | none => .no
    | _ => .no
  | .setg a k e, ρ, g => (ev c e ρ g).st ρ fun y g => (ev c a ρ g).st ρ fun x g => (ev c k ρ g).st ρ fun z g => match setG g x z y with
    | some g => .nx ρ g
    | none => .no
  | .appg a e, ρ, g => (ev c a ρ g).st ρ fun x g => if subOk g x = true then (ev c e ρ g).st ρ fun y g => match appG g x y with
    | some g => .nx ρ g
    | none => .no
    else .no
  | .expr e, ρ, g => (ev c e ρ g).st ρ fun _ g => .nx ρ g
  | .ife t a b, ρ, g => (brw t ρ g (ev c t ρ g)).st ρ fun x g => match truthG g x with
    | some true => exL a ρ g
    | some false => exL b ρ g
    | none => .no
  | .forS tg it body, ρ, g => (evJ c it ρ g).st ρ fun xs g => forL (fun x ρ g => match bindTg ρ tg x with
    | some ρ1 => exL body ρ1 g
    | none => .no) xs ρ g
  | .whl fz t body, ρ, g => whlL fz (fun ρ g => brw t ρ g (ev c t ρ g)) (fun ρ g => exL body ρ g) turns ρ g
  | .ret e, ρ, g => (ev c e ρ g).st ρ fun d g => .rt d g
  | .retN, _, g => .rt .non g
  | .brk, ρ, g => .bk ρ g
  | .cnt, ρ, g => .ct ρ g
  | .pass, ρ, g => .nx ρ g
  | .fz is s, ρ, g => exS s (freeze ρ is) g
  | .tryT body, ρ, g => match exL body ρ g with
    | .ex _ _ _ => .no
    | r => r
  | .stuck, _, _ => .no
  | .ext i e, ρ, g => match ρ.get i with
    | some (.own ds) => (ev c e ρ g).st ρ fun y g => match y with
      | .lst es => if ds.length + es.length ≤ sizeLine then .nx (ρ.set i (some (.own (ds ++ es)))) g else .no
      | _ => .no
    | _ => .no
  | .setix2 i a k e, ρ, g => (ev c e ρ g).st ρ fun y g => match ρ.get i with
    | some (.own ds) => (ev c a ρ g).st ρ fun z g => match at2 ds z with
      | some _ => (ev c k ρ g).st ρ fun u g => match set2 ds z u y with
        | some ds => if othersFast ρ i = true then .nx (ρ.set i (some (.own ds))) g else .no
        | none => .no
      | none => .no
    | _ => .no
  | .fastS, ρ, g => if ρ.all fastC = true then .nx ρ g else .no
  | .popT is i, ρ, g => match ρ.get i with
    | some (.own ds) => match ds.getLast? with
      | some d => match bindTg (ρ.set i (some (.own ds.dropLast))) (.tup is) d with
        | some ρ1 => .nx ρ1 g
        | none => .no
      | none => .no
    | _ => .no
  | .raise k es, ρ, g => (evL c es ρ g).st ρ fun ds g => if ds.length = (exFs k).length then .ex ⟨k, ds⟩ ρ g else .no
  | .tryX body k i h, ρ, g => (exL body ρ g).caught k fun e ρ g => (exL h (ρ.set i (some (.val (.exn e.cls e.fs)))) g).out i
def exL : List S → Env → Gs → SR
  | [], ρ, g => .nx ρ g
  | s :: ss, ρ, g => (exS s ρ g).seq fun ρ g => exL ss ρ g
end
end
/-- a def: how many parameters, how many slots, its body; or one that is walked by hand -/
inductive Fn where
  | dfn (ps n : Nat) (body : List S)
  | prm (ps : Nat) (f : List D → Gs → R D)
def Fn.ps : Fn → Nat
  | .dfn ps _ _ => ps
  | .prm ps _ => ps
def envOf (ds : List D) (n : Nat) : Env := ds.map (fun d => some (.val d)) ++ List.replicate (n - ds.length) none
def fin : SR → R D
  | .rt d g => .ok d g
  | .nx _ g => .ok .non g
  | .ex e _ g => .ex e g
  | _ => .no
/-- the call of a def, at most k calls deep -/
def call (T : List Fn) : Nat → CallF
  | 0, _, _, _ => .no
  | k + 1, i, ds, g => match T[i]? with
    | some (.dfn ps n body) => if ds.length = ps then fin (exL (call T k) body (envOf ds n) g) else .no
    | some (.prm ps f) => if ds.length = ps then f ds g else .no
    | none => .no
end Mi

/-! ### the translation -/
namespace Mi
open PySem L2
/-- where one stands: the slots' names, the scope's names, the defs with their arities, the module's numbers -/
structure TC where
  N : List Str
  nm : List (Str × NameKind)
  cel : List Str
  fns : List (Str × Nat)
  con : List (Str × D)
  fr : List Nat
  /-- the slots that are lent -/
  ln : List Nat
  /-- within an except clause, or in a def that is called there -/
  hot : Bool
  /-- the defs that are called there -/
  hots : List Nat
  /-- the classes that are there -/
  xs : List Nat
  /-- the module's dicts of texts, the defs' defaults -/
  dcs : List (Str × List (Str × Str))
  dfs : List (Str × D)
  /-- the slots whose lists within are changed -/
  o2 : List Nat
def TC.isG (c : TC) (x : Str) : Bool := c.nm.lookup x == some .globalImplicit
/-- a class by its name -/
def TC.cls (c : TC) (x : Str) : Option Nat := if c.isG x = true then (if x = "OathError" then some 100 else if x = "ValueError" then some 101 else match exCls.findIdx? (·.1 == x) with
  | some k => if c.xs.contains k = true then some k else none
  | none => none) else none
def TC.slot (c : TC) (x : Str) : Option Nat := match c.nm.lookup x with
  | some .local | some .cell | some .free => if (x == ("__debug__" : Str)) = false ∧ (x == ("__classdict__" : Str)) = false then c.N.findIdx? (· == x) else none
  | _ => none
def TC.tgt (c : TC) (x : Str) : Option Nat := match c.nm.lookup x with
  | some .local => c.N.findIdx? (· == x)
  | some .cell => if c.cel.contains x = true then c.N.findIdx? (· == x) else none
  | _ => none
/-- a slot that no block sees -/
def TC.tgl (c : TC) (x : Str) : Option Nat := match c.nm.lookup x with
  | some .local => c.N.findIdx? (· == x)
  | _ => none
def isNeg1 : Expr → Bool
  | .UnaryOp .USub (.Constant (.int 1) _ _) _ => true
  | _ => false
def trK : Const → Option D
  | .none => some .non
  | .bool b => some (.bl b)
  | .int i => some (.int i)
  | .str x => some (.str x)
  | _ => none
def trOp : Operator → Option Op
  | .Add => some .add
  | .Sub => some .sub
  | .Mult => some .mul
  | .FloorDiv => some .fdiv
  | .Mod => some .mod
  | .Pow => some .pow
  | .LShift => some .shl
  | .RShift => some .shr
  | .BitAnd => some .band
  | .BitOr => some .bor
  | .BitXor => some .bxor
  | _ => none
def trCm : CmpOp → Cm
  | .Eq => .eq
  | .NotEq => .ne
  | .Lt => .lt
  | .LtE => .le
  | .Gt => .gt
  | .GtE => .ge
  | .Is => .isN
  | .IsNot => .notN
  | .In => .mem
  | .NotIn => .nmem
def trTy (x : Str) : Option Ty :=
  if x = "int" then some .int else if x = "bool" then some .bool else if x = "str" then some .str
  else if x = "list" then some .list else if x = "tuple" then some .tuple else none
def trTys (c : TC) : List Expr → Option (List Ty)
  | [] => some []
  | .Name x _ :: r => if c.isG x = true then match trTy x, trTys c r with
    | some t, some ts => some (t :: ts)
    | _, _ => none else none
  | _ => none
def biTab : List (Str × Nat × BI) := [("len", 1, .len), ("tuple", 1, .tuple), ("list", 1, .list), ("int", 1, .int), ("sum", 1, .sum), ("all", 1, .all), ("any", 1, .any), ("abs", 1, .abs), ("sorted", 1, .sorted), ("str", 1, .str), ("max", 2, .max2), ("min", 2, .min2), ("max", 3, .max3), ("max", 1, .maxL), ("min", 1, .minL)]
def biOf (x : Str) (n : Nat) : Option BI := match biTab.find? (fun r => r.1 == x && r.2.1 == n) with
  | some r => some r.2.2
  | none => none
def biHot : BI → Bool
  | .sum | .all | .any | .max2 | .min2 | .sorted | .max3 | .maxL | .minL => false
  | _ => true
def TC.biOf (c : TC) (x : Str) (n : Nat) : Option BI := match Mi.biOf x n with
  | some b => if c.hot = true ∧ biHot b = false then none else some b
  | none => none
def TC.clsH (c : TC) (x : Str) : Option Nat := if c.hot = true then c.cls x else none
def trTgs (c : TC) : List Expr → Option (List Nat)
  | [] => some []
  | .Name x _ :: r => match c.tgt x, trTgs c r with
    | some i, some is => some (i :: is)
    | _, _ => none
  | _ => none
def trTg (c : TC) : Expr → Option Tg
  | .Name x _ => (c.tgt x).map .nm
  | .Tuple es _ _ => if c.hot = true then none else (trTgs c es).map .tup
  | _ => none
def tgIx : Tg → List Nat
  | .nm i => [i]
  | .tup is => is
def tgIn (own : List Nat) : Tg → Bool
  | .nm i => own.contains i
  | .tup is => is.all own.contains
/-- the block's own names and their slots -/
def ownOf (N : List Str) : List (Str × NameKind) → List (Str × Nat)
  | [] => []
  | (x, k) :: r => if k == .local || k == .cell then match N.findIdx? (· == x) with
    | some i => (x, i) :: ownOf N r
    | none => ownOf N r else ownOf N r
/-- the block's scope as it is seen from within -/
def blkN (sc : Scope) (nm : List (Str × NameKind)) : List (Str × NameKind) :=
  sc.names.map fun (n, k) => if (k == .free && nm.lookup n == some .cell) then (n, .cell) else (n, k)
def TC.blk (c : TC) (sc : Scope) : TC := { c with nm := blkN sc c.nm, cel := (sc.names.filter (·.2 == .cell)).map (·.1) }
def blkOk (c : TC) (sc : Scope) : Bool := blkC c.N { kind := .function, names := c.nm, isGenerator := false, isCoroutine := false } sc (ownOf c.N sc.names)
def isTT : Expr → Bool
  | .Tuple .. => true
  | _ => false
/-- a dict of the module -/
def TC.dic (c : TC) (x : Str) : Option (List (Str × Str)) := if c.isG x = true ∧ (x == ("__debug__" : Str)) = false then c.dcs.lookup x else none
/-- the default that a call leaves out -/
def TC.dflt (c : TC) (i : Nat) (f : Str) (l : Nat) : Option D := match c.fns[i]? with
  | some (_, n) => if l + 1 = n then c.dfs.lookup f else none
  | none => none
/-- range(e) -/
def TC.isRngE (c : TC) : Expr → Bool
  | .Call (.Name f _) [_] [] _ => decide (c.isG f = true ∧ f = "range" ∧ (c.fns.findIdx? (fun r => r.1 == f)).isNone = true)
  | _ => false
def isRecv : Expr → Bool
  | .Name _ _ => true
  | .Subscript _ (.Name _ _) _ => true
  | .Subscript _ (.Constant _ _ _) _ => true
  | _ => false
mutual
/-- t: in the place of a test -/
def trE (c : TC) (t : Bool) : Nat → Expr → Option E
  | 0, _ => none
  | n + 1, e => match e with
    | .Name x _ => match c.slot x with
      | some i => some (.nm i)
      | none => if c.isG x = true ∧ (x == ("__debug__" : Str)) = false then (c.con.lookup x).map .lit else none
    | .Constant k _ _ => (trK k).map .lit
    | .Tuple es _ _ => (trL c n es).map .tup
    | .List es _ => (trL c n es).map .lst
    | .BinOp a o b _ => match trOp o, trE c false n a, trE c false n b with
      | some o, some a, some b => some (.op o a b)
      | _, _, _ => none
    | .UnaryOp .USub a _ => (trE c false n a).map .neg
    | .UnaryOp .Not a _ => if t = true then (trE c true n a).map .tnot else (trE c false n a).map .not
    | .BoolOp o es _ => trBo c t n o es
    | .IfExp q a b _ => match trE c true n q, trE c false n a, trE c false n b with
      | some q, some a, some b => if t = true then none else some (.ite q a b)
      | _, _, _ => none
    | .Compare a [.In] [.Name x p] _ => match c.dic x, trE c false n a with
      | some kvs, some ma => some (.dmem false kvs ma)
      | none, some ma => match trE c false n (.Name x p) with
        | some mb => if behindInMarks .In (.Name x p) = false then some (.cmp (trCm .In) ma mb) else none
        | none => none
      | _, _ => none
    | .Compare a [.NotIn] [.Name x p] _ => match c.dic x, trE c false n a with
      | some kvs, some ma => some (.dmem true kvs ma)
      | none, some ma => match trE c false n (.Name x p) with
        | some mb => if behindInMarks .NotIn (.Name x p) = false then some (.cmp (trCm .NotIn) ma mb) else none
        | none => none
      | _, _ => none
    | .Compare a [o] [b] _ => match trE c false n a, trE c false n b with
      | some ma, some mb => if behindInMarks o b = false then some (.cmp (trCm o) ma mb) else none
      | _, _ => none
    | .Compare a [o, o'] [b, d] _ => match trE c false n a, trE c false n b, trE c false n d with
      | some ma, some mb, some md => if lastMarks [o, o'] [b, d] = false then some (.chain (trCm o) (trCm o') ma mb md) else none
      | _, _, _ => none
    | .Subscript a (.Slice lo hi st _) _ => match st with
      | none => match trE c false n a, trO c n lo, trO c n hi with
        | some a, some l, some h => some (.sl a l h)
        | _, _, _ => none
      | some st => if isNeg1 st = true ∧ lo.isNone = true ∧ hi.isNone = true then (trE c false n a).map .rev else none
    | .Subscript (.Name x p) b _ => match c.dic x, trE c false n b with
      | some kvs, some mb => some (.dget kvs mb)
      | none, some mb => match trE c false n (.Name x p) with
        | some ma => some (.ix ma mb)
        | none => none
      | _, _ => none
    | .Subscript a b _ => match trE c false n a, trE c false n b with
      | some a, some b => some (.ix a b)
      | _, _ => none
    | .Call (.Name f _) es [] _ => if c.isG f = true then match c.fns.findIdx? (·.1 == f) with
        | some i => if es.isEmpty = true ∨ c.hots.contains i ≠ c.hot then none else match c.dflt i f es.length, trL c n es with
          | some d, some ms => if c.hot = true then none else some (.call i (ms ++ [.lit d]))
          | none, some ms => some (.call i ms)
          | _, _ => none
        | none => match es with
          | [.Call (.Name f2 _) [a] [] _] => if f = "sorted" ∧ f2 = "set" ∧ c.isG f2 = true ∧ c.hot = false ∧ (c.fns.findIdx? (·.1 == f2)).isNone = true then (trE c false n a).map .sset else match c.biOf f es.length, trL c n es with
            | some b, some es => some (.bi b es)
            | _, _ => none
          | [a, .Name ty _] => if f = "isinstance" then match c.clsH ty with
              | some k => (trE c false n a).map fun a => .isx a k
              | none => match trE c false n a, trTys c [.Name ty ⟨0, 0, 0, 0⟩] with
                | some a, some ts => some (.isi a ts false)
                | _, _ => none
            else match c.biOf f 2, trL c n es with
              | some b, some es => some (.bi b es)
              | _, _ => none
          | [a, .Tuple tys _ _] => if f = "isinstance" then match trE c false n a, trTys c tys with
              | some a, some ts => if ts.length ≤ 8 then some (.isi a ts true) else none
              | _, _ => none
            else none
          | _ => match c.biOf f es.length, trL c n es with
            | some b, some es => some (.bi b es)
            | _, _ => none
      else none
    | .Call (.Attribute (.Subscript (.Name x xp) b bp) f apos) [] [] cpos => if f = "upper" ∧ (apos.endLine == cpos.line) = true then (trE c false n (.Subscript (.Name x xp) b bp)).map .upper else none
    | .Call (.Attribute (.Constant (.str s) ck cp) f apos) [e] [] cpos => if f = "join" ∧ (apos.endLine == cpos.line) = true then (trE c false n e).map (.join (.lit (.str s))) else none
    | .Call (.Attribute a f apos) [.Constant (.int 0) kk kp] [] cpos => if f = "pop" ∧ (apos.endLine == cpos.line) = true ∧ isRecv a = true then match trE c false n a, trE c false n (.Constant (.int 0) kk kp) with
      | some m, some _ => some (.pop m)
      | _, _ => none
    else none
    | .Attribute a f _ => if c.hot = true ∧ isRecv a = true then (trE c false n a).map fun a => .fld a f else none
    | .ListComp elt [⟨tg, it, ifs, 0⟩] sc _ => if blkOk c sc = true ∧ (c.hot = false ∨ c.isRngE it = true) then match trI c (isTT tg) n it, trTg (c.blk sc) tg, trIf (c.blk sc) n ifs, trE (c.blk sc) false n elt with
        | some it, some tg, some q, some elt => if tgIn ((ownOf c.N sc.names).map (·.2)) tg = true then some (.comp tg it q ((ownOf c.N sc.names).map (·.2)) elt) else none
        | _, _, _, _ => none
      else none
    | .ListComp elt [⟨tg, it, [], 0⟩, ⟨tg1, it1, [], 0⟩] sc _ => if blkOk c sc = true ∧ c.hot = false then match trI c (isTT tg) n it, trTg (c.blk sc) tg, trI (c.blk sc) (isTT tg1) n it1, trTg (c.blk sc) tg1, trE (c.blk sc) false n elt with
        | some it, some tg, some it1, some tg1, some elt => if (tgIn ((ownOf c.N sc.names).map (·.2)) tg && tgIn ((ownOf c.N sc.names).map (·.2)) tg1) = true then some (.comp2 tg it tg1 it1 ((ownOf c.N sc.names).map (·.2)) (tgIx tg1) elt) else none
        | _, _, _, _, _ => none
      else none
    | _ => none
def trL (c : TC) : Nat → List Expr → Option (List E)
  | 0, _ => none
  | _ + 1, [] => some []
  | n + 1, e :: es => match trE c false n e, trL c n es with
    | some m, some ms => some (m :: ms)
    | _, _ => none
def trBo (c : TC) (t : Bool) : Nat → BoolOp → List Expr → Option E
  | 0, _, _ => none
  | _ + 1, _, [] => none
  | n + 1, _, [e] => trE c t n e
  | n + 1, o, e :: es => match trE c t n e, trBo c t n o es with
    | some a, some b => match o with
      | .And => some (if t = true then .tand a b else .and a b)
      | .Or => some (if t = true then .tor a b else .or a b)
    | _, _ => none
def trO (c : TC) : Nat → Option Expr → Option E
  | 0, _ => none
  | _ + 1, none => some (.lit .non)
  | n + 1, some e => (trE c false n e).map .part
def trIf (c : TC) : Nat → List Expr → Option E
  | 0, _ => none
  | _ + 1, [] => some (.lit (.bl true))
  | n + 1, [e] => trE c true n e
  | _ + 1, _ => none
def trI (c : TC) (tt : Bool) : Nat → Expr → Option E
  | 0, _ => none
  | n + 1, e => match e with
    | .Call (.Name f _) [a] [] _ => if c.isG f = true ∧ f = "range" ∧ (c.fns.findIdx? (·.1 == f)).isNone = true then (trE c false n a).map .irng1
      else if c.isG f = true ∧ f = "enumerate" ∧ (c.fns.findIdx? (·.1 == f)).isNone = true then (if tt = true then (trE c false n a).map .ienum else none) else (trE c false n e).map .iseq
    | .Call (.Name f _) [a, b] [] _ => if c.isG f = true ∧ f = "range" ∧ (c.fns.findIdx? (·.1 == f)).isNone = true then match trE c false n a, trE c false n b with
        | some a, some b => some (.irng2 a b)
        | _, _ => none
      else if c.isG f = true ∧ f = "zip" ∧ (c.fns.findIdx? (·.1 == f)).isNone = true then match trE c false n a, trE c false n b with
        | some a, some b => if tt = true then some (.izip a b) else none
        | _, _ => none
      else (trE c false n e).map .iseq
    | _ => (trE c false n e).map .iseq
end
end Mi
/-! ### statements -/
namespace Mi
open PySem L2
mutual
/-- the slots whose lists a value may hand on -/
def esc : E → List Nat
  | .nm i => [i]
  | .lit _ => []
  | .tup es => escL es
  | .lst es => escL es
  | .op _ a b => escB a ++ escB b
  | .neg a => esc a
  | .cmp _ a b => escB a ++ escB b
  | .chain _ _ a b d => esc a ++ esc b ++ esc d
  | .and a b => esc a ++ esc b
  | .or a b => esc a ++ esc b
  | .not a => esc a
  | .tand a b => escB a ++ escB b
  | .tor a b => escB a ++ escB b
  | .tnot a => escB a
  | .ite t a b => escB t ++ esc a ++ esc b
  | .ix a b => escB a ++ esc b
  | .sl a l h => escB a ++ esc l ++ esc h
  | .rev a => escB a
  | .part a => esc a
  | .pop a => esc a
  | .call _ es => escL es
  | .bi _ es => escBs es
  | .isi a _ _ => escB a
  | .comp _ it q _ e => esc it ++ escB q ++ esc e
  | .comp2 _ it _ it2 _ _ e => esc it ++ esc it2 ++ esc e
  | .isx a _ => esc a
  | .fld a _ => esc a
  | .lend is e => (esc e).filter fun i => !is.contains i
  | .dget _ a => esc a
  | .dmem _ _ a => esc a
  | .upper a => esc a
  | .sset a => esc a
  | .join a e => esc a ++ esc e
  | .iseq a => escB a
  | .irng1 a => esc a
  | .irng2 a b => esc a ++ esc b
  | .izip a b => esc a ++ esc b
  | .ienum a => esc a
def escL : List E → List Nat
  | [] => []
  | e :: es => esc e ++ escL es
def escBs : List E → List Nat
  | [] => []
  | e :: es => escB e ++ escBs es
def escB : E → List Nat
  | .nm _ => []
  | .lit _ => []
  | .tup es => escL es
  | .lst es => escL es
  | .op _ a b => escB a ++ escB b
  | .neg a => esc a
  | .cmp _ a b => escB a ++ escB b
  | .chain _ _ a b d => esc a ++ esc b ++ esc d
  | .and a b => esc a ++ esc b
  | .or a b => esc a ++ esc b
  | .not a => esc a
  | .tand a b => escB a ++ escB b
  | .tor a b => escB a ++ escB b
  | .tnot a => escB a
  | .ite t a b => escB t ++ esc a ++ esc b
  | .ix a b => escB a ++ esc b
  | .sl a l h => escB a ++ esc l ++ esc h
  | .rev a => escB a
  | .part a => esc a
  | .pop a => esc a
  | .call _ es => escL es
  | .bi _ es => escBs es
  | .isi a _ _ => escB a
  | .comp _ it q _ e => esc it ++ escB q ++ esc e
  | .comp2 _ it _ it2 _ _ e => esc it ++ esc it2 ++ esc e
  | .isx a _ => esc a
  | .fld a _ => esc a
  | .lend is e => (esc e).filter fun i => !is.contains i
  | .dget _ a => esc a
  | .dmem _ _ a => esc a
  | .upper a => esc a
  | .sset a => esc a
  | .join a e => esc a ++ esc e
  | .iseq a => escB a
  | .irng1 a => esc a
  | .irng2 a b => esc a ++ esc b
  | .izip a b => esc a ++ esc b
  | .ienum a => esc a
end
def isRng : E → Bool
  | .irng1 _ | .irng2 _ _ => true
  | _ => false
def escJ : E → List Nat
  | .iseq a => esc a
  | e => esc e
/-- a call whose lists are lent -/
def TC.lendE (c : TC) (m : E) : E := match m with
  | .call f es => if ((escL es).filter c.ln.contains).isEmpty = true then .call f es else .lend ((escL es).filter c.ln.contains).eraseDups (.call f es)
  | m => m
/-- a test whose lists are lent -/
def TC.lendT (c : TC) (m : E) : E := match m with
  | .nm i => .nm i
  | m => if ((escB m).filter c.ln.contains).isEmpty = true then m else .lend ((escB m).filter c.ln.contains).eraseDups m
def TC.frs (c : TC) (l : List Nat) : List Nat := (l.filter c.fr.contains).eraseDups
def TC.wrap (c : TC) (l : List Nat) (s : S) : S := if (c.frs l).isEmpty = true then s else .fz (c.frs l) s
def trAug : Operator → Option Op
  | .Add => some .add
  | .Sub => some .sub
  | .Mult => some .mul
  | _ => none
def isComp : Expr → Bool
  | .ListComp .. => true
  | .SetComp .. => true
  | .DictComp .. => true
  | _ => false
def isTup : Expr → Bool
  | .Tuple .. => true
  | .List .. => true
  | _ => false
mutual
def trS (c : TC) : Nat → Stmt → Option S
  | 0, _ => none
  | n + 1, st => match trS1 c n st with
    | some m => some m
    | none => some .stuck
def trS1 (c : TC) : Nat → Stmt → Option S
  | 0, _ => none
  | n + 1, st => match st with
    | .Assign [.Name x _] e _ => match c.tgt x, trE c false n e with
      | some i, some m => some (if isComp e = true then c.wrap (esc m) (.asg i m) else c.wrap (esc (c.lendE m)) (.asg i (c.lendE m)))
      | _, _ => none
    | .Assign [.Tuple ts _ _] (.Call (.Attribute (.Name x _) f apos) [] [] cpos) _ => if f = "pop" ∧ (apos.endLine == cpos.line) = true ∧ c.hot = false then match trTgs c ts, c.slot x with
      | some is, some i => some (.popT is i)
      | _, _ => none
      else none
    | .Assign [.Tuple ts _ _] e _ => if isTup e = true ∨ c.hot = true then none else match trTgs c ts, trE c false n e with
      | some is, some m => some (c.wrap (esc m) (.asgT is m))
      | _, _ => none
    | .Assign [.Subscript (.Name x _) k _] e _ => if isComp e = true then none else match c.slot x, trE c false n k, trE c false n e with
      | some i, some mk, some m => some (c.wrap (esc mk ++ esc m) (.setix i mk m))
      | _, _, _ => none
    | .Assign [.Subscript (.Subscript (.Name x xp) b p) k _] e _ => if isComp e = true then none else match c.slot x, trE c false n b, trE c false n k, trE c false n e with
      | some i, some mb, some mk, some m => if c.o2.contains i = true then (if isTup e = true then none else some (.setix2 i mb mk m)) else match trE c false n (.Subscript (.Name x xp) b p) with
        | some ma => some (c.wrap (esc ma ++ esc mk ++ esc m) (.setg ma mk m))
        | none => none
      | _, _, _, _ => none
    | .Assign [.Subscript (.Subscript a b p) k _] e _ => if isComp e = true then none else match trE c false n (.Subscript a b p), trE c false n k, trE c false n e with
      | some ma, some mk, some m => some (c.wrap (esc ma ++ esc mk ++ esc m) (.setg ma mk m))
      | _, _, _ => none
    | .Expr (.Call (.Attribute (.Subscript a b p) f apos) [e] [] cpos) _ => if f = "append" ∧ (apos.endLine == cpos.line) = true then match trE c false n (.Subscript a b p), trE c false n e with
        | some ma, some m => some (c.wrap (esc ma ++ esc m) (.appg ma m))
        | _, _ => none
      else if f = "pop" then match trE c false n (.Call (.Attribute (.Subscript a b p) f apos) [e] [] cpos) with
        | some m => some (c.wrap (esc m) (.expr m))
        | none => none
      else none
    | .AugAssign (.Name x _) o e _ => match c.tgt x, trAug o, trE c false n e with
      | some i, some o, some m => some (c.wrap (esc m) (.aug i o m))
      | _, _, _ => none
    | .Expr (.Call (.Attribute (.Name x _) a apos) [e] [] cpos) _ => if a = "append" ∧ (apos.endLine == cpos.line) = true then match c.slot x, trE c false n e with
        | some i, some m => some (c.wrap (esc m) (.app i m))
        | _, _ => none
      else if a = "extend" ∧ (apos.endLine == cpos.line) = true then match c.slot x, trE c false n e with
        | some i, some m => some (c.wrap (esc m) (.ext i m))
        | _, _ => none
      else none
    | .Expr (.Call (.Name f p) es ks pos) _ => match trE c false n (.Call (.Name f p) es ks pos) with
      | some m => some (c.wrap (esc m) (.expr m))
      | _ => none
    | .If t a b _ => match trE c true n t, trSs c n a, trSs c n b with
      | some t, some a, some b => some (c.wrap (escB (c.lendT t)) (.ife (c.lendT t) a b))
      | _, _, _ => none
    | .For tg it body [] _ => if c.hot = true then none else match trTg c tg, trI c (isTT tg) n it, trSs c n body with
      | some tg, some it, some body => if c.o2.isEmpty = true ∨ isRng it = true then some (c.wrap (escJ it) (.forS tg it body)) else none
      | _, _, _ => none
    | .While t body [] _ => match trE c true n t, trSs c n body with
      | some t, some body => some (.whl (c.frs (escB t)) t body)
      | _, _ => none
    | .Return (some e) _ => match trE c false n e with
      | some m => some (c.wrap (esc m) (.ret m))
      | _ => none
    | .Return none _ => some .retN
    | .Break _ => some .brk
    | .Continue _ => some .cnt
    | .Pass _ => some .pass
    | .Raise (some (.Call (.Name x _) es [] _)) none _ => if c.hot = true then some .stuck else match c.cls x, trL c n es with
      | some k, some ms => if es.isEmpty = false ∧ es.length = (exFs k).length then some (c.wrap (escL ms) (.raise k ms)) else some .stuck
      | _, _ => some .stuck
    | .Raise _ _ _ => some .stuck
    | .Try body [.ExceptHandler (some (.Name x _)) (some y) (b :: r) _] [] [] _ => if c.hot = true then none else match c.cls x, c.tgl y, trSs c n body, trSs { c with hot := true } n (b :: r) with
      | some k, some i, some mb, some mh => some (.tryX mb k i mh)
      | _, _, some mb, _ => some (.tryT mb)
      | _, _, _, _ => none
    | .Try body (_ :: _) [] [] _ => (trSs c n body).map .tryT
    | _ => none
def trSs (c : TC) : Nat → List Stmt → Option (List S)
  | 0, _ => none
  | _ + 1, [] => some []
  | n + 1, s :: ss => match trS c n s, trSs c n ss with
    | some m, some ms => some (m :: ms)
    | _, _ => none
end
/-- a def's body: where lists within lists are changed, nothing handed in can be changed -/
def trB (c : TC) (n : Nat) (ss : List Stmt) : Option (List S) := match c.o2.isEmpty with
  | true => trSs c n ss
  | false => (trSs c n ss).map (.fastS :: ·)
end Mi


set_option Elab.async false
set_option maxRecDepth 100000
/-! Mi2: what stands in the heap for data; the readings of expressions. -/
namespace Mi
open PySem L2
/-- where the list of the draws and its own lists stand -/
structure Fs where
  s : Addr
  ts : List Addr
  /-- whether it stands there yet -/
  on : Bool
  /-- the exception that is handled: where it stands, its class, its dict -/
  er : Option (Addr × Nat × Addr)
/-- where the k-th class stands -/
def clsA (K : PySem.W.Frag) (k : Nat) : Option Addr := match PySem.W.nsIn K mainGlobals (exNm k) with
  | some (some (.ref C)) => some C
  | _ => none
def Fs.has (a : Fs) (b : Addr) : Prop := a.on = true ∧ (b = a.s ∨ b ∈ a.ts)
def gcV (a : Fs) : Gc → V
  | .num i => .int i
  | .at_ k => match a.ts[k]? with
    | some p => .ref p
    | none => .non
mutual
/-- G holds what does not change any more: d stands there at v -/
def Rep (K : PySem.W.Frag) (z : Fs) (G : Hp) : D → V → Prop
  | .non, v => v = .non
  | .bl b, v => v = .bl b
  | .int i, v => v = .int i
  | .str x, v => v = .str x
  | .tup ds, v => ∃ p vs, v = .ref p ∧ SqT K G p vs ∧ Reps K z G ds vs
  | .lst ds, v => ∃ p vs, v = .ref p ∧ G p = some (.lst vs) ∧ Reps K z G ds vs
  | .st, v => v = .ref z.s
  | .sub k, v => ∃ p, z.ts[k]? = some p ∧ v = .ref p
  | .scr ns, v => ∃ p, v = .ref p ∧ SqL K G p (ns.map V.int)
  | .exn k fs, v => ∃ (a dd : Addr) (vs : List V), z.er = some (a, k, dd) ∧ v = .ref a ∧ G dd = some (.xd ((exFs k).zip vs)) ∧ vs.length = (exFs k).length ∧ Reps K z G fs vs
def Reps (K : PySem.W.Frag) (z : Fs) (G : Hp) : List D → List V → Prop
  | [], vs => vs = []
  | d :: ds, vs => ∃ v r, vs = v :: r ∧ Rep K z G d v ∧ Reps K z G ds r
end
structure World (a : Fs) (g : Gs) (G H : Hp) : Prop where
  sub : Same G H
  hs : a.on = true → H a.s = some (.lst (g.row.map (gcV a)))
  hn : a.on = false → g.row = [] ∧ a.ts = []
  ht : ∀ (k : Nat) (p : Addr) (xs : List Int), a.ts[k]? = some p → g.ls[k]? = some xs → H p = some (.lst (xs.map V.int))
  hl : a.ts.length = g.ls.length
  off : ∀ b, a.has b → G b = none
  ns : a.s ∉ a.ts
  nd : a.ts.Nodup
theorem World.hasT {a : Fs} {g : Gs} {G H : Hp} (w : World a g G H) {k : Nat} {p : Addr} (e : a.ts[k]? = some p) : a.has p := by
  refine ⟨?_, .inr (List.mem_of_getElem? e)⟩
  cases q : a.on with
  | true => rfl
  | false =>
    rw [(w.hn q).2] at e
    cases e
theorem World.move {a : Fs} {g : Gs} {G H G' H' : Hp} (w : World a g G H) (h : ∀ b, a.has b → H' b = H b) (s : Same G' H') (o : ∀ b, a.has b → G' b = none) : World a g G' H' :=
  ⟨s, fun q => by rw [h _ ⟨q, .inl rfl⟩]; exact w.hs q, w.hn, fun k p xs e1 e2 => by
    rw [h p (w.hasT e1)]; exact w.ht k p xs e1 e2, w.hl, o, w.ns, w.nd⟩
/-- what an expression does with the heap -/
structure Ext (a : Fs) (G H G' H' : Hp) : Prop where
  gg : Same G G'
  new : ∀ b o, G' b = some o → G b = some o ∨ H b = none
  kp : ∀ b o, H b = some o → ¬ a.has b → H' b = some o
  dm : ∀ b, H' b = none → H b = none
section
variable {a : Fs} {G H G1 H1 G2 H2 : Hp}
theorem Ext.refl : Ext a G H G H := ⟨Same.refl G, fun _ _ h => .inl h, fun _ _ h _ => h, fun _ h => h⟩
theorem Ext.trans (x : Ext a G H G1 H1) (y : Ext a G1 H1 G2 H2) : Ext a G H G2 H2 :=
  ⟨x.gg.trans y.gg, fun b o h => by
    rcases y.new b o h with h | h
    · exact x.new b o h
    · exact .inr (x.dm b h), fun b o h n => y.kp b o (x.kp b o h n) n, fun b h => x.dm b (y.dm b h)⟩
theorem World.there {g : Gs} (w : World a g G H) {b : Addr} (h : a.has b) : ∃ xs, H b = some (.lst xs) := by
  obtain ⟨h0, h⟩ := h
  rcases h with h | h
  · subst h; exact ⟨_, w.hs h0⟩
  · obtain ⟨k, hk, e⟩ := List.getElem_of_mem h
    have e1 : a.ts[k]? = some b := by rw [List.getElem?_eq_getElem hk, e]
    have hk2 : k < g.ls.length := by rw [← w.hl]; exact hk
    exact ⟨_, w.ht k b _ e1 (List.getElem?_eq_getElem hk2)⟩
theorem World.not {g : Gs} (w : World a g G H) {b : Addr} (h : H b = none) : ¬ a.has b := fun q => by
  obtain ⟨xs, e⟩ := w.there q
  rw [h] at e; cases e
theorem World.offH {g : Gs} (w : World a g G H) {b : Addr} {o : HO} (h : G b = some o) : ¬ a.has b := fun q => by
  rw [w.off b q] at h; cases h
theorem upd_none {H : Hp} {p : Addr} {o : HO} {b : Addr} (h : upd H p o b = none) : H b = none := by
  unfold upd at h
  split at h
  · cases h
  · exact h
/-- a new object, known for good -/
theorem Ext.alloc {g : Gs} (w : World a g G H) {p : Addr} {o : HO} (h : H p = none) : Ext a G H (upd G p o) (upd H p o) ∧ World a g (upd G p o) (upd H p o) := by
  have hG : G p = none := w.sub.free h
  have np := w.not h
  have s1 : Same G (upd G p o) := fun b u e => by rw [upd_ne (ne_of_none e hG)]; exact e
  have up : ∀ b, a.has b → b ≠ p := fun b q z => by subst z; exact np q
  refine ⟨⟨s1, fun b u e => ?_, fun b u e _ => by rw [upd_ne (ne_of_none e h)]; exact e, fun b e => upd_none e⟩, w.move (fun b q => upd_ne (up b q)) (fun b u e => ?_) (fun b q => ?_)⟩
  · by_cases hb : b = p
    · subst hb; exact .inr h
    · rw [upd_ne hb] at e; exact .inl e
  · by_cases hb : b = p
    · subst hb; rw [upd_same] at e ⊢; exact e
    · rw [upd_ne hb] at e ⊢; exact w.sub b u e
  · rw [upd_ne (up b q)]; exact w.off b q
/-- a new object, not known for good -/
theorem Ext.fresh {g : Gs} (w : World a g G H) {p : Addr} {o : HO} (h : H p = none) : Ext a G H G (upd H p o) ∧ World a g G (upd H p o) := by
  have hG : G p = none := w.sub.free h
  have np := w.not h
  refine ⟨⟨Same.refl G, fun b u e => .inl e, fun b u e _ => by rw [upd_ne (ne_of_none e h)]; exact e, fun b e => upd_none e⟩, w.move (fun b q => upd_ne fun z => by subst z; exact np q) (fun b u e => ?_) w.off⟩
  rw [upd_ne (ne_of_none e hG)]; exact w.sub b u e
/-- a list that was held alone, known for good from now on -/
theorem Ext.know {g : Gs} (w : World a g G H) {p : Addr} {o : HO} (h : H p = some o) (hG : G p = none) (hn : ¬ a.has p) : World a g (upd G p o) H ∧ Same G (upd G p o) := by
  refine ⟨w.move (fun _ _ => rfl) (fun b u e => ?_) (fun b q => ?_), fun b u e => by rw [upd_ne (ne_of_none e hG)]; exact e⟩
  · by_cases hb : b = p
    · subst hb; rw [upd_same] at e; rw [← e]; exact h
    · rw [upd_ne hb] at e; exact w.sub b u e
  · have hb : b ≠ p := fun z => by subst z; exact hn q
    rw [upd_ne hb]; exact w.off b q
end
theorem SqT.mono {K : PySem.W.Frag} {H H' : Hp} {a : Addr} {xs : List V} (e : Same H H') (h : SqT K H a xs) : SqT K H' a xs := by
  rcases h with (h | ⟨o, h⟩) | h
  · exact .inl (.inl (e _ _ h))
  · exact .inl (.inr ⟨o, e _ _ h⟩)
  · exact .inr h
theorem SqL.mono {K : PySem.W.Frag} {H H' : Hp} {a : Addr} {xs : List V} (e : Same H H') (h : SqL K H a xs) : SqL K H' a xs := by
  rcases h with (h | ⟨o, h⟩) | h
  · exact .inl (.inl (e _ _ h))
  · exact .inl (.inr ⟨o, e _ _ h⟩)
  · exact .inr h
section
variable {K : PySem.W.Frag} {z : Fs} {G G' : Hp}
mutual
theorem Rep.mono (s : Same G G') : ∀ {d : D} {v : V}, Rep K z G d v → Rep K z G' d v
  | .non, _, h => by unfold Rep at h ⊢; exact h
  | .bl _, _, h => by unfold Rep at h ⊢; exact h
  | .int _, _, h => by unfold Rep at h ⊢; exact h
  | .str _, _, h => by unfold Rep at h ⊢; exact h
  | .st, _, h => by unfold Rep at h ⊢; exact h
  | .sub _, _, h => by unfold Rep at h ⊢; exact h
  | .scr _, _, h => by
    unfold Rep at h ⊢
    obtain ⟨p, e, q⟩ := h
    exact ⟨p, e, SqL.mono s q⟩
  | .tup ds, _, h => by
    unfold Rep at h ⊢
    obtain ⟨p, vs, e, q, r⟩ := h
    exact ⟨p, vs, e, SqT.mono s q, Reps.mono s r⟩
  | .lst ds, _, h => by
    unfold Rep at h ⊢
    obtain ⟨p, vs, e, q, r⟩ := h
    exact ⟨p, vs, e, s _ _ q, Reps.mono s r⟩
  | .exn k fs, _, h => by
    unfold Rep at h ⊢
    obtain ⟨a, dd, vs, e1, e2, q, l, r⟩ := h
    exact ⟨a, dd, vs, e1, e2, s _ _ q, l, Reps.mono s r⟩
theorem Reps.mono (s : Same G G') : ∀ {ds : List D} {vs : List V}, Reps K z G ds vs → Reps K z G' ds vs
  | [], _, h => by unfold Reps at h ⊢; exact h
  | d :: ds, _, h => by
    unfold Reps at h ⊢
    obtain ⟨v, r, e, q, t⟩ := h
    exact ⟨v, r, e, Rep.mono s q, Reps.mono s t⟩
end
end
section
variable {K : PySem.W.Frag} {a : Fs} {G : Hp}
/-- no exception is handled: what stands there stands there all the same -/
abbrev Fs.hot (a : Fs) (e : Option (Addr × Nat × Addr)) : Fs := { a with er := e }
mutual
theorem Rep.toHot {e : Option (Addr × Nat × Addr)} (n : a.er = none) : ∀ {d : D} {v : V}, Rep K a G d v → Rep K (a.hot e) G d v
  | .non, _, h => by unfold Rep at h ⊢; exact h
  | .bl _, _, h => by unfold Rep at h ⊢; exact h
  | .int _, _, h => by unfold Rep at h ⊢; exact h
  | .str _, _, h => by unfold Rep at h ⊢; exact h
  | .st, _, h => by unfold Rep at h ⊢; exact h
  | .sub _, _, h => by unfold Rep at h ⊢; exact h
  | .scr _, _, h => by unfold Rep at h ⊢; exact h
  | .tup ds, _, h => by
    unfold Rep at h ⊢
    obtain ⟨p, vs, e, q, r⟩ := h
    exact ⟨p, vs, e, q, Reps.toHot n r⟩
  | .lst ds, _, h => by
    unfold Rep at h ⊢
    obtain ⟨p, vs, e, q, r⟩ := h
    exact ⟨p, vs, e, q, Reps.toHot n r⟩
  | .exn k fs, _, h => by
    unfold Rep at h
    obtain ⟨x, dd, vs, e1, _⟩ := h
    rw [n] at e1
    cases e1
theorem Reps.toHot {e : Option (Addr × Nat × Addr)} (n : a.er = none) : ∀ {ds : List D} {vs : List V}, Reps K a G ds vs → Reps K (a.hot e) G ds vs
  | [], _, h => by unfold Reps at h ⊢; exact h
  | d :: ds, _, h => by
    unfold Reps at h ⊢
    obtain ⟨v, r, e, q, t⟩ := h
    exact ⟨v, r, e, Rep.toHot n q, Reps.toHot n t⟩
end
mutual
theorem Rep.toCold {e : Option (Addr × Nat × Addr)} : ∀ {d : D} {v : V}, d.noX = true → Rep K (a.hot e) G d v → Rep K a G d v
  | .non, _, _, h => by unfold Rep at h ⊢; exact h
  | .bl _, _, _, h => by unfold Rep at h ⊢; exact h
  | .int _, _, _, h => by unfold Rep at h ⊢; exact h
  | .str _, _, _, h => by unfold Rep at h ⊢; exact h
  | .st, _, _, h => by unfold Rep at h ⊢; exact h
  | .sub _, _, _, h => by unfold Rep at h ⊢; exact h
  | .scr _, _, _, h => by unfold Rep at h ⊢; exact h
  | .tup ds, _, n, h => by
    unfold Rep at h ⊢
    unfold D.noX at n
    obtain ⟨p, vs, e, q, r⟩ := h
    exact ⟨p, vs, e, q, Reps.toCold n r⟩
  | .lst ds, _, n, h => by
    unfold Rep at h ⊢
    unfold D.noX at n
    obtain ⟨p, vs, e, q, r⟩ := h
    exact ⟨p, vs, e, q, Reps.toCold n r⟩
  | .exn k fs, _, n, h => by
    unfold D.noX at n
    cases n
theorem Reps.toCold {e : Option (Addr × Nat × Addr)} : ∀ {ds : List D} {vs : List V}, D.noXs ds = true → Reps K (a.hot e) G ds vs → Reps K a G ds vs
  | [], _, _, h => by unfold Reps at h ⊢; exact h
  | d :: ds, _, n, h => by
    unfold Reps at h ⊢
    unfold D.noXs at n
    rw [Bool.and_eq_true] at n
    obtain ⟨v, r, e, q, t⟩ := h
    exact ⟨v, r, e, Rep.toCold n.1 q, Reps.toCold n.2 t⟩
end
/-- what is known for good, less what was lent -/
def less (G : Hp) (P : List Addr) : Hp := fun b => if b ∈ P then none else G b
theorem less_out {P : List Addr} {b : Addr} (h : b ∉ P) : less G P b = G b := if_neg h
theorem less_in {P : List Addr} {b : Addr} (h : b ∈ P) : less G P b = none := if_pos h
theorem less_some {P : List Addr} {b : Addr} {o : HO} (h : less G P b = some o) : b ∉ P ∧ G b = some o := by
  by_cases c : b ∈ P
  · rw [less_in c] at h; cases h
  · rw [less_out c] at h; exact ⟨c, h⟩
mutual
theorem Rep.less {P : List Addr} (l : ∀ p ∈ P, ∃ vs, G p = some (.lst vs)) : ∀ {d : D} {v : V}, d.fast = true → Rep K a G d v → Rep K a (less G P) d v
  | .non, _, _, h => by unfold Rep at h ⊢; exact h
  | .bl _, _, _, h => by unfold Rep at h ⊢; exact h
  | .int _, _, _, h => by unfold Rep at h ⊢; exact h
  | .str _, _, _, h => by unfold Rep at h ⊢; exact h
  | .st, _, _, h => by unfold Rep at h ⊢; exact h
  | .sub _, _, _, h => by unfold Rep at h ⊢; exact h
  | .scr _, _, n, h => by unfold D.fast at n; cases n
  | .exn _ _, _, n, h => by unfold D.fast at n; cases n
  | .lst _, _, n, h => by unfold D.fast at n; cases n
  | .tup ds, _, n, h => by
    unfold Rep at h ⊢
    unfold D.fast at n
    obtain ⟨p, vs, e, q, r⟩ := h
    refine ⟨p, vs, e, ?_, Reps.less l n r⟩
    have out : ∀ {o : HO}, G p = some o → (∀ us, o ≠ .lst us) → Mi.less G P p = some o := fun {o} e ne => by
      rw [less_out fun hm => ?_]
      · exact e
      · obtain ⟨us, e2⟩ := l p hm
        rw [e] at e2
        cases e2
        exact ne _ rfl
    rcases q with (q | ⟨o, q⟩) | q
    · exact .inl (.inl (out q fun us z => by cases z))
    · exact .inl (.inr ⟨o, out q fun us z => by cases z⟩)
    · exact .inr q
theorem Reps.less {P : List Addr} (l : ∀ p ∈ P, ∃ vs, G p = some (.lst vs)) : ∀ {ds : List D} {vs : List V}, D.fasts ds = true → Reps K a G ds vs → Reps K a (less G P) ds vs
  | [], _, _, h => by unfold Reps at h ⊢; exact h
  | d :: ds, _, n, h => by
    unfold Reps at h ⊢
    unfold D.fasts at n
    rw [Bool.and_eq_true] at n
    obtain ⟨v, r, e, q, t⟩ := h
    exact ⟨v, r, e, Rep.less l n.1 q, Reps.less l n.2 t⟩
end
theorem World.toHot {g : Gs} {H : Hp} {e : Option (Addr × Nat × Addr)} (w : World a g G H) : World (a.hot e) g G H := ⟨w.sub, w.hs, w.hn, w.ht, w.hl, w.off, w.ns, w.nd⟩
theorem World.toCold {g : Gs} {H : Hp} {e : Option (Addr × Nat × Addr)} (w : World (a.hot e) g G H) : World a g G H := ⟨w.sub, w.hs, w.hn, w.ht, w.hl, w.off, w.ns, w.nd⟩
theorem Ext.toHot {H G' H' : Hp} {e : Option (Addr × Nat × Addr)} (x : Ext a G H G' H') : Ext (a.hot e) G H G' H' := ⟨x.gg, x.new, x.kp, x.dm⟩
theorem Ext.toCold {H G' H' : Hp} {e : Option (Addr × Nat × Addr)} (x : Ext (a.hot e) G H G' H') : Ext a G H G' H' := ⟨x.gg, x.new, x.kp, x.dm⟩
end
section
variable {K : PySem.W.Frag} {z : Fs} {G G' : Hp}
theorem Reps.nil : Reps K z G [] [] := by unfold Reps; rfl
theorem Reps.cons {d : D} {v : V} {ds : List D} {vs : List V} (h : Rep K z G d v) (r : Reps K z G ds vs) : Reps K z G (d :: ds) (v :: vs) := by
  unfold Reps; exact ⟨v, vs, rfl, h, r⟩
theorem Reps.length : ∀ {ds : List D} {vs : List V}, Reps K z G ds vs → vs.length = ds.length
  | [], _, h => by unfold Reps at h; subst h; rfl
  | d :: ds, _, h => by
    unfold Reps at h
    obtain ⟨v, r, rfl, _, t⟩ := h
    rw [List.length_cons, List.length_cons, Reps.length t]
theorem Reps.get : ∀ {ds : List D} {vs : List V} {i : Nat} {d : D}, Reps K z G ds vs → ds[i]? = some d → ∃ v, vs[i]? = some v ∧ Rep K z G d v
  | [], _, _, _, _, e => by simp at e
  | d :: ds, _, i, x, h, e => by
    unfold Reps at h
    obtain ⟨v, r, rfl, q, t⟩ := h
    cases i with
    | zero => simp at e; subst e; exact ⟨v, rfl, q⟩
    | succ i =>
      obtain ⟨w, h1, h2⟩ := Reps.get (i := i) (d := x) t (by simpa using e)
      exact ⟨w, by simpa using h1, h2⟩
theorem Reps.getV : ∀ {ds : List D} {vs : List V} {i : Nat} {v : V}, Reps K z G ds vs → vs[i]? = some v → ∃ d, ds[i]? = some d ∧ Rep K z G d v := fun {ds vs i v} h e => by
  have hi : i < vs.length := (List.getElem?_eq_some_iff.mp e).1
  rw [h.length] at hi
  obtain ⟨w, h1, h2⟩ := h.get (List.getElem?_eq_getElem hi)
  rw [e] at h1; cases h1
  exact ⟨_, List.getElem?_eq_getElem hi, h2⟩
theorem Reps.append : ∀ {ds es : List D} {vs us : List V}, Reps K z G ds vs → Reps K z G es us → Reps K z G (ds ++ es) (vs ++ us)
  | [], _, _, _, h, k => by unfold Reps at h; subst h; exact k
  | d :: ds, _, _, _, h, k => by
    unfold Reps at h
    obtain ⟨v, r, rfl, q, t⟩ := h
    exact Reps.cons q (Reps.append t k)
theorem Reps.drop : ∀ {ds : List D} {vs : List V} (n : Nat), Reps K z G ds vs → Reps K z G (ds.drop n) (vs.drop n)
  | _, _, 0, h => h
  | [], _, n + 1, h => by unfold Reps at h; subst h; exact Reps.nil
  | d :: ds, _, n + 1, h => by
    unfold Reps at h
    obtain ⟨v, r, rfl, q, t⟩ := h
    exact Reps.drop n t
theorem Reps.take : ∀ {ds : List D} {vs : List V} (n : Nat), Reps K z G ds vs → Reps K z G (ds.take n) (vs.take n)
  | _, _, 0, _ => Reps.nil
  | [], _, n + 1, h => by unfold Reps at h; subst h; exact Reps.nil
  | d :: ds, _, n + 1, h => by
    unfold Reps at h
    obtain ⟨v, r, rfl, q, t⟩ := h
    exact Reps.cons q (Reps.take n t)
theorem Reps.rep : ∀ (n : Nat) {ds : List D} {vs : List V}, Reps K z G ds vs → Reps K z G (List.replicate n ds).flatten (List.replicate n vs).flatten
  | 0, _, _, _ => by simp; exact Reps.nil
  | n + 1, _, _, h => by
    rw [List.replicate_succ, List.replicate_succ, List.flatten_cons, List.flatten_cons]
    exact h.append (Reps.rep n h)
theorem Reps.set : ∀ {ds : List D} {vs : List V} {i : Nat} {d : D} {v : V}, Reps K z G ds vs → Rep K z G d v → Reps K z G (ds.set i d) (vs.set i v)
  | [], _, _, _, _, h, _ => by unfold Reps at h; subst h; exact Reps.nil
  | d :: ds, _, 0, _, _, h, k => by
    unfold Reps at h
    obtain ⟨v, r, rfl, q, t⟩ := h
    exact Reps.cons k t
  | d :: ds, _, i + 1, _, _, h, k => by
    unfold Reps at h
    obtain ⟨v, r, rfl, q, t⟩ := h
    exact Reps.cons q (Reps.set t k)
theorem Reps.reverse : ∀ {ds : List D} {vs : List V}, Reps K z G ds vs → Reps K z G ds.reverse vs.reverse
  | [], _, h => by unfold Reps at h; subst h; exact Reps.nil
  | d :: ds, _, h => by
    unfold Reps at h
    obtain ⟨v, r, rfl, q, t⟩ := h
    rw [List.reverse_cons, List.reverse_cons]
    exact (Reps.reverse t).append (Reps.cons q Reps.nil)
theorem Reps.isEmpty {ds : List D} {vs : List V} (h : Reps K z G ds vs) : vs.isEmpty = ds.isEmpty := by
  have := h.length
  cases ds <;> cases vs <;> simp at this ⊢
theorem Reps.ints : ∀ {ds : List D} {vs : List V} {ns : List Int}, Reps K z G ds vs → intsD ds = some ns → vs = ns.map V.int
  | [], _, _, h, e => by unfold Reps at h; simp [intsD] at e; subst e h; rfl
  | d :: ds, _, ns, h, e => by
    unfold Reps at h
    obtain ⟨v, r, rfl, q, t⟩ := h
    cases d with
    | int i =>
      simp only [intsD, Option.map_eq_some_iff] at e
      obtain ⟨ms, e1, rfl⟩ := e
      unfold Rep at q
      subst q
      rw [List.map_cons, Reps.ints t e1]
    | _ => simp [intsD] at e
theorem Reps.bls : ∀ {ds : List D} {vs : List V} {ns : List Bool}, Reps K z G ds vs → blsD ds = some ns → vs = ns.map V.bl
  | [], _, _, h, e => by unfold Reps at h; simp [blsD] at e; subst e h; rfl
  | d :: ds, _, ns, h, e => by
    unfold Reps at h
    obtain ⟨v, r, rfl, q, t⟩ := h
    cases d with
    | bl i =>
      simp only [blsD, Option.map_eq_some_iff] at e
      obtain ⟨ms, e1, rfl⟩ := e
      unfold Rep at q
      subst q
      rw [List.map_cons, Reps.bls t e1]
    | _ => simp [blsD] at e
theorem Reps.ofInts : ∀ (ns : List Int), Reps K z G (ns.map D.int) (ns.map V.int)
  | [] => Reps.nil
  | n :: ns => Reps.cons (by unfold Rep; rfl) (Reps.ofInts ns)
theorem Rep.inj_int {i : Int} {v : V} (h : Rep K z G (.int i) v) : v = .int i := by unfold Rep at h; exact h
end
end Mi


set_option Elab.async false
set_option maxRecDepth 100000
/-! Mi3: the frame's slots, the readings tE, tB, tF, tT, and how they are put together. -/
namespace Mi
open PySem L2
/-- what stands fixed while a def runs: the written part, the draws' list, the callees, the wish for what is raised, the entry's heap -/
structure Sx where
  K : PySem.W.Frag
  a : Fs
  c : CallF
  W : WX
  H0 : Hp
  G0 : Hp
  /-- the classes of errors that there may be -/
  xs : List Nat
  /-- lists known for good may be changed: none was known at the entry -/
  pr : Bool
/-- what is known stays, lists left aside where they may be changed -/
def Sm (pr : Bool) (G G' : Hp) : Prop := ∀ b o, G b = some o → (pr = true → ∀ vs, o ≠ .lst vs) → G' b = some o
theorem Sm.refl (pr : Bool) (G : Hp) : Sm pr G G := fun _ _ e _ => e
theorem Sm.trans {pr : Bool} {G G1 G2 : Hp} (h : Sm pr G G1) (k : Sm pr G1 G2) : Sm pr G G2 := fun b o e q => k b o (h b o e q) q
theorem Sm.of {pr : Bool} {G G' : Hp} (h : Same G G') : Sm pr G G' := fun b o e _ => h b o e
theorem Sm.same {pr : Bool} {G G' : Hp} (e : pr = false) (h : Sm pr G G') : Same G G' := fun b o e2 => h b o e2 fun z => by rw [e] at z; cases z
/-- read at the top, known below -/
def RepB (S : Sx) (G H : Hp) (d : D) (v : V) : Prop := match d with
  | .lst ds => ∃ p vs, v = .ref p ∧ H p = some (.lst vs) ∧ ¬ S.a.has p ∧ Reps S.K S.a G ds vs
  | d => Rep S.K S.a G d v
/-- new at the top, known below -/
def RepF (S : Sx) (Hb G H : Hp) (d : D) (v : V) : Prop := match d with
  | .lst ds => ∃ p vs, v = .ref p ∧ H p = some (.lst vs) ∧ ¬ S.a.has p ∧ G p = none ∧ Hb p = none ∧ Reps S.K S.a G ds vs
  | d => Rep S.K S.a G d v
theorem Rep.toB {S : Sx} {g : Gs} {G H : Hp} {d : D} {v : V} (w : World S.a g G H) (h : Rep S.K S.a G d v) : RepB S G H d v := by
  cases d with
  | lst ds =>
    unfold Rep at h
    obtain ⟨p, vs, e, q, r⟩ := h
    exact ⟨p, vs, e, w.sub _ _ q, w.offH q, r⟩
  | _ => exact h
theorem RepF.toB {S : Sx} {Hb G H : Hp} {d : D} {v : V} (h : RepF S Hb G H d v) : RepB S G H d v := by
  cases d with
  | lst ds =>
    obtain ⟨p, vs, e, q, n, _, _, r⟩ := h
    exact ⟨p, vs, e, q, n, r⟩
  | _ => exact h
theorem RepB.ext {S : Sx} {G H G' H' : Hp} {d : D} {v : V} (x : Ext S.a G H G' H') (h : RepB S G H d v) : RepB S G' H' d v := by
  cases d with
  | lst ds =>
    obtain ⟨p, vs, e, q, n, r⟩ := h
    exact ⟨p, vs, e, x.kp _ _ q n, n, r.mono x.gg⟩
  | _ => exact Rep.mono x.gg h
/-- the slots -/
structure Slots (S : Sx) (ρ : Env) (σ : St) (G H : Hp) : Prop where
  len : ρ.length = σ.length
  val : ∀ i d, ρ.get i = some (.val d) → ∃ v, σ[i]? = some (some v) ∧ Rep S.K S.a G d v
  own : ∀ i ds, ρ.get i = some (.own ds) → ∃ p vs, σ[i]? = some (some (.ref p)) ∧ H p = some (.lst vs) ∧ ¬ S.a.has p ∧ G p = none ∧ S.H0 p = none ∧ Reps S.K S.a G ds vs
  sep : ∀ i j ds es, i ≠ j → ρ.get i = some (.own ds) → ρ.get j = some (.own es) → σ[i]? ≠ σ[j]?
theorem Slots.ext {S : Sx} {ρ : Env} {σ : St} {G H G' H' : Hp} (h : Slots S ρ σ G H) (x : Ext S.a G H G' H') : Slots S ρ σ G' H' := by
  refine ⟨h.len, fun i d e => ?_, fun i ds e => ?_, h.sep⟩
  · obtain ⟨v, e1, r⟩ := h.val i d e
    exact ⟨v, e1, r.mono x.gg⟩
  · obtain ⟨p, vs, e1, e2, n, g, h0, r⟩ := h.own i ds e
    refine ⟨p, vs, e1, x.kp _ _ e2 n, n, ?_, h0, r.mono x.gg⟩
    cases q : G' p with
    | none => rfl
    | some o =>
      rcases x.new p o q with z | z
      · rw [g] at z; cases z
      · rw [e2] at z; cases z
/-- an exception of the program: its class by number, its own dict -/
def ExAt (S : Sx) (G : Hp) (e : Exn) (cls : Value) (d : Option Addr) : Prop :=
  ∃ (C dd : Addr) (vs : List V), cls = .ref C ∧ e.cls ∈ S.xs ∧ clsA S.K e.cls = some C ∧ d = some dd ∧ G dd = some (.xd ((exFs e.cls).zip vs)) ∧ vs.length = (exFs e.cls).length ∧ Reps S.K S.a G e.fs vs
def Res {α : Type} (S : Sx) (σ : St) (G H : Hp) (r : R α) (Q : α → Gs → Hp → Hp → Prop) : Prop := match r with
  | .ok x g => ∀ G' H', Ext S.a G H G' H' → World S.a g G' H' → Q x g G' H'
  | .ex e g => ∀ G' H' cls d, Ext S.a G H G' H' → World S.a g G' H' → ExAt S G' e cls d → S.W cls d σ H'
  | .no => False
section
variable {S : Sx} {α β : Type} {σ : St} {G H G1 H1 : Hp} {r : R α} {Q Q' : α → Gs → Hp → Hp → Prop}
theorem Res.shift (x : Ext S.a G H G1 H1) (h : Res S σ G H r Q) : Res S σ G1 H1 r Q := by
  cases r with
  | ok a g => exact fun G' H' y w => h G' H' (x.trans y) w
  | ex e g => exact fun G' H' cls d y w q => h G' H' cls d (x.trans y) w q
  | no => exact h
theorem Res.mono (h : Res S σ G H r Q) (k : ∀ a g G' H', Ext S.a G H G' H' → World S.a g G' H' → Q a g G' H' → Q' a g G' H') : Res S σ G H r Q' := by
  cases r with
  | ok a g => exact fun G' H' y w => k a g G' H' y w (h G' H' y w)
  | ex e g => exact h
  | no => exact h
/-- a first part, then the rest -/
theorem Res.step {f : α → Gs → R β} {Q : β → Gs → Hp → Hp → Prop} {P : α → Gs → Hp → Hp → Prop} (h : Res S σ G H (r.bind f) Q)
    (k : ∀ a g G' H', Ext S.a G H G' H' → World S.a g G' H' → Res S σ G' H' (f a g) Q → P a g G' H') : Res S σ G H r P := by
  cases r with
  | ok a g => exact fun G' H' y w => k a g G' H' y w (Res.shift y h)
  | ex e g => exact h
  | no => exact h
theorem Res.here {a : α} {g : Gs} (w : World S.a g G H) (h : Res S σ G H (.ok a g) Q) : Q a g G H := h G H Ext.refl w
theorem Res.of {o : Option α} {g : Gs} (_w : World S.a g G H) (h : Res S σ G H (R.of o g) Q) : ∃ a, o = some a ∧ ∀ G' H', Ext S.a G H G' H' → World S.a g G' H' → Q a g G' H' := by
  cases o with
  | none => exact h.elim
  | some a => exact ⟨a, rfl, h⟩
end
/-! ### the readings -/
def tE (S : Sx) (m : E) : TE := fun σ H Q => ∃ ρ G g, Slots S ρ σ G H ∧ World S.a g G H ∧ Res S σ G H (ev S.c m ρ g) fun d _ G' H' => ∀ v, Rep S.K S.a G' d v → Q v H'
def tB (S : Sx) (m : E) : TE := fun σ H Q => ∃ ρ G g, Slots S ρ σ G H ∧ World S.a g G H ∧ Res S σ G H (brw m ρ g (ev S.c m ρ g)) fun d _ G' H' => ∀ v, RepB S G' H' d v → Q v H'
def tF (S : Sx) (m : E) : TE := fun σ H Q => ∃ ρ G g, Slots S ρ σ G H ∧ World S.a g G H ∧ Res S σ G H (ev S.c m ρ g) fun d _ G' H' => ∀ v, RepF S H G' H' d v → Q v H'
def tT (S : Sx) (m : E) : TT := fun σ H Q => ∃ ρ G g, Slots S ρ σ G H ∧ World S.a g G H ∧ Res S σ G H (brw m ρ g (ev S.c m ρ g)) fun d g' _ H' => ∃ k, truthG g' d = some k ∧ Q k H'
def tL (S : Sx) (ms : List E) : TA := fun σ H Q => ∃ ρ G g, Slots S ρ σ G H ∧ World S.a g G H ∧ Res S σ G H (evL S.c ms ρ g) fun ds _ G' H' => ∀ vs, Reps S.K S.a G' ds vs → Q vs H'
inductive RepsB (S : Sx) (G H : Hp) : List D → List V → Prop
  | nil : RepsB S G H [] []
  | cons {d : D} {v : V} {ds : List D} {vs : List V} : RepB S G H d v → RepsB S G H ds vs → RepsB S G H (d :: ds) (v :: vs)
def tLB (S : Sx) (ms : List E) : TA := fun σ H Q => ∃ ρ G g, Slots S ρ σ G H ∧ World S.a g G H ∧ Res S σ G H (evB S.c ms ρ g) fun ds _ G' H' => ∀ vs, RepsB S G' H' ds vs → Q vs H'
theorem pe_weak {X : Cx} {e : Expr} {t t' : TE} (h : PE X e t) (k : ∀ σ H Q, t' σ H Q → t σ H Q) : PE X e t' := ⟨fun pins s σ H Q I q => h.run pins s σ H Q I (k σ H Q q)⟩
theorem pt_weak {X : Cx} {e : Expr} {t t' : TT} (h : PT X e t) (k : ∀ σ H Q, t' σ H Q → t σ H Q) : PT X e t' := ⟨fun pins s σ H Q I q => h.run pins s σ H Q I (k σ H Q q)⟩
theorem pw_weak {X : Cx} {e : Expr} {t t' : TT} (h : PW X e t) (k : ∀ σ H Q, t' σ H Q → t σ H Q) : PW X e t' := ⟨fun wh pins s σ H Q I q => h.run wh pins s σ H Q I (k σ H Q q)⟩
theorem pa_weak {X : Cx} {e : List Expr} {t t' : TA} (h : PA X e t) (k : ∀ σ H Q, t' σ H Q → t σ H Q) : PA X e t' := ⟨fun pos pins s σ H Q I q => h.run pos pins s σ H Q I (k σ H Q q)⟩
theorem ps_weak {X : Cx} {e : Stmt} {t t' : TS} (h : PS X e t) (k : ∀ D σ H, t' D σ H → t D σ H) : PS X e t' := ⟨fun pins s σ H Q I q => h.run pins s σ H Q I (k Q σ H q)⟩
theorem pss_weak {X : Cx} {e : List Stmt} {t t' : TS} (h : PSs X e t) (k : ∀ D σ H, t' D σ H → t D σ H) : PSs X e t' := ⟨fun pins s σ H Q I q => h.run pins s σ H Q I (k Q σ H q)⟩
theorem pi_weak {X : Cx} {tg e : Expr} {t t' : TI} (h : PI X tg e t) (k : ∀ σ H Q, t' σ H Q → t σ H Q) : PI X tg e t' := ⟨fun pins s σ H Q I q => h.run pins s σ H Q I (k σ H Q q)⟩
section
variable {S : Sx} {σ : St} {H : Hp} {Q : VK} {m : E} {ρ : Env} {G : Hp} {g : Gs} {β : Type}
/-- an expression ahead, in the place of a known value -/
theorem tE.bind {f : D → Gs → R β} {P : β → Gs → Hp → Hp → Prop} (sl : Slots S ρ σ G H) (w : World S.a g G H) (h : Res S σ G H ((ev S.c m ρ g).bind f) P)
    (k : ∀ d g' G' H' v, Ext S.a G H G' H' → World S.a g' G' H' → Slots S ρ σ G' H' → Rep S.K S.a G' d v → Res S σ G' H' (f d g') P → Q v H') : tE S m σ H Q :=
  ⟨ρ, G, g, sl, w, Res.step h fun d g' G' H' x w' r v q => k d g' G' H' v x w' (sl.ext x) q r⟩
theorem tB.bind {f : D → Gs → R β} {P : β → Gs → Hp → Hp → Prop} (sl : Slots S ρ σ G H) (w : World S.a g G H) (h : Res S σ G H ((brw m ρ g (ev S.c m ρ g)).bind f) P)
    (k : ∀ d g' G' H' v, Ext S.a G H G' H' → World S.a g' G' H' → Slots S ρ σ G' H' → RepB S G' H' d v → Res S σ G' H' (f d g') P → Q v H') : tB S m σ H Q :=
  ⟨ρ, G, g, sl, w, Res.step h fun d g' G' H' x w' r v q => k d g' G' H' v x w' (sl.ext x) q r⟩
theorem tT.bind {f : D → Gs → R β} {P : β → Gs → Hp → Hp → Prop} {Q : Bool → Hp → Prop} (sl : Slots S ρ σ G H) (w : World S.a g G H) (h : Res S σ G H ((brw m ρ g (ev S.c m ρ g)).bind f) P)
    (k : ∀ d g' G' H', Ext S.a G H G' H' → World S.a g' G' H' → Slots S ρ σ G' H' → Res S σ G' H' (f d g') P → ∃ b, truthG g' d = some b ∧ Q b H') : tT S m σ H Q :=
  ⟨ρ, G, g, sl, w, Res.step h fun d g' G' H' x w' r => k d g' G' H' x w' (sl.ext x) r⟩
theorem tL.bind {ms : List E} {f : List D → Gs → R β} {P : β → Gs → Hp → Hp → Prop} {Q : List V → Hp → Prop} (sl : Slots S ρ σ G H) (w : World S.a g G H) (h : Res S σ G H ((evL S.c ms ρ g).bind f) P)
    (k : ∀ d g' G' H' v, Ext S.a G H G' H' → World S.a g' G' H' → Slots S ρ σ G' H' → Reps S.K S.a G' d v → Res S σ G' H' (f d g') P → Q v H') : tL S ms σ H Q :=
  ⟨ρ, G, g, sl, w, Res.step h fun d g' G' H' x w' r v q => k d g' G' H' v x w' (sl.ext x) q r⟩
theorem tLB.bind {ms : List E} {f : List D → Gs → R β} {P : β → Gs → Hp → Hp → Prop} {Q : List V → Hp → Prop} (sl : Slots S ρ σ G H) (w : World S.a g G H) (h : Res S σ G H ((evB S.c ms ρ g).bind f) P)
    (k : ∀ d g' G' H' v, Ext S.a G H G' H' → World S.a g' G' H' → Slots S ρ σ G' H' → RepsB S G' H' d v → Res S σ G' H' (f d g') P → Q v H') : tLB S ms σ H Q :=
  ⟨ρ, G, g, sl, w, Res.step h fun d g' G' H' x w' r v q => k d g' G' H' v x w' (sl.ext x) q r⟩
end
/-- new ones may be known for good -/
theorem tF.toE {S : Sx} {m : E} {σ : St} {H : Hp} {Q : VK} (h : tE S m σ H Q) : tF S m σ H Q := by
  obtain ⟨ρ, G, g, sl, w, r⟩ := h
  refine ⟨ρ, G, g, sl, w, ?_⟩
  revert r
  cases ev S.c m ρ g with
  | no => exact id
  | ex e g => exact id
  | ok d g' =>
    intro r G' H' x w' v q
    cases d with
    | lst ds =>
      obtain ⟨p, vs, e, hp, np, gp, bp, rs⟩ := q
      obtain ⟨w2, s2⟩ := Ext.know w' hp gp np
      refine r _ H' ⟨x.gg.trans s2, fun b o e => ?_, x.kp, x.dm⟩ w2 v ?_
      · by_cases hb : b = p
        · subst hb; exact .inr bp
        · rw [upd_ne hb] at e; exact x.new b o e
      · unfold Rep
        exact ⟨p, vs, e, upd_same, rs.mono s2⟩
    | _ => exact r G' H' x w' v q
theorem pe_ofF {X : Cx} {e : Expr} {S : Sx} {m : E} (h : PE X e (tF S m)) : PE X e (tE S m) := pe_weak h fun _ _ _ => tF.toE
/-- the borrowed reading of what is no slot -/
theorem brw_of {m : E} (h : ∀ i, m ≠ .nm i) (ρ : Env) (g : Gs) (r : R D) : brw m ρ g r = r := by
  cases m with
  | nm i => exact absurd rfl (h i)
  | _ => rfl
theorem pe_toB {X : Cx} {e : Expr} {S : Sx} {m : E} (hm : ∀ i, m ≠ .nm i) (h : PE X e (tE S m)) : PE X e (tB S m) := pe_weak h fun σ H Q ⟨ρ, G, g, sl, w, r⟩ => by
  rw [brw_of hm] at r
  exact ⟨ρ, G, g, sl, w, r.mono fun d g' G' H' x w' q v rv => q v (rv.toB w')⟩
end Mi


set_option Elab.async false
set_option maxRecDepth 100000
set_option maxHeartbeats 4000000
/-! Mi0: tuple * int, from 0 on. -/
namespace Mi
open PySem L2 PySem.Spec PyProof.Rows
theorem tup_mulSame (l : Addr) (items : Array Value) (n : Nat) (dd : Option Addr) (sl : Array (Option Value)) (x : Int) (u : Tok) (c0 : (decide (x < -(2 ^ 63)) || decide (x ≥ 2 ^ 63)) = false) (c1 : (items.isEmpty || x == 1) = true) :
    Meets (Builtin.«tuple.__mul__» ⟨[.ref l, .int x u], []⟩) (fun _ R s => s.heap.get? l = some { cls := .type "tuple", dict := dd, data := .seq items n, slots := sl } ∧
      R (.ok (.ret (Value.ref l))) s) :=
  .of_wp fun prog w A R s h => by
    obtain ⟨hp, g, d, tk, os⟩ := s
    obtain ⟨hl, h⟩ := h
    have f1 := AutoSeq1.idx_int
    wp_walk using wpAny_loadPart' hl
    refine wpAny_ite_false (decide_eq_false (by rw [c0]; exact Bool.false_ne_true)) ?_
    wp_walk using wpAny_loadPart' hl
    exact ⟨_, rfl, h⟩
theorem tup_mulNone (l : Addr) (items : Array Value) (n : Nat) (dd : Option Addr) (sl : Array (Option Value)) (x : Int) (u : Tok) (c0 : (decide (x < -(2 ^ 63)) || decide (x ≥ 2 ^ 63)) = false) (c1 : (items.isEmpty || x == 1) = false) (c2 : (decide (x ≤ 0) || items.isEmpty) = true) :
    Meets (Builtin.«tuple.__mul__» ⟨[.ref l, .int x u], []⟩) (fun _ R s => s.heap.get? l = some { cls := .type "tuple", dict := dd, data := .seq items n, slots := sl } ∧
      R (.ok (.ret (Value.ref s.heap.objs.size))) { s with heap := s.heap.push { cls := Value.type "tuple", data := Data.seq #[] }, toks := s.toks }) :=
  .of_wp fun prog w A R s h => by
    obtain ⟨hp, g, d, tk, os⟩ := s
    obtain ⟨hl, h⟩ := h
    have f1 := AutoSeq1.idx_int
    wp_walk using wpAny_loadPart' hl
    refine wpAny_ite_false (decide_eq_false (by rw [c0]; exact Bool.false_ne_true)) ?_
    wp_walk using wpAny_loadPart' hl
    repeat (first
      | (refine wpAny_ite_false (decide_eq_false (by rw [c1]; exact Bool.false_ne_true)) ?_; wp_walk using wpAny_loadPart' hl)
      | (refine wpAny_ite_true (decide_eq_true c2) ?_; wp_walk using wpAny_loadPart' hl))
    all_goals first | exact ⟨_, rfl, h⟩ | (show #[].size ≤ sizeLine; decide)
def rRepA (K : PySem.W.Frag) : R2 := fun x y H Q => ∃ l k xs, x = .ref l ∧ y = .int k ∧ SqT K H l xs ∧ 0 ≤ k ∧ k ≤ 1000 ∧ xs.length ≤ 1000 ∧
  ((xs = [] ∨ k = 1) → Q (.ref l) H) ∧ (xs ≠ [] → k ≠ 1 → ∀ p, H p = none → Q (.ref p) (upd H p (.tup (List.replicate k.toNat xs).flatten)))
theorem op_repA {X : Cx} : OpR X (binaryOp .Mult) (rRepA X.K) := by
  intro pins s σ H x y v u Q I rx ry h
  obtain ⟨l, k, xs, rfl, rfl, hT, h1, h2, hz, q1, q2⟩ := h
  by_cases c : xs ≠ [] ∧ 2 ≤ k
  · exact op_repT pins s σ H _ _ v u Q I rx ry ⟨l, k, xs, rfl, rfl, hT, c.1, c.2, h2, hz, q2 c.1 (by omega)⟩
  cases rx
  obtain ⟨t, rfl⟩ := ry
  obtain ⟨its, r, ⟨⟨cls, dd, data, sl⟩, ho, hc, n, hd⟩, hs⟩ := I.tuple hT
  simp only at hc hd
  subst hc hd
  have hle : its.length = xs.length := r.length.symm
  have hi : its.toArray.isEmpty = xs.isEmpty := by
    cases its with
    | nil => cases xs with
      | nil => rfl
      | cons a b => simp at hle
    | cons a b => cases xs with
      | nil => simp at hle
      | cons _ _ => rfl
  have c0 : (decide (k < -(2 ^ 63)) || decide (k ≥ 2 ^ 63)) = false := by
    rw [decide_eq_false (by omega), decide_eq_false (by omega)] <;> rfl
  by_cases c1 : (xs.isEmpty || k == 1) = true
  · refine wpAny_binaryOp_repeat_ref (T := "tuple") (U := "int") (by decide) ⟨_, ho, rfl⟩ (fun s' => typeIs_int s' k t) noFill_tuple_mul F.fills_int_mul F.slot_int_rmul repeat_tuple F.slot_int_index.lookup
      (call_meets F.slot_int_rmul (typeIs_int s k t) F.entry_int_rmul (F.args_int_rmul_2 _ _) (int_rmul_tuple k t l its.toArray n dd sl)
        ⟨ho, rfl, ⟨_, ho, rfl⟩, call_meets F.slot_tuple_mul ⟨_, ho, rfl⟩ F.entry_tuple_mul (F.args_tuple_mul_2 _ _) (tup_mulSame l its.toArray n dd sl k t c0 (by rw [hi]; exact c1)) ⟨ho, ?_⟩⟩)
    refine ⟨.ref l, H, I, rfl, q1 ?_⟩
    rcases Bool.or_eq_true _ _ ▸ c1 with z | z
    · exact .inl (List.isEmpty_iff.mp z)
    · exact .inr (by simpa using z)
  · have c1' : (xs.isEmpty || k == 1) = false := by simpa using c1
    have hne : xs ≠ [] := fun e => by subst e; simp at c1'
    have hk : k = 0 := by
      have a : ¬ 2 ≤ k := fun z => c ⟨hne, z⟩
      have b : k ≠ 1 := fun z => by subst z; simp at c1'
      omega
    subst hk
    refine wpAny_binaryOp_repeat_ref (T := "tuple") (U := "int") (by decide) ⟨_, ho, rfl⟩ (fun s' => typeIs_int s' 0 t) noFill_tuple_mul F.fills_int_mul F.slot_int_rmul repeat_tuple F.slot_int_index.lookup
      (call_meets F.slot_int_rmul (typeIs_int s 0 t) F.entry_int_rmul (F.args_int_rmul_2 _ _) (int_rmul_tuple 0 t l its.toArray n dd sl)
        ⟨ho, rfl, ⟨_, ho, rfl⟩, call_meets F.slot_tuple_mul ⟨_, ho, rfl⟩ F.entry_tuple_mul (F.args_tuple_mul_2 _ _) (tup_mulNone l its.toArray n dd sl 0 t c0 (by rw [hi]; exact c1') (by simp)) ⟨ho, ?_⟩⟩)
    have q := q2 hne (by omega) s.heap.objs.size (I.hok.fresh (Nat.le_refl _))
    refine ⟨.ref s.heap.objs.size, _, I.laid (t' := s.toks) (o := .tup []) (fun b ob q => Heap.get?_push_of_some _ q) (Nat.le_refl _) ?_, rfl, q⟩
    exact ⟨by decide, [], .nil, IsTup.new _ _⟩
end Mi


set_option Elab.async false
set_option maxRecDepth 100000
set_option maxHeartbeats 2000000
/-! Mi4: operators, comparisons, subscripts, built-ins, by data. -/
namespace Mi
open PySem L2
section
variable {X : Cx} {S : Sx}
def rOpM (S : Sx) (o : Op) : R2 := fun x y H Q => ∃ d e g G z, World S.a g G H ∧ RepB S G H d x ∧ RepB S G H e y ∧ opD o d e = some z ∧
  ∀ G' H' v, Ext S.a G H G' H' → World S.a g G' H' → RepF S H G' H' z v → Q v H'
theorem repB_int {G H : Hp} {i : Int} {v : V} (h : RepB S G H (.int i) v) : v = .int i := by unfold RepB Rep at h; exact h
theorem repB_str {G H : Hp} {i : Str} {v : V} (h : RepB S G H (.str i) v) : v = .str i := by unfold RepB Rep at h; exact h
theorem repB_bl {G H : Hp} {i : Bool} {v : V} (h : RepB S G H (.bl i) v) : v = .bl i := by unfold RepB Rep at h; exact h
theorem repB_non {G H : Hp} {v : V} (h : RepB S G H .non v) : v = .non := by unfold RepB Rep at h; exact h
theorem repB_tup {G H : Hp} {ds : List D} {v : V} (h : RepB S G H (.tup ds) v) : ∃ p vs, v = .ref p ∧ SqT S.K G p vs ∧ Reps S.K S.a G ds vs := by unfold RepB Rep at h; exact h
theorem repB_lst {G H : Hp} {ds : List D} {v : V} (h : RepB S G H (.lst ds) v) : ∃ p vs, v = .ref p ∧ H p = some (.lst vs) ∧ ¬ S.a.has p ∧ Reps S.K S.a G ds vs := by unfold RepB at h; exact h
theorem repF_int {Hb G H : Hp} {i : Int} : RepF S Hb G H (.int i) (.int i) := by unfold RepF Rep; rfl
theorem repF_str {Hb G H : Hp} {i : Str} : RepF S Hb G H (.str i) (.str i) := by unfold RepF Rep; rfl
theorem repF_bl {Hb G H : Hp} {i : Bool} : RepF S Hb G H (.bl i) (.bl i) := by unfold RepF Rep; rfl
/-- a new list at p -/
theorem newL {g : Gs} {G H : Hp} (w : World S.a g G H) {p : Addr} {ds : List D} {vs : List V} (hp : H p = none) (r : Reps S.K S.a G ds vs) :
    Ext S.a G H G (upd H p (.lst vs)) ∧ World S.a g G (upd H p (.lst vs)) ∧ RepF S H G (upd H p (.lst vs)) (.lst ds) (.ref p) := by
  obtain ⟨x, w'⟩ := Ext.fresh (o := .lst vs) w hp
  refine ⟨x, w', ?_⟩
  unfold RepF
  exact ⟨p, vs, rfl, upd_same, w.not hp, w.sub.free hp, hp, r⟩
/-- a new tuple at p -/
theorem newT {g : Gs} {G H : Hp} (w : World S.a g G H) {p : Addr} {ds : List D} {vs : List V} (hp : H p = none) (r : Reps S.K S.a G ds vs) :
    Ext S.a G H (upd G p (.tup vs)) (upd H p (.tup vs)) ∧ World S.a g (upd G p (.tup vs)) (upd H p (.tup vs)) ∧ RepF S H (upd G p (.tup vs)) (upd H p (.tup vs)) (.tup ds) (.ref p) := by
  obtain ⟨x, w'⟩ := Ext.alloc (o := .tup vs) w hp
  refine ⟨x, w', ?_⟩
  unfold RepF Rep
  exact ⟨p, vs, rfl, SqT.of upd_same, r.mono x.gg⟩
theorem smallI_iff {i : Int} (h : smallI i = true) : -(2 ^ 64) < i ∧ i < 2 ^ 64 := by unfold smallI at h; exact of_decide_eq_true h
theorem op_mi (hK : X.K = S.K) {oo : Operator} {o : Op} (ho : trOp oo = some o) : OpR X (binaryOp oo) (rOpM S o) := by
  intro pins s σ H x y v u Q I rx ry h
  obtain ⟨d, e, g, G, z, w, rd, re, hz, k⟩ := h
  have fin : ∀ i : Int, z = .int i → Q (.int i) H := fun i e => k G H _ Ext.refl w (by rw [e]; exact repF_int)
  have twoI : ∀ {i j : Int}, d = .int i → e = .int j → x = .int i ∧ y = .int j := fun {i j} e1 e2 => by
    subst e1 e2
    exact ⟨repB_int rd, repB_int re⟩
  cases oo <;> simp only [trOp, Option.some.injEq, reduceCtorEq] at ho <;> subst ho
  case Add =>
    unfold opD at hz
    split at hz <;> try (simp only [reduceCtorEq] at *; done)
    · cases hz
      obtain ⟨rfl, rfl⟩ := twoI rfl rfl
      exact op_add pins s σ H _ _ v u Q I rx ry ⟨_, _, rfl, rfl, fin _ rfl⟩
    · split at hz
      · rename_i hl
        cases hz
        cases repB_str rd
        cases repB_str re
        exact op_add_str pins s σ H _ _ v u Q I rx ry ⟨_, _, rfl, rfl, hl, k G H _ Ext.refl w repF_str⟩
      · cases hz
    · split at hz
      · rename_i hl
        cases hz
        obtain ⟨p, vs, rfl, q1, r1⟩ := repB_tup rd
        obtain ⟨p', us, rfl, q2, r2⟩ := repB_tup re
        have l1 := r1.length
        have l2 := r2.length
        refine op_catA pins s σ H _ _ v u Q I rx ry ⟨p, p', vs, us, rfl, rfl, hK ▸ SqT.mono w.sub q1, hK ▸ SqT.mono w.sub q2, by omega, fun e1 => ?_, fun e1 e2 => ?_, fun _ _ p2 hp => ?_⟩
        · subst e1
          refine k G H _ Ext.refl w ?_
          unfold RepF Rep
          have e3 := List.eq_nil_of_length_eq_zero (l1.symm.trans rfl)
          rw [e3]
          exact ⟨p', us, rfl, q2, r2⟩
        · subst e2
          refine k G H _ Ext.refl w ?_
          unfold RepF Rep
          have e3 := List.eq_nil_of_length_eq_zero (l2.symm.trans rfl)
          rw [e3, List.append_nil]
          exact ⟨p, vs, rfl, q1, r1⟩
        · obtain ⟨x1, w1, f1⟩ := newT w hp (r1.append r2)
          exact k _ _ _ x1 w1 f1
      · cases hz
    · split at hz
      · rename_i hl
        cases hz
        obtain ⟨p, vs, rfl, q1, n1, r1⟩ := repB_lst rd
        obtain ⟨p', us, rfl, q2, n2, r2⟩ := repB_lst re
        have l1 := r1.length
        have l2 := r2.length
        refine op_cat pins s σ H _ _ v u Q I rx ry ⟨p, p', vs, us, rfl, rfl, q1, q2, by omega, fun p2 hp => ?_⟩
        obtain ⟨x1, w1, f1⟩ := newL w hp (r1.append r2)
        exact k _ _ _ x1 w1 f1
      · cases hz
  case Sub =>
    unfold opD at hz
    split at hz <;> try (simp only [reduceCtorEq] at *; done)
    cases hz
    obtain ⟨rfl, rfl⟩ := twoI rfl rfl
    exact op_sub pins s σ H _ _ v u Q I rx ry ⟨_, _, rfl, rfl, fin _ rfl⟩
  case Mult =>
    unfold opD at hz
    split at hz <;> try (simp only [reduceCtorEq] at *; done)
    · split at hz
      · rename_i hl
        cases hz
        obtain ⟨rfl, rfl⟩ := twoI rfl rfl
        have hc : ∀ a b : Int, (smallI a || smallI b) = true → CMul a b := fun a b h => by
          rcases Bool.or_eq_true _ _ ▸ h with h | h
          · exact .inl (smallI_iff h)
          · exact .inr (smallI_iff h)
        exact op_mul pins s σ H _ _ v u Q I rx ry ⟨_, _, rfl, rfl, hc _ _ hl, fin _ rfl⟩
      · cases hz
    · split at hz
      · rename_i hl
        cases hz
        obtain ⟨p, vs, rfl, q1, n1, r1⟩ := repB_lst rd
        cases repB_int re
        have l1 := r1.length
        refine op_rep pins s σ H _ _ v u Q I rx ry ⟨p, _, vs, rfl, rfl, q1, hl.1, hl.2.1, by rw [l1]; exact hl.2.2, fun p2 hp => ?_⟩
        obtain ⟨x1, w1, f1⟩ := newL w hp (r1.rep _)
        exact k _ _ _ x1 w1 f1
      · cases hz
    · split at hz
      · rename_i hl
        cases hz
        obtain ⟨p, vs, rfl, q1, r1⟩ := repB_tup rd
        cases repB_int re
        have l1 := r1.length
        refine op_repA pins s σ H _ _ v u Q I rx ry ⟨p, _, vs, rfl, rfl, hK ▸ SqT.mono w.sub q1, hl.2.1, hl.2.2.1, by rw [l1]; exact hl.2.2.2, fun e1 => ?_, fun _ _ p2 hp => ?_⟩
        · refine k G H _ Ext.refl w ?_
          unfold RepF Rep
          refine ⟨p, vs, rfl, q1, ?_⟩
          rcases e1 with e1 | e1
          · subst e1
            exact absurd (List.eq_nil_of_length_eq_zero (l1.symm.trans rfl)) hl.1
          · subst e1
            simpa using r1
        · obtain ⟨x1, w1, f1⟩ := newT w hp (r1.rep _)
          exact k _ _ _ x1 w1 f1
      · cases hz
  case Mod =>
    unfold opD at hz
    split at hz <;> try (simp only [reduceCtorEq] at *; done)
    split at hz
    · rename_i hl
      cases hz
      obtain ⟨rfl, rfl⟩ := twoI rfl rfl
      exact op_mod pins s σ H _ _ v u Q I rx ry ⟨_, _, rfl, rfl, hl, fin _ rfl⟩
    · cases hz
  case Pow =>
    unfold opD at hz
    split at hz <;> try (simp only [reduceCtorEq] at *; done)
    split at hz
    · rename_i hl
      cases hz
      obtain ⟨rfl, rfl⟩ := twoI rfl rfl
      exact op_pow pins s σ H _ _ v u Q I rx ry ⟨_, _, rfl, rfl, hl, fin _ rfl⟩
    · cases hz
  case LShift =>
    unfold opD at hz
    split at hz <;> try (simp only [reduceCtorEq] at *; done)
    split at hz
    · rename_i hl
      cases hz
      obtain ⟨rfl, rfl⟩ := twoI rfl rfl
      exact op_shl pins s σ H _ _ v u Q I rx ry ⟨_, _, rfl, rfl, hl, fin _ rfl⟩
    · cases hz
  case RShift =>
    unfold opD at hz
    split at hz <;> try (simp only [reduceCtorEq] at *; done)
    split at hz
    · rename_i hl
      cases hz
      obtain ⟨rfl, rfl⟩ := twoI rfl rfl
      exact op_shr pins s σ H _ _ v u Q I rx ry ⟨_, _, rfl, rfl, hl, fin _ rfl⟩
    · cases hz
  case BitOr =>
    unfold opD at hz
    split at hz <;> try (simp only [reduceCtorEq] at *; done)
    cases hz
    obtain ⟨rfl, rfl⟩ := twoI rfl rfl
    exact op_or pins s σ H _ _ v u Q I rx ry ⟨_, _, rfl, rfl, fin _ rfl⟩
  case BitXor =>
    unfold opD at hz
    split at hz <;> try (simp only [reduceCtorEq] at *; done)
    cases hz
    obtain ⟨rfl, rfl⟩ := twoI rfl rfl
    exact op_xor pins s σ H _ _ v u Q I rx ry ⟨_, _, rfl, rfl, fin _ rfl⟩
  case BitAnd =>
    unfold opD at hz
    split at hz <;> try (simp only [reduceCtorEq] at *; done)
    cases hz
    obtain ⟨rfl, rfl⟩ := twoI rfl rfl
    exact op_and pins s σ H _ _ v u Q I rx ry ⟨_, _, rfl, rfl, fin _ rfl⟩
  case FloorDiv =>
    unfold opD at hz
    split at hz <;> try (simp only [reduceCtorEq] at *; done)
    split at hz
    · rename_i hl
      cases hz
      obtain ⟨rfl, rfl⟩ := twoI rfl rfl
      exact op_fdivW pins s σ H _ _ v u Q I rx ry ⟨_, _, rfl, rfl, hl, fin _ rfl⟩
    · cases hz
end
end Mi


set_option Elab.async false
set_option maxRecDepth 100000
set_option maxHeartbeats 2000000
/-! Mi5: comparisons, subscripts, slices, built-ins, isinstance, by data. -/
namespace Mi
open PySem L2
section
variable {K : PySem.W.Frag} {z : Fs} {G H : Hp}
mutual
theorem Rep.dp (s : Same G H) : ∀ {d : D} {v : V} {p : PyData}, Rep K z G d v → D.toP d = some p → Dp K H v p
  | .non, _, _, h, e => by unfold Rep at h; unfold D.toP at e; subst h; cases e; exact .non
  | .bl _, _, _, h, e => by unfold Rep at h; unfold D.toP at e; subst h; cases e; exact .bl _
  | .int _, _, _, h, e => by unfold Rep at h; unfold D.toP at e; subst h; cases e; exact .int _
  | .str _, _, _, h, e => by unfold Rep at h; unfold D.toP at e; subst h; cases e; exact .str _
  | .st, _, _, _, e => by unfold D.toP at e; cases e
  | .sub _, _, _, _, e => by unfold D.toP at e; cases e
  | .scr _, _, _, _, e => by unfold D.toP at e; cases e
  | .exn _ _, _, _, _, e => by unfold D.toP at e; cases e
  | .tup ds, _, _, h, e => by
    unfold Rep at h
    unfold D.toP at e
    obtain ⟨p, vs, rfl, q, r⟩ := h
    split at e
    · rename_i ps e1
      cases e
      exact .tup (SqT.mono s q) (Reps.dps s r e1)
    · cases e
  | .lst ds, _, _, h, e => by
    unfold Rep at h
    unfold D.toP at e
    obtain ⟨p, vs, rfl, q, r⟩ := h
    split at e
    · rename_i ps e1
      cases e
      exact .lst (SqL.of (s _ _ q)) (Reps.dps s r e1)
    · cases e
theorem Reps.dps (s : Same G H) : ∀ {ds : List D} {vs : List V} {ps : List PyData}, Reps K z G ds vs → D.toPs ds = some ps → DpAll K H vs ps
  | [], _, _, h, e => by unfold Reps at h; unfold D.toPs at e; subst h; cases e; exact .nil
  | d :: ds, _, _, h, e => by
    unfold Reps at h
    unfold D.toPs at e
    obtain ⟨v, r, rfl, q, t⟩ := h
    split at e
    · rename_i p ps e1 e2
      cases e
      exact .cons (Rep.dp s q e1) (Reps.dps s t e2)
    · cases e
end
theorem Rep.flat {d : D} {v : V} (h : Rep K z G d v) (f : flatD d = true) : flatV v = true := by
  cases d <;> first | (unfold Rep at h; subst h; rfl) | (simp [flatD] at f)
theorem Rep.eqF {d e : D} {v u : V} (h : Rep K z G d v) (h' : Rep K z G e u) (f : flatD d = true) (f' : flatD e = true) : Mi.eqF d e = eqV v u := by
  cases d <;> first | (simp [flatD] at f; done) | skip
  all_goals cases e <;> first | (simp [flatD] at f'; done) | skip
  all_goals
    unfold Rep at h h'
    subst h h'
    rfl
theorem Reps.flat : ∀ {ds : List D} {vs : List V}, Reps K z G ds vs → ds.all flatD = true → vs.all flatV = true
  | [], _, h, _ => by unfold Reps at h; subst h; rfl
  | d :: ds, _, h, f => by
    unfold Reps at h
    obtain ⟨v, r, rfl, q, t⟩ := h
    rw [List.all_cons, Bool.and_eq_true] at f
    rw [List.all_cons, q.flat f.1, Reps.flat t f.2]
    rfl
theorem Reps.inV {x : D} {v : V} (h : Rep K z G x v) (fx : flatD x = true) : ∀ {ds : List D} {vs : List V}, Reps K z G ds vs → ds.all flatD = true → (ds.any fun y => Mi.eqF y x) = inV v vs
  | [], _, h, _ => by unfold Reps at h; subst h; rfl
  | d :: ds, _, h', f => by
    unfold Reps at h'
    obtain ⟨u, r, rfl, q, t⟩ := h'
    rw [List.all_cons, Bool.and_eq_true] at f
    have ih := Reps.inV h fx t f.2
    unfold L2.inV at ih ⊢
    rw [List.any_cons, List.any_cons, ih, q.eqF h f.1 fx]
end
section
variable {X : Cx} {S : Sx}
theorem RepB.dp {g : Gs} {G H : Hp} {d : D} {v : V} {p : PyData} (w : World S.a g G H) (h : RepB S G H d v) (e : D.toP d = some p) : Dp S.K H v p := by
  cases d with
  | lst ds =>
    obtain ⟨q, vs, rfl, hq, n, r⟩ := repB_lst h
    unfold D.toP at e
    split at e
    · rename_i ps e1
      cases e
      exact .lst (SqL.of hq) (r.dps w.sub e1)
    · cases e
  | _ => exact Rep.dp w.sub h e
def rCmM (S : Sx) (o : Cm) : R2 := fun x y H Q => ∃ d e g G k, World S.a g G H ∧ RepB S G H d x ∧ RepB S G H e y ∧ cmpD o d e = some k ∧ Q (.bl k) H
theorem eqD_cases {d e : D} {k : Bool} (h : eqD d e = some k) :
    (∃ a b, d = .int a ∧ e = .int b ∧ k = (a == b)) ∨ (∃ a b, d = .str a ∧ e = .str b ∧ k = (a == b)) ∨ (∃ a b, d = .bl a ∧ e = .bl b ∧ k = (a == b)) ∨ (d = .non ∧ e = .non ∧ k = true) ∨
    ∃ p q, d.toP = some p ∧ e.toP = some q ∧ SeqAt.shaped p = true ∧ SeqAt.shaped q = true ∧ k = PyData.eqv p q := by
  unfold eqD at h
  split at h
  · cases h; exact .inl ⟨_, _, rfl, rfl, rfl⟩
  · cases h; exact .inr (.inl ⟨_, _, rfl, rfl, rfl⟩)
  · cases h; exact .inr (.inr (.inl ⟨_, _, rfl, rfl, rfl⟩))
  · cases h; exact .inr (.inr (.inr (.inl ⟨rfl, rfl, rfl⟩)))
  · split at h
    · rename_i p q e1 e2
      split at h
      · rename_i hs
        cases h
        exact .inr (.inr (.inr (.inr ⟨p, q, e1, e2, hs.1, hs.2, rfl⟩)))
      · cases h
    · cases h
theorem isNon_iff' {G H : Hp} {d : D} {v : V} (h : RepB S G H d v) : isNon d = decide (v = .non) := by
  cases d with
  | non => cases repB_non h; rfl
  | bl b => cases repB_bl h; rfl
  | int b => cases repB_int h; rfl
  | str b => cases repB_str h; rfl
  | tup b => obtain ⟨p, vs, rfl, _⟩ := repB_tup h; rfl
  | lst b => obtain ⟨p, vs, rfl, _⟩ := repB_lst h; rfl
  | st => unfold RepB Rep at h; subst h; rfl
  | sub k => unfold RepB Rep at h; obtain ⟨p, _, rfl⟩ := h; rfl
  | scr k => unfold RepB Rep at h; obtain ⟨p, rfl, _⟩ := h; rfl
  | exn k fs => unfold RepB Rep at h; obtain ⟨_, _, _, _, rfl, _⟩ := h; rfl
theorem inD_cases {d : D} {ds : List D} {k : Bool} (h : inD d ds = some k) : ((flatD d = true ∧ ds.all flatD = true) ∧ k = ds.any fun y => eqF y d) ∨
    ∃ p ps, d.toP = some p ∧ D.toPs ds = some ps ∧ (p.canLay0 = true ∧ PyData.canLayAll0 ps = true ∧ min (PyData.depthAll ps) p.depth ≤ 50) ∧ k = ps.any fun y => PyData.eqv y p := by
  unfold inD at h
  split at h
  · rename_i hf
    cases h
    exact .inl ⟨hf, rfl⟩
  · split at h
    · rename_i p ps e1 e2
      split at h
      · rename_i hq
        cases h
        exact .inr ⟨p, ps, e1, e2, hq, rfl⟩
      · cases h
    · cases h
theorem toP_tup {ds : List D} {ps : List PyData} (e : D.toPs ds = some ps) : D.toP (.tup ds) = some (.tuple ps) := by unfold D.toP; rw [e]
theorem toP_lst {ds : List D} {ps : List PyData} (e : D.toPs ds = some ps) : D.toP (.lst ds) = some (.list ps) := by unfold D.toP; rw [e]
theorem isBl_val {G H : Hp} {d : D} {x : V} {v u : Value} {b : Bool} (h : RepB S G H d x) (rx : RelV x v) (ry : RelV (.bl b) u) : plainIs v u = true ∧ (v == u) = isBl b d := by
  cases (show u = Value.bool b from ry)
  have other : ∀ {p : Addr}, x = .ref p → (∀ a, d ≠ .bl a) → plainIs v (.bool b) = true ∧ (v == Value.bool b) = isBl b d := fun {p} e n => by
    subst e
    cases (show v = Value.ref p from rx)
    refine ⟨rfl, ?_⟩
    have e2 : isBl b d = false := by
      cases d <;> first | rfl | exact absurd rfl (n _)
    rw [e2]
    exact beq_eq_false_iff_ne.mpr (fun z => by cases z)
  cases d with
  | non => cases repB_non h; cases (show v = Value.none from rx); exact ⟨rfl, beq_eq_false_iff_ne.mpr (fun z => by cases z)⟩
  | bl a =>
    cases repB_bl h
    cases (show v = Value.bool a from rx)
    refine ⟨rfl, ?_⟩
    show (Value.bool a == Value.bool b) = (a == b)
    by_cases e : a = b
    · subst e; simp
    · rw [beq_eq_false_iff_ne.mpr (fun z => e (Value.bool.inj z)), beq_eq_false_iff_ne.mpr e]
  | int i =>
    cases repB_int h
    obtain ⟨t, rfl⟩ := rx
    exact ⟨rfl, beq_eq_false_iff_ne.mpr (fun z => by cases z)⟩
  | str i =>
    cases repB_str h
    obtain ⟨t, rfl⟩ := rx
    exact ⟨rfl, beq_eq_false_iff_ne.mpr (fun z => by cases z)⟩
  | tup b => obtain ⟨p, vs, rfl, _⟩ := repB_tup h; exact other rfl (fun a z => by cases z)
  | lst b => obtain ⟨p, vs, rfl, _⟩ := repB_lst h; exact other rfl (fun a z => by cases z)
  | st => unfold RepB Rep at h; subst h; exact other rfl (fun a z => by cases z)
  | sub k => unfold RepB Rep at h; obtain ⟨p, _, rfl⟩ := h; exact other rfl (fun a z => by cases z)
  | scr k => unfold RepB Rep at h; obtain ⟨p, rfl, _⟩ := h; exact other rfl (fun a z => by cases z)
  | exn k fs => unfold RepB Rep at h; obtain ⟨_, _, _, _, rfl, _⟩ := h; exact other rfl (fun a z => by cases z)
theorem cmp_mi (hK : X.K = S.K) (hu : X.A.units + 64 < cLine) (oo : CmpOp) : OpR X (compareOp oo) (rCmM S (trCm oo)) := by
  intro pins s σ H x y v u Q I rx ry h
  obtain ⟨d, e, g, G, k, w, rd, re, hz, q⟩ := h
  have twoI : ∀ {i j : Int}, d = .int i → e = .int j → x = .int i ∧ y = .int j := fun {i j} e1 e2 => by
    subst e1 e2
    exact ⟨repB_int rd, repB_int re⟩
  have isin : ∀ {n : Bool} {ds : List D} {kk : Bool}, (e = .tup ds ∨ e = .lst ds) → (flatD d = true ∧ ds.all flatD = true) → kk = (ds.any fun y => eqF y d) → k = (if n = true then !kk else kk) → rIn X.K n x y H Q := fun {n ds kk} he hf hi hk => by
      subst hi
      have rd' : Rep S.K S.a G d x := by
        cases d <;> first | exact rd | (simp [flatD] at hf)
      have core : ∀ {p : Addr} {vs : List V}, y = .ref p → (SqL X.K H p vs ∨ SqT X.K H p vs) → Reps S.K S.a G ds vs → rIn X.K n x y H Q := fun {p vs} ey hs r =>
        ⟨p, vs, ey, hs, rd'.flat hf.1, r.flat hf.2, by rw [← Reps.inV rd' hf.1 r hf.2, ← hk]; exact q⟩
      rcases he with he | he
      · subst he
        obtain ⟨p, vs, e1, q1, r1⟩ := repB_tup re
        exact core e1 (.inr (hK ▸ SqT.mono w.sub q1)) r1
      · subst he
        obtain ⟨p, vs, e1, q1, _, r1⟩ := repB_lst re
        exact core e1 (.inl (SqL.of q1)) r1
  cases oo with
  | Eq =>
    have hz : eqD d e = some k := hz
    rcases eqD_cases hz with ⟨a, b, rfl, rfl, rfl⟩ | ⟨a, b, rfl, rfl, rfl⟩ | ⟨a, b, rfl, rfl, rfl⟩ | ⟨rfl, rfl, rfl⟩ | ⟨p, p', e1, e2, s1, s2, rfl⟩
    · cases repB_int rd; cases repB_int re
      exact op_eq pins s σ H _ _ v u Q I rx ry ⟨rfl, by rw [dec_int]; exact q⟩
    · cases repB_str rd; cases repB_str re
      exact op_eq pins s σ H _ _ v u Q I rx ry ⟨rfl, by rw [dec_str]; exact q⟩
    · cases repB_bl rd; cases repB_bl re
      exact op_eq pins s σ H _ _ v u Q I rx ry ⟨rfl, by rw [dec_bl]; exact q⟩
    · cases repB_non rd; cases repB_non re
      exact op_eq pins s σ H _ _ v u Q I rx ry ⟨rfl, by simpa using q⟩
    · exact op_eqD hu pins s σ H _ _ v u Q I rx ry ⟨p, p', hK ▸ rd.dp w e1, hK ▸ re.dp w e2, s1, s2, q⟩
  | NotEq =>
    have hz : (eqD d e).map (!·) = some k := hz
    obtain ⟨k', hz2, rfl⟩ := Option.map_eq_some_iff.mp hz
    rcases eqD_cases hz2 with ⟨a, b, rfl, rfl, rfl⟩ | ⟨a, b, rfl, rfl, rfl⟩ | ⟨a, b, rfl, rfl, rfl⟩ | ⟨rfl, rfl, rfl⟩ | ⟨p, p', e1, e2, s1, s2, rfl⟩
    · cases repB_int rd; cases repB_int re
      exact op_ne pins s σ H _ _ v u Q I rx ry ⟨rfl, by rw [dec_int]; exact q⟩
    · cases repB_str rd; cases repB_str re
      exact op_ne pins s σ H _ _ v u Q I rx ry ⟨rfl, by rw [dec_str]; exact q⟩
    · cases repB_bl rd; cases repB_bl re
      exact op_ne pins s σ H _ _ v u Q I rx ry ⟨rfl, by rw [dec_bl]; exact q⟩
    · cases repB_non rd; cases repB_non re
      exact op_ne pins s σ H _ _ v u Q I rx ry ⟨rfl, by simpa using q⟩
    · exact op_neD hu pins s σ H _ _ v u Q I rx ry ⟨p, p', hK ▸ rd.dp w e1, hK ▸ re.dp w e2, s1, s2, q⟩
  | Lt =>
    simp only [trCm] at hz
    unfold cmpD at hz
    split at hz <;> try (simp only [reduceCtorEq] at *; done)
    cases hz
    obtain ⟨rfl, rfl⟩ := twoI rfl rfl
    exact op_lt pins s σ H _ _ v u Q I rx ry ⟨_, _, rfl, rfl, q⟩
  | LtE =>
    simp only [trCm] at hz
    unfold cmpD at hz
    split at hz <;> try (simp only [reduceCtorEq] at *; done)
    cases hz
    obtain ⟨rfl, rfl⟩ := twoI rfl rfl
    exact op_le pins s σ H _ _ v u Q I rx ry ⟨_, _, rfl, rfl, q⟩
  | Gt =>
    simp only [trCm] at hz
    unfold cmpD at hz
    split at hz <;> try (simp only [reduceCtorEq] at *; done)
    cases hz
    obtain ⟨rfl, rfl⟩ := twoI rfl rfl
    exact op_gt pins s σ H _ _ v u Q I rx ry ⟨_, _, rfl, rfl, q⟩
  | GtE =>
    simp only [trCm] at hz
    unfold cmpD at hz
    split at hz <;> try (simp only [reduceCtorEq] at *; done)
    cases hz
    obtain ⟨rfl, rfl⟩ := twoI rfl rfl
    exact op_ge pins s σ H _ _ v u Q I rx ry ⟨_, _, rfl, rfl, q⟩
  | Is =>
    simp only [trCm] at hz
    unfold cmpD at hz
    split at hz <;> try (simp only [reduceCtorEq] at *; done)
    · cases hz
      cases repB_non re
      exact op_isN pins s σ H _ _ v u Q I rx ry ⟨rfl, by rw [← isNon_iff' rd]; exact q⟩
    · cases hz
      cases repB_bl re
      obtain ⟨h1, h2⟩ := isBl_val rd rx ry
      exact wpAny_is_plain h1 ⟨.bl _, H, I, rfl, by rw [h2]; exact q⟩
  | IsNot =>
    simp only [trCm] at hz
    unfold cmpD at hz
    split at hz <;> try (simp only [reduceCtorEq] at *; done)
    · cases hz
      cases repB_non re
      exact op_notN pins s σ H _ _ v u Q I rx ry ⟨rfl, by rw [← isNon_iff' rd]; exact q⟩
    · cases hz
      cases repB_bl re
      obtain ⟨h1, h2⟩ := isBl_val rd rx ry
      exact wpAny_isNot_plain h1 ⟨.bl _, H, I, rfl, by rw [h2]; exact q⟩
  | In =>
    simp only [trCm] at hz
    unfold cmpD at hz
    split at hz <;> try (simp only [reduceCtorEq] at *; done)
    · rcases inD_cases hz with ⟨hf, hi⟩ | ⟨p, ps, e1, e2, hq, rfl⟩
      · exact op_in_seq pins s σ H _ _ v u Q I rx ry (isin (n := false) (.inl rfl) hf hi rfl)
      · obtain ⟨as, r1⟩ := Dp.reads I p x v (hK ▸ rd.dp w e1) rx
        obtain ⟨bs, r2⟩ := Dp.reads I (.tuple ps) y u (hK ▸ re.dp w (toP_tup e2)) ry
        exact SeqAt.in_tuple_reads r2 r1 hq.2.1 hq.1 (by have := hq.2.2; omega) ⟨.bl _, H, I, rfl, q⟩
    · rcases inD_cases hz with ⟨hf, hi⟩ | ⟨p, ps, e1, e2, hq, rfl⟩
      · exact op_in_seq pins s σ H _ _ v u Q I rx ry (isin (n := false) (.inr rfl) hf hi rfl)
      · obtain ⟨as, r1⟩ := Dp.reads I p x v (hK ▸ rd.dp w e1) rx
        obtain ⟨bs, r2⟩ := Dp.reads I (.list ps) y u (hK ▸ re.dp w (toP_lst e2)) ry
        exact SeqAt.in_list_reads r2 r1 hq.2.1 hq.1 (by have := hq.2.2; omega) ⟨.bl _, H, I, rfl, q⟩
  | NotIn =>
    simp only [trCm] at hz
    unfold cmpD at hz
    split at hz <;> try (simp only [reduceCtorEq] at *; done)
    · obtain ⟨k', hz2, rfl⟩ := Option.map_eq_some_iff.mp hz
      rcases inD_cases hz2 with ⟨hf, hi⟩ | ⟨p, ps, e1, e2, hq, rfl⟩
      · exact op_notIn_seq pins s σ H _ _ v u Q I rx ry (isin (n := true) (.inl rfl) hf hi rfl)
      · obtain ⟨as, r1⟩ := Dp.reads I p x v (hK ▸ rd.dp w e1) rx
        obtain ⟨bs, r2⟩ := Dp.reads I (.tuple ps) y u (hK ▸ re.dp w (toP_tup e2)) ry
        exact SeqAt.notIn_tuple_reads r2 r1 hq.2.1 hq.1 (by have := hq.2.2; omega) ⟨.bl _, H, I, rfl, q⟩
    · obtain ⟨k', hz2, rfl⟩ := Option.map_eq_some_iff.mp hz
      rcases inD_cases hz2 with ⟨hf, hi⟩ | ⟨p, ps, e1, e2, hq, rfl⟩
      · exact op_notIn_seq pins s σ H _ _ v u Q I rx ry (isin (n := true) (.inr rfl) hf hi rfl)
      · obtain ⟨as, r1⟩ := Dp.reads I p x v (hK ▸ rd.dp w e1) rx
        obtain ⟨bs, r2⟩ := Dp.reads I (.list ps) y u (hK ▸ re.dp w (toP_lst e2)) ry
        exact SeqAt.notIn_list_reads r2 r1 hq.2.1 hq.1 (by have := hq.2.2; omega) ⟨.bl _, H, I, rfl, q⟩
/-! ### subscripts, slices -/
theorem Reps.atI {K : PySem.W.Frag} {z : Fs} {G : Hp} {ds : List D} {vs : List V} {i : Int} {d : D} (h : Reps K z G ds vs) (e : atI ds i = some d) : ∃ v, atI vs i = some v ∧ Rep K z G d v := by
  unfold L2.atI at e ⊢
  rw [h.length]
  cases q : ixN ds.length i with
  | none => rw [q] at e; cases e
  | some j =>
    rw [q] at e
    exact h.get e
theorem repB_scr {S : Sx} {G H : Hp} {ns : List Int} {v : V} (h : RepB S G H (.scr ns) v) : ∃ p, v = .ref p ∧ SqL S.K G p (ns.map V.int) := by unfold RepB Rep at h; exact h
theorem repB_st {S : Sx} {G H : Hp} {v : V} (h : RepB S G H .st v) : v = .ref S.a.s := by unfold RepB Rep at h; exact h
theorem repB_sub {S : Sx} {G H : Hp} {k : Nat} {v : V} (h : RepB S G H (.sub k) v) : ∃ p, S.a.ts[k]? = some p ∧ v = .ref p := by unfold RepB Rep at h; exact h
theorem gcV_at {a : Fs} {k : Nat} {p : Addr} (h : a.ts[k]? = some p) : gcV a (.at_ k) = .ref p := by
  unfold gcV
  simp only [h]
theorem atI_map {α β : Type} (f : α → β) (xs : List α) (j : Int) : atI (xs.map f) j = (atI xs j).map f := by
  unfold atI
  rw [List.length_map]
  cases ixN xs.length j with
  | none => rfl
  | some i => exact List.getElem?_map
theorem World.row {a : Fs} {g : Gs} {G H : Hp} (w : World a g G H) (h : g.row ≠ []) : H a.s = some (.lst (g.row.map (gcV a))) := by
  refine w.hs ?_
  cases q : a.on with
  | true => rfl
  | false => exact absurd (w.hn q).1 h
theorem atI_ne {α : Type} {xs : List α} {j : Int} {x : α} (h : atI xs j = some x) : xs ≠ [] := fun e => by
  subst e
  unfold atI at h
  cases q : ixN ([] : List α).length j with
  | none => rw [q] at h; cases h
  | some i => rw [q] at h; simp at h
theorem World.at_ {a : Fs} {g : Gs} {G H : Hp} (w : World a g G H) {k : Nat} {l : List Int} (h : g.ls[k]? = some l) : ∃ p, a.ts[k]? = some p ∧ H p = some (.lst (l.map V.int)) := by
  have hk : k < a.ts.length := by rw [w.hl]; exact (List.getElem?_eq_some_iff.mp h).1
  exact ⟨_, List.getElem?_eq_getElem hk, w.ht k _ l (List.getElem?_eq_getElem hk) h⟩
def rIxM (S : Sx) : R2 := fun x y H Q => ∃ d e g G z, World S.a g G H ∧ RepB S G H d x ∧ Rep S.K S.a G e y ∧ ixG g d e = some z ∧ ∀ v, Rep S.K S.a G z v → Q v H
theorem ix_mi (hK : X.K = S.K) : IxR X (rIxM S) := by
  intro value slice pins s σ H x y v u Q I rx ry h hs
  obtain ⟨d, e, g, G, z, w, rd, re, hz, q⟩ := h
  unfold ixG at hz
  split at hz
  · cases re.inj_int
    cases repB_st rd
    split at hz
    · rename_i i e1
      cases hz
      exact ix_list value slice pins s σ H _ _ v u Q I rx ry ⟨_, _, _, .int i, rfl, rfl, SqL.of (w.row (atI_ne e1)), by rw [atI_map, e1]; rfl, q _ (by unfold Rep; rfl)⟩ hs
    · rename_i k e1
      split at hz
      · rename_i hk
        cases hz
        obtain ⟨p, e2, _⟩ := w.at_ (List.getElem?_eq_getElem hk)
        exact ix_list value slice pins s σ H _ _ v u Q I rx ry ⟨_, _, _, .ref p, rfl, rfl, SqL.of (w.row (atI_ne e1)), by rw [atI_map, e1]; exact congrArg some (gcV_at e2), q _ (by unfold Rep; exact ⟨p, e2, rfl⟩)⟩ hs
      · cases hz
    · cases hz
  · cases re.inj_int
    obtain ⟨p, e2, rfl⟩ := repB_sub rd
    split at hz
    · rename_i l e1
      obtain ⟨i, e3, rfl⟩ := Option.map_eq_some_iff.mp hz
      obtain ⟨p', e4, e5⟩ := w.at_ e1
      rw [e2] at e4
      cases e4
      exact ix_list value slice pins s σ H _ _ v u Q I rx ry ⟨_, _, _, .int i, rfl, rfl, SqL.of e5, by rw [atI_map, e3]; rfl, q _ (by unfold Rep; rfl)⟩ hs
    · cases hz
  unfold ixD at hz
  split at hz
  · obtain ⟨p, vs, rfl, q1, r1⟩ := repB_tup rd
    cases re.inj_int
    obtain ⟨v1, e1, r2⟩ := r1.atI hz
    exact ix_tup value slice pins s σ H _ _ v u Q I rx ry ⟨p, vs, _, v1, rfl, rfl, hK ▸ SqT.mono w.sub q1, e1, q _ r2⟩ hs
  · obtain ⟨p, vs, rfl, q1, _, r1⟩ := repB_lst rd
    cases re.inj_int
    obtain ⟨v1, e1, r2⟩ := r1.atI hz
    exact ix_list value slice pins s σ H _ _ v u Q I rx ry ⟨p, vs, _, v1, rfl, rfl, SqL.of q1, e1, q _ r2⟩ hs
  · cases repB_str rd
    cases re.inj_int
    unfold strAt at hz
    split at hz
    · rename_i hl
      obtain ⟨c, e1, rfl⟩ := Option.map_eq_some_iff.mp hz
      exact ix_str value slice pins s σ H _ _ v u Q I rx ry ⟨_, _, c, rfl, rfl, hl, e1, q _ (by unfold Rep; rfl)⟩ hs
    · cases hz
  · obtain ⟨p, rfl, q1⟩ := repB_scr rd
    cases re.inj_int
    obtain ⟨i, e3, rfl⟩ := Option.map_eq_some_iff.mp hz
    exact ix_list value slice pins s σ H _ _ v u Q I rx ry ⟨_, _, _, .int i, rfl, rfl, hK ▸ SqL.mono w.sub q1, by rw [atI_map, e3]; rfl, q _ (by unfold Rep; rfl)⟩ hs
  · cases hz
def rSlM (S : Sx) : V → Option Int → Option Int → Hp → VK → Prop := fun x lo hi H Q => ∃ d g G z, World S.a g G H ∧ RepB S G H d x ∧ slD d lo hi = some z ∧
  ∀ G' H' v, Ext S.a G H G' H' → World S.a g G' H' → RepF S H G' H' z v → Q v H'
theorem Reps.cut {K : PySem.W.Frag} {z : Fs} {G : Hp} {ds : List D} {vs : List V} (h : Reps K z G ds vs) (lo hi : Option Int) : Reps K z G (cutD ds lo hi) (cutV vs lo hi) := by
  unfold cutD cutV
  rw [h.length]
  exact (h.drop _).take _
theorem sl_mi (hK : X.K = S.K) : SlR X (rSlM S) := by
  intro pins s σ H x v vl vu lo hi sl Q I rx hsl hl hu h
  obtain ⟨d, g, G, z, w, rd, hz, k⟩ := h
  unfold slD at hz
  split at hz
  · cases hz
    obtain ⟨p, vs, rfl, q1, r1⟩ := repB_tup rd
    refine sl_tupA pins s σ H _ v vl vu lo hi sl Q I rx hsl hl hu ⟨p, vs, rfl, hK ▸ SqT.mono w.sub q1, fun he => ?_, fun _ p2 hp => ?_⟩
    · refine k G H _ Ext.refl w ?_
      unfold RepF Rep
      have e1 := r1.length
      refine ⟨p, vs, rfl, q1, ?_⟩
      unfold cutD
      rw [← e1, he.1, he.2, Nat.sub_zero, List.drop_zero, e1, List.take_length]
      exact r1
    · have r2 := r1.cut lo hi
      obtain ⟨x1, w1, f1⟩ := newT w hp r2
      exact k _ _ _ x1 w1 f1
  · cases hz
    obtain ⟨p, vs, rfl, q1, _, r1⟩ := repB_lst rd
    refine sl_list pins s σ H _ v vl vu lo hi sl Q I rx hsl hl hu ⟨p, vs, rfl, SqL.of q1, fun p2 hp => ?_⟩
    have r2 := r1.cut lo hi
    obtain ⟨x1, w1, f1⟩ := newL w hp r2
    exact k _ _ _ x1 w1 f1
  · rename_i ns
    cases hz
    obtain ⟨p, rfl, q1⟩ := repB_scr rd
    refine sl_list pins s σ H _ v vl vu lo hi sl Q I rx hsl hl hu ⟨p, _, rfl, hK ▸ SqL.mono w.sub q1, fun p2 hp => ?_⟩
    have r2 := (Reps.ofInts (K := S.K) (z := S.a) (G := G) ns).cut lo hi
    obtain ⟨x1, w1, f1⟩ := newL w hp r2
    exact k _ _ _ x1 w1 f1
  · cases hz
/-! ### built-ins -/
theorem repsB1 {G H : Hp} {d : D} {vs : List V} (h : RepsB S G H [d] vs) : ∃ v, vs = [v] ∧ RepB S G H d v := by
  cases h with
  | cons r t => cases t; exact ⟨_, rfl, r⟩
theorem repsB2 {G H : Hp} {d e : D} {vs : List V} (h : RepsB S G H [d, e] vs) : ∃ v u, vs = [v, u] ∧ RepB S G H d v ∧ RepB S G H e u := by
  cases h with
  | cons r t => cases t with
    | cons r' t' => cases t'; exact ⟨_, _, rfl, r, r'⟩
/-! ### sorting, in plain -/
theorem sort_one {ns ms : List Int} (p : ms.Perm ns) (o : ms.Pairwise (· ≤ ·)) : ms = sortI ns := by
  have p2 : (sortI ns).Perm ns := List.mergeSort_perm _ _
  have o2 : (sortI ns).Pairwise (fun a b => decide (a ≤ b) = true) := List.pairwise_mergeSort (fun a b c h1 h2 => by simp at h1 h2 ⊢; omega) (fun a b => by simp; omega) _
  refine List.Perm.eq_of_pairwise (le := (· ≤ ·)) (fun a b _ _ h1 h2 => Int.le_antisymm h1 h2) o (o2.imp fun h => by simpa using h) (p.trans p2.symm)
theorem mem_insS {x k : Int} : ∀ {l : List Int}, k ∈ insS x l ↔ k = x ∨ k ∈ l
  | [] => by simp [insS]
  | y :: r => by
    unfold insS
    split
    · simp
    · split
      · rename_i h; subst h; simp
      · simp only [List.mem_cons, mem_insS]
        constructor
        · rintro (h | h | h)
          · exact .inr (.inl h)
          · exact .inl h
          · exact .inr (.inr h)
        · rintro (h | h | h)
          · exact .inr (.inl h)
          · exact .inl h
          · exact .inr (.inr h)
theorem insS_lt {x : Int} : ∀ {l : List Int}, l.Pairwise (· < ·) → (insS x l).Pairwise (· < ·)
  | [], _ => by simp [insS]
  | y :: r, h => by
    have h0 := List.pairwise_cons.mp h
    unfold insS
    split
    · rename_i hx
      refine List.pairwise_cons.mpr ⟨fun z hz => ?_, h⟩
      rcases List.mem_cons.mp hz with e | e
      · omega
      · have := h0.1 z e; omega
    · split
      · exact h
      · rename_i h1 h2
        refine List.pairwise_cons.mpr ⟨fun z hz => ?_, insS_lt h0.2⟩
        rcases mem_insS.mp hz with e | e
        · omega
        · exact h0.1 z e
theorem sset_lt : ∀ ns : List Int, (ssetI ns).Pairwise (· < ·)
  | [] => List.Pairwise.nil
  | n :: ns => insS_lt (sset_lt ns)
theorem sset_mem {k : Int} : ∀ {ns : List Int}, k ∈ ssetI ns ↔ k ∈ ns
  | [] => by simp [ssetI]
  | n :: ns => by
    have e : ssetI (n :: ns) = insS n (ssetI ns) := rfl
    rw [e, mem_insS, sset_mem, List.mem_cons]
theorem lt_one : ∀ {xs ys : List Int}, xs.Pairwise (· < ·) → ys.Pairwise (· < ·) → (∀ k, k ∈ xs ↔ k ∈ ys) → xs = ys := fun {xs ys} h1 h2 m => by
  have n1 : xs.Nodup := h1.imp fun h => by omega
  have n2 : ys.Nodup := h2.imp fun h => by omega
  exact List.Perm.eq_of_pairwise (le := (· < ·)) (fun a b _ _ h1 h2 => by omega) h1 h2 ((List.perm_ext_iff_of_nodup n1 n2).mpr m)
def rBiM (S : Sx) (b : BI) : List V → Hp → VK → Prop := fun vs H Q => ∃ ds g G z, World S.a g G H ∧ RepsB S G H ds vs ∧ biG g b ds = some z ∧
  ∀ G' H' v, Ext S.a G H G' H' → World S.a g G' H' → RepF S H G' H' z v → Q v H'
def BI.val : BI → Value
  | .len => .builtin "len"
  | .tuple => .type "tuple"
  | .list => .type "list"
  | .int => .type "int"
  | .sum => .builtin "sum"
  | .all => .builtin "all"
  | .any => .builtin "any"
  | .max2 => .builtin "max"
  | .min2 => .builtin "min"
  | .abs => .builtin "abs"
  | .str => .type "str"
  | .sorted => .builtin "sorted"
  | .max3 => .builtin "max"
  | .maxL => .builtin "max"
  | .minL => .builtin "min"
theorem log2_small {i : Int} (h : smallI i = true) : i.natAbs.log2 < 1920 := by
  unfold smallI at h
  have h := of_decide_eq_true h
  have a : i.natAbs < 2 ^ 64 := by omega
  by_cases z : i.natAbs = 0
  · rw [z]; decide
  · have := (Nat.log2_lt z).mpr a
    omega
theorem fold_max : ∀ (r : List Int) (x : Int), (r.foldl (fun m y => if y > m then y else m) x ∈ x :: r) ∧ ∀ y ∈ x :: r, y ≤ r.foldl (fun m y => if y > m then y else m) x
  | [], x => by simp
  | z :: r, x => by
    obtain ⟨h1, h2⟩ := fold_max r (if z > x then z else x)
    rw [List.foldl_cons]
    refine ⟨?_, fun y hy => ?_⟩
    · rcases List.mem_cons.mp h1 with h | h
      · rw [h]; split <;> simp
      · simp [h]
    · have h3 := h2 (if z > x then z else x) List.mem_cons_self
      have h4 : z ≤ (if z > x then z else x) := by split <;> omega
      have h5 : x ≤ (if z > x then z else x) := by split <;> omega
      generalize (if z > x then z else x) = q at h2 h3 h4 h5 ⊢
      rcases List.mem_cons.mp hy with rfl | hy
      · omega
      · rcases List.mem_cons.mp hy with rfl | hy
        · omega
        · exact h2 y (List.mem_cons_of_mem _ hy)
theorem fold_min : ∀ (r : List Int) (x : Int), (r.foldl (fun m y => if y < m then y else m) x ∈ x :: r) ∧ ∀ y ∈ x :: r, r.foldl (fun m y => if y < m then y else m) x ≤ y
  | [], x => by simp
  | z :: r, x => by
    obtain ⟨h1, h2⟩ := fold_min r (if z < x then z else x)
    rw [List.foldl_cons]
    refine ⟨?_, fun y hy => ?_⟩
    · rcases List.mem_cons.mp h1 with h | h
      · rw [h]; split <;> simp
      · simp [h]
    · have h3 := h2 (if z < x then z else x) List.mem_cons_self
      have h4 : (if z < x then z else x) ≤ z := by split <;> omega
      have h5 : (if z < x then z else x) ≤ x := by split <;> omega
      generalize (if z < x then z else x) = q at h2 h3 h4 h5 ⊢
      rcases List.mem_cons.mp hy with rfl | hy
      · omega
      · rcases List.mem_cons.mp hy with rfl | hy
        · omega
        · exact h2 y (List.mem_cons_of_mem _ hy)
theorem maxI_one {ns : List Int} {m m' : Int} (h : maxI ns = some m) (h1 : m' ∈ ns) (h2 : ∀ y, y ∈ ns → y ≤ m') : m' = m := by
  cases ns with
  | nil => cases h
  | cons x r =>
    cases h
    obtain ⟨a, b⟩ := fold_max r x
    have c1 := h2 _ a
    have c2 := b _ h1
    omega
theorem minI_one {ns : List Int} {m m' : Int} (h : minI ns = some m) (h1 : m' ∈ ns) (h2 : ∀ y, y ∈ ns → m' ≤ y) : m' = m := by
  cases ns with
  | nil => cases h
  | cons x r =>
    cases h
    obtain ⟨a, b⟩ := fold_min r x
    have c1 := h2 _ a
    have c2 := b _ h1
    omega
theorem repsB3 {G H : Hp} {d e f : D} {vs : List V} (h : RepsB S G H [d, e, f] vs) : ∃ v u t, vs = [v, u, t] ∧ RepB S G H d v ∧ RepB S G H e u ∧ RepB S G H f t := by
  cases h with
  | cons r h =>
    obtain ⟨u, t, rfl, h2, h3⟩ := repsB2 h
    exact ⟨_, u, t, rfl, r, h2, h3⟩
theorem bi_mi (hK : X.K = S.K) (b : BI) (hc : biHot b = false → X.calm = true) : CallR X b.val (rBiM S b) := by
  intro pins s σ H xs us Q I r h
  obtain ⟨ds, g, G, z, w, rs, hz, k⟩ := h
  unfold biG at hz
  cases hq : biS g b ds with
  | some q =>
    rw [hq] at hz
    cases hz
    unfold biS at hq
    split at hq
    · split at hq
      · rename_i l e1
        cases hq
        obtain ⟨v, rfl, rv⟩ := repsB1 rs
        obtain ⟨p, e2, rfl⟩ := repB_sub rv
        obtain ⟨p', e4, e5⟩ := w.at_ e1
        rw [e2] at e4
        cases e4
        refine call_len_seq pins s σ H _ us Q I r ⟨p, _, rfl, .inl (SqL.of e5), ?_⟩
        rw [List.length_map]
        exact k G H _ Ext.refl w repF_int
      · cases hq
    · cases hq
  | none =>
  rw [hq] at hz
  simp only at hz
  clear hq
  cases b <;> unfold biD at hz <;> split at hz <;> try (simp only [reduceCtorEq] at *; done)
  · cases hz
    obtain ⟨v, rfl, rv⟩ := repsB1 rs
    obtain ⟨p, vs, rfl, q1, r1⟩ := repB_tup rv
    exact call_len_seq pins s σ H _ us Q I r ⟨p, vs, rfl, .inr (hK ▸ SqT.mono w.sub q1), by rw [r1.length]; exact k G H _ Ext.refl w repF_int⟩
  · cases hz
    obtain ⟨v, rfl, rv⟩ := repsB1 rs
    obtain ⟨p, vs, rfl, q1, _, r1⟩ := repB_lst rv
    exact call_len_seq pins s σ H _ us Q I r ⟨p, vs, rfl, .inl (SqL.of q1), by rw [r1.length]; exact k G H _ Ext.refl w repF_int⟩
  · cases hz
    obtain ⟨v, rfl, rv⟩ := repsB1 rs
    obtain ⟨p, rfl, q1⟩ := repB_scr rv
    exact call_len_seq pins s σ H _ us Q I r ⟨p, _, rfl, .inl (hK ▸ SqL.mono w.sub q1), by rw [List.length_map]; exact k G H _ Ext.refl w repF_int⟩
  · split at hz
    · rename_i hl
      cases hz
      obtain ⟨v, rfl, rv⟩ := repsB1 rs
      cases repB_str rv
      exact call_len_str pins s σ H _ us Q I r ⟨_, rfl, hl, k G H _ Ext.refl w repF_int⟩
    · cases hz
  · cases hz
    obtain ⟨v, rfl, rv⟩ := repsB1 rs
    obtain ⟨p, vs, rfl, q1, r1⟩ := repB_tup rv
    exact call_tuple_of pins s σ H _ us Q I r ⟨p, vs, rfl, .inr ⟨hK ▸ SqT.mono w.sub q1, k G H _ Ext.refl w (by unfold RepF Rep; exact ⟨p, vs, rfl, q1, r1⟩)⟩⟩
  · cases hz
    obtain ⟨v, rfl, rv⟩ := repsB1 rs
    obtain ⟨p, vs, rfl, q1, _, r1⟩ := repB_lst rv
    refine call_tuple_of pins s σ H _ us Q I r ⟨p, vs, rfl, .inl ⟨SqL.of q1, fun p2 hp => ?_⟩⟩
    obtain ⟨x1, w1, f1⟩ := newT w hp r1
    exact k _ _ _ x1 w1 f1
  · cases hz
    obtain ⟨v, rfl, rv⟩ := repsB1 rs
    obtain ⟨p, vs, rfl, q1, r1⟩ := repB_tup rv
    refine call_list_of pins s σ H _ us Q I r ⟨p, vs, rfl, .inr (hK ▸ SqT.mono w.sub q1), fun p2 hp => ?_⟩
    obtain ⟨x1, w1, f1⟩ := newL w hp r1
    exact k _ _ _ x1 w1 f1
  · cases hz
    obtain ⟨v, rfl, rv⟩ := repsB1 rs
    obtain ⟨p, vs, rfl, q1, _, r1⟩ := repB_lst rv
    refine call_list_of pins s σ H _ us Q I r ⟨p, vs, rfl, .inl (SqL.of q1), fun p2 hp => ?_⟩
    obtain ⟨x1, w1, f1⟩ := newL w hp r1
    exact k _ _ _ x1 w1 f1
  · cases hz
    obtain ⟨v, rfl, rv⟩ := repsB1 rs
    cases repB_int rv
    exact call_int1 pins s σ H _ us Q I r (.inl ⟨_, rfl, k G H _ Ext.refl w repF_int⟩)
  · cases hz
    obtain ⟨v, rfl, rv⟩ := repsB1 rs
    cases repB_bl rv
    exact call_int1 pins s σ H _ us Q I r (.inr ⟨_, rfl, k G H _ Ext.refl w repF_int⟩)
  · obtain ⟨ns, e1, rfl⟩ := Option.map_eq_some_iff.mp hz
    obtain ⟨v, rfl, rv⟩ := repsB1 rs
    obtain ⟨p, vs, rfl, q1, _, r1⟩ := repB_lst rv
    exact cr_sum (hc rfl) pins s σ H _ us Q I r ⟨p, ns, rfl, SqL.of (by rw [← r1.ints e1]; exact q1), k G H _ Ext.refl w repF_int⟩
  · obtain ⟨ns, e1, rfl⟩ := Option.map_eq_some_iff.mp hz
    obtain ⟨v, rfl, rv⟩ := repsB1 rs
    obtain ⟨p, vs, rfl, q1, _, r1⟩ := repB_lst rv
    exact cr_all (hc rfl) pins s σ H _ us Q I r ⟨p, ns, rfl, SqL.of (by rw [← r1.bls e1]; exact q1), k G H _ Ext.refl w repF_bl⟩
  · obtain ⟨ns, e1, rfl⟩ := Option.map_eq_some_iff.mp hz
    obtain ⟨v, rfl, rv⟩ := repsB1 rs
    obtain ⟨p, vs, rfl, q1, _, r1⟩ := repB_lst rv
    exact cr_any (hc rfl) pins s σ H _ us Q I r ⟨p, ns, rfl, SqL.of (by rw [← r1.bls e1]; exact q1), k G H _ Ext.refl w repF_bl⟩
  · cases hz
    obtain ⟨v, u, rfl, rv, ru⟩ := repsB2 rs
    cases repB_int rv; cases repB_int ru
    exact call_max2 (hc rfl) pins s σ H _ us Q I r ⟨_, _, rfl, k G H _ Ext.refl w repF_int⟩
  · cases hz
    obtain ⟨v, u, rfl, rv, ru⟩ := repsB2 rs
    cases repB_int rv; cases repB_int ru
    exact call_min2 (hc rfl) pins s σ H _ us Q I r ⟨_, _, rfl, k G H _ Ext.refl w repF_int⟩
  · cases hz
    obtain ⟨v, rfl, rv⟩ := repsB1 rs
    cases repB_int rv
    exact call_abs pins s σ H _ us Q I r ⟨_, rfl, k G H _ Ext.refl w repF_int⟩
  · split at hz
    · rename_i hl
      cases hz
      obtain ⟨v, rfl, rv⟩ := repsB1 rs
      cases repB_int rv
      exact call_str_int pins s σ H _ us Q I r ⟨_, rfl, log2_small hl, k G H _ Ext.refl w (by unfold RepF Rep; rfl)⟩
    · cases hz
  · obtain ⟨ns, e1, rfl⟩ := Option.map_eq_some_iff.mp hz
    obtain ⟨v, rfl, rv⟩ := repsB1 rs
    obtain ⟨p, vs, rfl, q1, _, r1⟩ := repB_lst rv
    refine cr_sortedI pins s σ H _ us Q I r ⟨p, ns, rfl, SqL.of (by rw [← r1.ints e1]; exact q1), fun ms p2 hp ho hn => ?_⟩
    rw [sort_one hp ho]
    obtain ⟨x1, w1, f1⟩ := newL w hn (Reps.ofInts (sortI ns))
    exact k _ _ _ x1 w1 f1
  · cases hz
    obtain ⟨v, u, t, rfl, rv, ru, rt⟩ := repsB3 rs
    cases repB_int rv; cases repB_int ru; cases repB_int rt
    refine call_max3Nu (hc rfl) pins s σ H _ us Q I r ⟨_, _, _, _, rfl, ?_, k G H _ Ext.refl w repF_int⟩
    rename_i i j l _
    show ((nuLt (.int i) (.int j)).map _).bind _ = _
    have e : ∀ a b : Int, nuLt (.int a) (.int b) = some (decide (a < b)) := fun a b => rfl
    rw [e, Option.map_some, Option.bind_some]
    by_cases h1 : i < j
    · rw [decide_eq_true h1, if_pos rfl, if_pos h1]
      show (nuLt (.int j) (.int l)).map _ = _
      rw [e, Option.map_some]
      by_cases h2 : j < l
      · rw [decide_eq_true h2, if_pos rfl, if_pos h2]
      · rw [decide_eq_false h2, if_neg Bool.false_ne_true, if_neg h2]
    · rw [decide_eq_false h1, if_neg Bool.false_ne_true, if_neg h1]
      show (nuLt (.int i) (.int l)).map _ = _
      rw [e, Option.map_some]
      by_cases h2 : i < l
      · rw [decide_eq_true h2, if_pos rfl, if_pos h2]
      · rw [decide_eq_false h2, if_neg Bool.false_ne_true, if_neg h2]
  · obtain ⟨ns, e1, e2⟩ := Option.bind_eq_some_iff.mp hz
    obtain ⟨m, e3, rfl⟩ := Option.map_eq_some_iff.mp e2
    obtain ⟨v, rfl, rv⟩ := repsB1 rs
    obtain ⟨p, vs, rfl, q1, _, r1⟩ := repB_lst rv
    refine cr_max (hc rfl) pins s σ H _ us Q I r ⟨p, ns, rfl, SqL.of (by rw [← r1.ints e1]; exact q1), ?_, fun m' h1 h2 => ?_⟩
    · cases ns with
      | nil => cases e3
      | cons => simp
    · rw [maxI_one e3 h1 h2]
      exact k G H _ Ext.refl w repF_int
  · obtain ⟨ns, e1, e2⟩ := Option.bind_eq_some_iff.mp hz
    obtain ⟨m, e3, rfl⟩ := Option.map_eq_some_iff.mp e2
    obtain ⟨v, rfl, rv⟩ := repsB1 rs
    obtain ⟨p, vs, rfl, q1, _, r1⟩ := repB_lst rv
    refine cr_min (hc rfl) pins s σ H _ us Q I r ⟨p, ns, rfl, SqL.of (by rw [← r1.ints e1]; exact q1), ?_, fun m' h1 h2 => ?_⟩
    · cases ns with
      | nil => cases e3
      | cons => simp
    · rw [minI_one e3 h1 h2]
      exact k G H _ Ext.refl w repF_int
end
end Mi


set_option Elab.async false
set_option maxRecDepth 100000
set_option maxHeartbeats 4000000
/-! Xc0: classes C(B(ValueError)) whose __init__ says super().__init__(..), then keeps its arguments. -/
namespace Xc
open PySem PySem.W PySem.Calls PyProof.Rows PySem.HandSPX
section
variable {prog : Program} {w : PySem.World} {A : Around} {E : Value → Shared → Prop} {K : Frag}
/-- what is told of x while it is made: its arguments at t -/
abbrev xo (C t : Addr) (d : Option Addr) : Obj := { cls := .ref C, dict := d, data := .fields #[.ref t, .none, .none, .none, .bool false, .none] }
/-- the wrapper of ValueError.__init__, called -/
theorem call_mw {u x C t : Addr} {rest : List Value} {Q : Value → Shared → Prop} {h : Heap} {g : Array GenState} {d : Drawn} {tk : Nat} {os : OsState} (X : K.In h) (q : excInitIn K C ([.type "ValueError", .type "Exception", .type "BaseException", .type "object"]) "ValueError.__new__" = true)
    (hu : h.get? u = some (kxs_mw "ValueError.__init__" x)) (hx : h.get? x = some (xo C t none)) (hz : rest.length ≤ sizeLine)
    (hq : ∀ h' t', (∀ b o, b ≠ x → h.get? b = some o → h'.get? b = some o) → h'.get? x = some (xo C t' none) → Q .none ⟨h', g, d, tk, os⟩) :
    wpAny (model prog w) A (call (.ref u) rest) Q E ⟨h, g, d, tk, os⟩ := by
  obtain ⟨nm, N', qn, bs, bm, hdct, sn, sub, ab, col, dd, k0, k1, k2, k3, k5, hC, hT⟩ := excInit_of X q
  refine wpAny_call (codeAny_of_tree ?_)
  show wpAny _ A.in1 (callAny (.ref u) ⟨rest, []⟩) _ _ _
  simp only [callAny]
  refine wpAny_bind (wpAny_load hu ?_)
  simp only [kxs_mw, show (Value.type "method-wrapper" == Value.type "method" || Value.type "method-wrapper" == Value.type "builtin_function_or_method" || Value.type "method-wrapper" == Value.type "method-wrapper") = true by decide, if_true]
  refine KFB.if_so (by decide) ?_
  refine wpAny_bind (check_bound_init F.excBase_ValueError.toExcCallFacts hC hx rfl ?_)
  refine wpAny_bind (wpAny_pure (wpAny_pure ?_))
  refine ⟨plainId_quiet F.excBase_ValueError.init.plain _, codeAny_builtin F.excBase_ValueError.initEntry ?_⟩
  exact exc_init_tree (cls := .ref C) (t0 := t) (dv := none) (c2 := .none) (c3 := .none) (b4 := .bool false) hx hz fun h' k e' _ => hq h' _ k e'
/-- super().__init__(args), args that are but loaded -/
theorem run_super {x C t L f cda cc : Addr} {qual : Str} {scope : Scope} {m mg mb : Str → Option Value} {fd : FuncData} {ar : Arg} {vs : Array Value} {file : Str} {tf : Tok} {oc ccl cl : Value} {od cdd cld : Option Addr} {osl ccs csl : Array (Option Value)} {cdC : ClassData}
    {body : List Stmt} {p0 p1 p2 p3 p4 : Pos} {e1 : Expr} {args : List Expr} {us : List Value} {Q : Flow → Shared → Prop} {h : Heap} {g : Array GenState} {d : Drawn} {tk : Nat} {os : OsState}
    (X : K.In h) (hg : h.Ns mainGlobals mg) (hms : mg "super" = none) (hb : h.Ns builtinsNs mb) (hbs : mb "super" = some (.type "super")) (hn : h.Ns L m)
    (hf : K.lookup f = some ⟨oc, od, .func fd, osl⟩) (hp : (fd.params.posonlyargs ++ fd.params.args).head? = some ar) (hself : m ar.arg = some (.ref x)) (hx : h.get? x = some (xo C t none))
    (hcode : K.lookup cda = some ⟨ccl, cdd, .fields vs, ccs⟩) (hvs : vs[2]? = some (.str file tf)) (hfile : ((prog.main.file : Str) == file) = true) (hcell : K.lookup cc = some ⟨cl, cld, .cell (some (.ref C)), csl⟩) (hC : clsIn K C = some cdC)
    (hsub : mroIn K C (.ref C) = some true) (hks : scope.names.lookup ("super" : Str) = some .globalImplicit) (hkc : scope.names.lookup ("__class__" : Str) = some .free) (hka : scope.names.lookup ar.arg = some .local) (hk : scope.kind = .function)
    (htop : (prog.main.scope.names.lookup ("super" : Str)).isSome = false) (ho : nsIn K cStatics "thirdparty.any" = some none) (hm : ks_superIn K C C "__init__" = some (some (.builtin "ValueError.__init__"))) (hB : subIn K (.ref C) (.type "ValueError") = some true)
    (q : excInitIn K C ([.type "ValueError", .type "Exception", .type "BaseException", .type "object"]) "ValueError.__new__" = true) (hz : us.length ≤ sizeLine)
    (ha : ∀ (s' : Shared) (R : List Value → Shared → Prop), s'.heap.Ns L m → R us s' → wpAny (model prog w) A (spliced (backTo p3 (starEach (e1 :: args) (ksEnv qual scope L f (.ref cda) cc)))) R E s')
    (he : starEach (e1 :: args) (ksEnv qual scope L f (.ref cda) cc) = (false, eval e1 (ksEnv qual scope L f (.ref cda) cc)) :: starEach args (ksEnv qual scope L f (.ref cda) cc)) (hpl : (backTo p3 (starEach args (ksEnv qual scope L f (.ref cda) cc))).any (·.1) = false)
    (hi : interactive (ksEnv qual scope L f (.ref cda) cc) = false) {pl : Sem Bool} (hev : eval (.Call (.Attribute (.Call (.Name "super" p0) [] [] p1) "__init__" p2) (e1 :: args) [] p3) (ksEnv qual scope L f (.ref cda) cc) = (do
      let ov ← attributeBase (.Call (.Name "super" p0) [] [] p1) "__init__" (ksEnv qual scope L f (.ref cda) cc) (eval (.Call (.Name "super" p0) [] [] p1) (ksEnv qual scope L f (.ref cda) cc))
      standAt p2.atName
      let (fv, first) ← holding [ov] (getMethod ov "__init__" pl)
      callWith p3 fv first (backTo p3 (starEach (e1 :: args) (ksEnv qual scope L f (.ref cda) cc))) []))
    (hq : ∀ h' t' tk', (∀ b o, b ≠ x → h.get? b = some o → h'.get? b = some o) → h'.get? x = some (xo C t' none) → Q .next ⟨h', g, d, tk', os⟩) :
    _root_.PySem.wpAt (model prog w) A (.func body (ksEnv qual scope L f (.ref cda) cc)) (exec (.Expr (.Call (.Attribute (.Call (.Name "super" p0) [] [] p1) "__init__" p2) (e1 :: args) [] p3) p4) (ksEnv qual scope L f (.ref cda) cc)) Q E ⟨h, g, d, tk, os⟩ := by
  obtain ⟨oC, hC1, hC2⟩ : ∃ oC, h.get? C = some oC ∧ oC.data = .cls cdC := by
    unfold clsIn at hC
    split at hC
    · rename_i c d cd' sl hh
      cases hC
      exact ⟨_, X _ _ hh, rfl⟩
    · cases hC
  have I : InstAt h x (xo C t none) C none := ⟨hx, rfl, rfl, trivial⟩
  refine ks_wpAt_Expr_any (ks_wpAt_MethodCall ?_ hev) hi
  refine ks_wpAt_super_base (env := ksEnv qual scope L f (.ref cda) cc) hks hkc (by decide) rfl (X _ _ hf) rfl hp rfl (X _ _ hcode) rfl hvs hfile htop ?_
  refine ks_loadName_global hk hks (loadGlobal_builtin (env := ksEnv qual scope L f (.ref cda) cc) hg hms hb hbs ⟨rfl, ?_⟩)
  refine wpAny_loadName_free hk hkc rfl ⟨_, X _ _ hcell, rfl⟩ ?_
  refine wpAny_loadName_local hk hka hn hself ?_
  refine ks_wpAny_isType_cls hC1 hC2 ⟨rfl, ?_⟩
  refine ks_wpAny_call_super hC1 hC2 I.at_ I.cls (fun c e => by cases e) (looks_mroIn X hsub) (fun h1 e k1 => ?_)
  have X1 : K.In h1 := X.keeps k1
  have hI1 : Looks (model prog w) h1 (isInstance (.ref x) (.type "ValueError")) true := (InstAt.type (⟨k1 _ _ hx, rfl, rfl, trivial⟩ : InstAt h1 x (xo C t none) C none)).andThen (looks_subIn X1 hB)
  unfold ks_superIn at hm
  rw [hC] at hm
  refine kxs_getMethod kxs_ValueError e (looks_opaque X1 ho) (l₀ := cdC.mro) (fun A Q E s k q => wpAny_bind ((looks_clsIn X1 hC) A _ E s k (wpAny_pure q))) rfl X1 hm hI1 (ks_ne X I hC) (by decide) ?_
  have k2 : ∀ b o, h.get? b = some o → (h1.push (kxs_mw "ValueError.__init__" x)).get? b = some o := fun b o z => Heap.get?_push_of_some _ (k1 b o z)
  have hu : (h1.push (kxs_mw "ValueError.__init__" x)).get? h1.objs.size = some (kxs_mw "ValueError.__init__" x) := Heap.get?_push_at rfl rfl
  have hn2 : (h1.push (kxs_mw "ValueError.__init__" x)).Ns L m := by
    obtain ⟨o, es, ep, z, r⟩ := hn
    exact ⟨o, es, ep, k2 _ _ z, r⟩
  rw [he]
  refine kxs_callWith (i := "ValueError.__init__") (x := x) (by show (false || (backTo p3 (starEach args _)).any (·.1)) = false; rw [hpl]; rfl) (evalArgs_plain ?_)
  have ha' := ha ⟨h1.push (kxs_mw "ValueError.__init__" x), g, d, tk + 1, os⟩
  rw [he] at ha'
  refine ha' _ hn2 ⟨hu, ?_⟩
  refine call_mw (X.keeps k2) q hu (k2 _ _ hx) hz fun h' t' k3 hx' => hq h' t' _ (fun b o hb z => k3 b o hb (k2 b o z)) hx'
/-- self.f = v, the first field -/
theorem fld_first {env : PySem.Env} {x C t : Addr} {m : Str → Option Value} {cd : ClassData} {f vn : Str} {v : Value} {a b c d' : Pos} {Q : Flow → Shared → Prop} {h : Heap} {g : Array GenState} {d : Drawn} {tk : Nat} {os : OsState}
    (X : K.In h) (hn : h.Ns env.locals m) (hs : m "self" = some (.ref x)) (hv : m vn = some v) (hk : env.scope.kind = .function) (k1 : env.kindOf "self" = some .local) (k2 : env.kindOf vn = some .local) (dv : (vn == ("__debug__" : Str)) = false)
    (hx : h.get? x = some (xo C t none)) (hcl : clsIn K C = some cd) (hm : refsVE cd.mro = true) (hd : cd.hasDict = true) (sa : findIn K (.ref C) "__setattr__" = some (some (.builtin "object.__setattr__"))) (no : findIn K (.ref C) f = some none)
    (hsw : swapsWith (.Name vn c) (some (.Attribute (.Name "self" a) f b)) d'.line env = pure false)
    (hq : ∀ h' tk' dx, (∀ b o, b ≠ x → h.get? b = some o → h'.get? b = some o) → h.objs.size ≤ dx → dx ≠ x → h'.get? x = some (xo C t (some dx)) → h'.Ns1 dx (fun y => if y = f then some v else none) → Q .next ⟨h', g, d, tk', os⟩) :
    wpAny (model prog w) A (exec (.Assign [.Attribute (.Name "self" a) f b] (.Name vn c) d') env) Q E ⟨h, g, d, tk, os⟩ := by
  refine plainObj_wpAny_Assign_Attribute (wpAny_Name (wpAny_loadName_local hk k2 hn hv ?_) dv) hsw
  refine wpAny_Name (wpAny_loadName_local hk k1 hn hs ?_) (by decide)
  refine set_plain X (ox := xo C t none) (od := none) ⟨hx, rfl, rfl, trivial⟩ sa ?_
  exact exc_osa X hx hcl hm hd no fun h' tk' dx k' dn dne hx' hn' => hq h' tk' dx k' dn dne hx' hn'
/-- a further field -/
theorem fld_more {env : PySem.Env} {x C t dx : Addr} {m m0 : Str → Option Value} {nl : List Str} {cd : ClassData} {f vn : Str} {v : Value} {a b c d' : Pos} {Q : Flow → Shared → Prop} {h : Heap} {g : Array GenState} {d : Drawn} {tk : Nat} {os : OsState}
    (X : K.In h) (hn : h.Ns env.locals m) (hs : m "self" = some (.ref x)) (hv : m vn = some v) (hk : env.scope.kind = .function) (k1 : env.kindOf "self" = some .local) (k2 : env.kindOf vn = some .local) (dv : (vn == ("__debug__" : Str)) = false)
    (hx : h.get? x = some (xo C t (some dx))) (hns : h.Ns1 dx m0) (hw : Within m0 nl) (hz : nl.length ≤ 1000) (hcl : clsIn K C = some cd) (hm : refsVE cd.mro = true) (hd : cd.hasDict = true) (sa : findIn K (.ref C) "__setattr__" = some (some (.builtin "object.__setattr__"))) (no : findIn K (.ref C) f = some none)
    (hsw : swapsWith (.Name vn c) (some (.Attribute (.Name "self" a) f b)) d'.line env = pure false)
    (hq : ∀ h' tk', (∀ b o, b ≠ dx → h.get? b = some o → h'.get? b = some o) → h'.Ns1 dx (fun y => if y = f then some v else m0 y) → Q .next ⟨h', g, d, tk', os⟩) :
    wpAny (model prog w) A (exec (.Assign [.Attribute (.Name "self" a) f b] (.Name vn c) d') env) Q E ⟨h, g, d, tk, os⟩ := by
  obtain ⟨oD, esD, epD, hoD, _, _⟩ := hns.count hw
  refine plainObj_wpAny_Assign_Attribute (wpAny_Name (wpAny_loadName_local hk k2 hn hv ?_) dv) hsw
  refine wpAny_Name (wpAny_loadName_local hk k1 hn hs ?_) (by decide)
  refine set_plain X (ox := xo C t (some dx)) (od := some oD) ⟨hx, rfl, rfl, hoD⟩ sa ?_
  exact PySem.OEX.osa_old X hx hns hw hz hcl hm hd no fun h' tk' k' hn' => hq h' tk' k' hn'
/-! ### the def __init__ -/
def ia1 (f : Str) (p q : Pos) : Arguments := { posonlyargs := [], args := [⟨"self", none, p⟩, ⟨f, none, q⟩], vararg := none, kwonlyargs := [], kw_defaults := [], kwarg := none, defaults := [] }
def is1 (f : Str) : Scope := { kind := .function, names := [("self", .local), (f, .local), ("__class__", .free), ("super", .globalImplicit)], isGenerator := false, isCoroutine := false, more := [] }
def ib1 (f : Str) (p0 p1 p2 p3 p4 e1 a b c d : Pos) : List Stmt := [.Expr (.Call (.Attribute (.Call (.Name "super" p0) [] [] p1) "__init__" p2) [.Name f e1] [] p3) p4, .Assign [.Attribute (.Name "self" a) f b] (.Name f c) d]
/-- what stands written of such a class and of its __init__ with one field -/
structure Own (K : Frag) (prog : Program) (C fI : Addr) : Prop where
  cls : ∃ cd, clsIn K C = some cd ∧ refsVE cd.mro = true ∧ cd.hasDict = true
  sub : mroIn K C (.ref C) = some true
  ve : subIn K (.ref C) (.type "ValueError") = some true
  sa : findIn K (.ref C) "__setattr__" = some (some (.builtin "object.__setattr__"))
  opq : nsIn K cStatics "thirdparty.any" = some none
  sup : ks_superIn K C C "__init__" = some (some (.builtin "ValueError.__init__"))
  ini : excInitIn K C ([.type "ValueError", .type "Exception", .type "BaseException", .type "object"]) "ValueError.__new__" = true
  top : (prog.main.scope.names.lookup ("super" : Str)).isSome = false
structure Init1 (K : Frag) (prog : Program) (C fI : Addr) (f qual : Str) : Prop where
  own : Own K prog C fI
  no : findIn K (.ref C) f = some none
  dv : (f == ("__debug__" : Str)) = false ∧ f ≠ "self" ∧ f ≠ "super" ∧ f ≠ "__class__"
  fn : ∃ (oc doc pm ct : Value) (od an : Option Addr) (osl : Array (Option Value)) (cda cc : Addr) (p q p0 p1 p2 p3 p4 e1 a b c d : Pos) (vs : Array Value) (file : Str) (tf : Tok) (ccl cl : Value) (cdd cld : Option Addr) (ccs csl : Array (Option Value)),
    K.lookup fI = some ⟨oc, od, .func (ksFn "__init__" qual (ia1 f p q) (ib1 f p0 p1 p2 p3 p4 e1 a b c d) (is1 f) .none .none doc pm an (.ref cda) ct cc), osl⟩ ∧ codeIn K (.ref cda) qual = true ∧
    K.lookup cda = some ⟨ccl, cdd, .fields vs, ccs⟩ ∧ vs[2]? = some (.str file tf) ∧ ((prog.main.file : Str) == file) = true ∧ K.lookup cc = some ⟨cl, cld, .cell (some (.ref C)), csl⟩ ∧
    (∀ u v : Value, bindArgs (ksFn "__init__" qual (ia1 f p q) (ib1 f p0 p1 p2 p3 p4 e1 a b c d) (is1 f) .none .none doc pm an (.ref cda) ct cc) ⟨[u, v], []⟩ = pure [(("self" : Str), u), (f, v)]) ∧
    (∀ env : PySem.Env, ∃ pl : Sem Bool, eval (.Call (.Attribute (.Call (.Name "super" p0) [] [] p1) "__init__" p2) [.Name f e1] [] p3) env = (do
      let ov ← attributeBase (.Call (.Name "super" p0) [] [] p1) "__init__" env (eval (.Call (.Name "super" p0) [] [] p1) env)
      standAt p2.atName
      let (fv, first) ← holding [ov] (getMethod ov "__init__" pl)
      callWith p3 fv first (backTo p3 (starEach [.Name f e1] env)) []))
theorem look2 {f : Str} {x v : Value} (h : f ≠ "self") : ((([("self", x), (f, v)] : List (Str × Value)).reverse.lookup ("self" : Str)) = some x) ∧ ((([("self", x), (f, v)] : List (Str × Value)).reverse.lookup f) = some v) := by
  have e : (("self" : Str) == f) = false := by simpa using Ne.symm h
  exact ⟨by simp [List.lookup, e], by simp [List.lookup]⟩
theorem kept_x {h h' : Heap} {x : Addr} (X : K.In h) (hx : K.lookup x = none) (k : ∀ b o, b ≠ x → h.get? b = some o → h'.get? b = some o) : K.In h' := fun a o e =>
  k a o (fun z => by subst z; rw [hx] at e; cases e) (X a o e)
theorem init1_run {C fI x t : Addr} {f qual : Str} {mg mb : Str → Option Value} {v : Value} {R : Result → Shared → Prop} {s : Shared} (I : Init1 K prog C fI f qual) (X : K.In s.heap) (hnx : K.lookup x = none) (hlim : s.heap.NoLimit) (hg : s.heap.Ns mainGlobals mg) (hms : mg "super" = none)
    (hb : s.heap.Ns builtinsNs mb) (hbs : mb "super" = some (.type "super")) (hx : s.heap.get? x = some (xo C t none)) (hroom : A.depth < recursionLimit)
    (hq : ∀ h' tk t' dx, (∀ b o, b ≠ x → s.heap.get? b = some o → h'.get? b = some o) → h'.get? x = some (xo C t' (some dx)) → s.heap.objs.size ≤ dx → dx ≠ x → h'.Ns1 dx (fun y => if y = f then some v else none) → R (.ok (.ret .none)) { s with heap := h', toks := tk }) :
    codeAny (model prog w) A (.call (.ref fI) ⟨[.ref x, v], []⟩) R s := by
  obtain ⟨oc, doc, pm, ct, od, an, osl, cda, cc, p, q, p0, p1, p2, p3, p4, e1, a, b, c, d, vs, file, tf, ccl, cl, cdd, cld, ccs, csl, hf, hcd, hcode, hvs, hfile, hcell, hbd, hev⟩ := I.fn
  obtain ⟨cd, hcl, hm, hd⟩ := I.own.cls
  obtain ⟨d1, d2, d3, d4⟩ := I.dv
  obtain ⟨l1, l2⟩ := look2 (x := .ref x) (v := v) d2
  have ns : (("self" : Str) == f) = false := by simpa using Ne.symm d2
  have kf : (is1 f).names.lookup f = some .local := by
    have e : (f == ("self" : Str)) = false := by simpa using d2
    simp [is1, List.lookup, e]
  have ks : (is1 f).names.lookup ("super" : Str) = some .globalImplicit := by
    have e1 : (("super" : Str) == "self") = false := by decide
    have e2 : (("super" : Str) == f) = false := by simpa using Ne.symm d3
    have e3 : (("super" : Str) == "__class__") = false := by decide
    simp [is1, List.lookup, e1, e2, e3]
  have kc : (is1 f).names.lookup ("__class__" : Str) = some .free := by
    have e1 : (("__class__" : Str) == "self") = false := by decide
    have e2 : (("__class__" : Str) == f) = false := by simpa using Ne.symm d4
    simp [is1, List.lookup, e1, e2]
  refine ks_codeAny_call_defAt (fd := ksFn "__init__" qual (ia1 f p q) (ib1 f p0 p1 p2 p3 p4 e1 a b c d) (is1 f) .none .none doc pm an (.ref cda) ct cc) (body := ib1 f p0 p1 p2 p3 p4 e1 a b c d) (binds := [("self", .ref x), (f, v)]) hroom (X _ _ hf) rfl hlim (codeRec_of X hcd) rfl (BindsTo.of_eq (hbd _ _)) ?_ ?_ (fun h0 hns hk => ?_)
  · intro y hy
    have hy : y ∈ [(("self" : Str), NameKind.local), (f, .local), ("__class__", .free), ("super", .globalImplicit)] := hy
    simp at hy
    rcases hy with rfl | rfl | rfl | rfl <;> simp
  · intro y hy
    simp at hy
    rcases hy with rfl | rfl
    · rfl
    · exact kf
  · have X0 : K.In h0 := X.keeps hk
    have hx0 := hk _ _ hx
    have keepNs : ∀ {L : Addr} {m : Str → Option Value}, s.heap.Ns L m → h0.Ns L m := fun {L m} z => by
      obtain ⟨o, es, ep, e, r⟩ := z
      exact ⟨o, es, ep, hk _ _ e, r⟩
    have neL : s.heap.objs.size ≠ x := Nat.ne_of_gt (Heap.lt_size hx)
    obtain ⟨pl, hev⟩ := hev (ksEnv qual (is1 f) s.heap.objs.size fI (.ref cda) cc)
    refine ks_wpAt_execs_cons (run_super (C := C) (t := t) (us := [v]) (A := A.deeper _) X0 (keepNs hg) hms (keepNs hb) hbs hns hf rfl l1 hx0 hcode hvs hfile hcell hcl I.own.sub ks kc rfl rfl I.own.top I.own.opq I.own.sup I.own.ve I.own.ini
      (by rw [sizeLine_eq]; show 1 ≤ _; decide) (fun s' R' hn' hr => args_cons (wpAny_Name (wpAny_loadName_local rfl kf hn' l2 (args_nil hr)) d1) rfl) rfl rfl rfl hev fun h1 t1 tk1 k1 hx1 => ?_)
    have X1 : K.In h1 := kept_x X0 hnx k1
    have hn1 : h1.Ns s.heap.objs.size (fun y => ([("self", .ref x), (f, v)] : List (Str × Value)).reverse.lookup y) := by
      obtain ⟨o, es, ep, e, r⟩ := hns
      exact ⟨o, es, ep, k1 _ _ neL e, r⟩
    refine wpAt_of_wpAny (wpAny_execs_cons (fld_first X1 hn1 l1 l2 rfl rfl kf d1 hx1 hcl hm hd I.own.sa I.no rfl fun h2 tk2 dx k2 dn dne hx2 hn2 => ?_))
    refine wpAny_execs_nil ?_
    refine hq h2 tk2 t1 dx (fun b o hb e => k2 b o hb (k1 b o hb (hk b o e))) hx2 ?_ dne hn2
    exact Nat.le_trans (Nat.le_of_lt hn1.lt) dn
end
end Xc


set_option Elab.async false
set_option maxRecDepth 100000
set_option maxHeartbeats 4000000
/-! Xc1: two fields; the class called; C(..) as an expression that makes an exception. -/
namespace Xc
open PySem PySem.W PySem.Calls PyProof.Rows PySem.HandSPX
section
variable {prog : Program} {w : PySem.World} {A : Around} {E : Value → Shared → Prop} {K : Frag}
def ia2 (f g : Str) (p q r : Pos) : Arguments := { posonlyargs := [], args := [⟨"self", none, p⟩, ⟨f, none, q⟩, ⟨g, none, r⟩], vararg := none, kwonlyargs := [], kw_defaults := [], kwarg := none, defaults := [] }
def is2 (f g : Str) : Scope := { kind := .function, names := [("self", .local), (f, .local), (g, .local), ("__class__", .free), ("super", .globalImplicit)], isGenerator := false, isCoroutine := false, more := [] }
def ib2 (f g : Str) (p0 p1 p2 p3 p4 e1 e2 a b c d a' b' c' d' : Pos) : List Stmt :=
  [.Expr (.Call (.Attribute (.Call (.Name "super" p0) [] [] p1) "__init__" p2) [.Name f e1, .Name g e2] [] p3) p4, .Assign [.Attribute (.Name "self" a) f b] (.Name f c) d, .Assign [.Attribute (.Name "self" a') g b'] (.Name g c') d']
structure Init2 (K : Frag) (prog : Program) (C fI : Addr) (f g : Str) (qual : Str) : Prop where
  own : Own K prog C fI
  no : findIn K (.ref C) f = some none ∧ findIn K (.ref C) g = some none
  dv : (f == ("__debug__" : Str)) = false ∧ f ≠ "self" ∧ f ≠ "super" ∧ f ≠ "__class__"
  dw : (g == ("__debug__" : Str)) = false ∧ g ≠ "self" ∧ g ≠ "super" ∧ g ≠ "__class__" ∧ f ≠ g
  fn : ∃ (oc doc pm ct : Value) (od an : Option Addr) (osl : Array (Option Value)) (cda cc : Addr) (p q r p0 p1 p2 p3 p4 e1 e2 a b c d a' b' c' d' : Pos) (vs : Array Value) (file : Str) (tf : Tok) (ccl cl : Value) (cdd cld : Option Addr) (ccs csl : Array (Option Value)),
    K.lookup fI = some ⟨oc, od, .func (ksFn "__init__" qual (ia2 f g p q r) (ib2 f g p0 p1 p2 p3 p4 e1 e2 a b c d a' b' c' d') (is2 f g) .none .none doc pm an (.ref cda) ct cc), osl⟩ ∧ codeIn K (.ref cda) qual = true ∧
    K.lookup cda = some ⟨ccl, cdd, .fields vs, ccs⟩ ∧ vs[2]? = some (.str file tf) ∧ ((prog.main.file : Str) == file) = true ∧ K.lookup cc = some ⟨cl, cld, .cell (some (.ref C)), csl⟩ ∧
    (∀ u v z : Value, bindArgs (ksFn "__init__" qual (ia2 f g p q r) (ib2 f g p0 p1 p2 p3 p4 e1 e2 a b c d a' b' c' d') (is2 f g) .none .none doc pm an (.ref cda) ct cc) ⟨[u, v, z], []⟩ = pure [(("self" : Str), u), (f, v), (g, z)]) ∧
    (∀ env : PySem.Env, ∃ pl : Sem Bool, eval (.Call (.Attribute (.Call (.Name "super" p0) [] [] p1) "__init__" p2) [.Name f e1, .Name g e2] [] p3) env = (do
      let ov ← attributeBase (.Call (.Name "super" p0) [] [] p1) "__init__" env (eval (.Call (.Name "super" p0) [] [] p1) env)
      standAt p2.atName
      let (fv, first) ← holding [ov] (getMethod ov "__init__" pl)
      callWith p3 fv first (backTo p3 (starEach [.Name f e1, .Name g e2] env)) []))
theorem look3 {f g : Str} {x v z : Value} (h : f ≠ "self") (k : g ≠ "self") (n : f ≠ g) : ((([("self", x), (f, v), (g, z)] : List (Str × Value)).reverse.lookup ("self" : Str)) = some x) ∧ ((([("self", x), (f, v), (g, z)] : List (Str × Value)).reverse.lookup f) = some v) ∧ ((([("self", x), (f, v), (g, z)] : List (Str × Value)).reverse.lookup g) = some z) := by
  have e : (("self" : Str) == f) = false := by simpa using Ne.symm h
  have e2 : (("self" : Str) == g) = false := by simpa using Ne.symm k
  have e3 : (f == g) = false := by simpa using n
  exact ⟨by simp [List.lookup, e, e2], by simp [List.lookup, e3], by simp [List.lookup]⟩
theorem init2_run {C fI x t : Addr} {f g qual : Str} {mg mb : Str → Option Value} {v z : Value} {R : Result → Shared → Prop} {s : Shared} (I : Init2 K prog C fI f g qual) (X : K.In s.heap) (hnx : K.lookup x = none) (hlim : s.heap.NoLimit) (hg : s.heap.Ns mainGlobals mg) (hms : mg "super" = none)
    (hb : s.heap.Ns builtinsNs mb) (hbs : mb "super" = some (.type "super")) (hx : s.heap.get? x = some (xo C t none)) (hroom : A.depth < recursionLimit)
    (hq : ∀ h' tk t' dx, (∀ b o, b ≠ x → s.heap.get? b = some o → h'.get? b = some o) → h'.get? x = some (xo C t' (some dx)) → s.heap.objs.size ≤ dx → dx ≠ x → h'.Ns1 dx (fun y => if y = g then some z else if y = f then some v else none) → R (.ok (.ret .none)) { s with heap := h', toks := tk }) :
    codeAny (model prog w) A (.call (.ref fI) ⟨[.ref x, v, z], []⟩) R s := by
  obtain ⟨oc, doc, pm, ct, od, an, osl, cda, cc, p, q, r, p0, p1, p2, p3, p4, e1, e2, a, b, c, d, a', b', c', d', vs, file, tf, ccl, cl, cdd, cld, ccs, csl, hf, hcd, hcode, hvs, hfile, hcell, hbd, hev⟩ := I.fn
  obtain ⟨cd, hcl, hm, hd⟩ := I.own.cls
  obtain ⟨d1, d2, d3, d4⟩ := I.dv
  obtain ⟨g1, g2, g3, g4, fg⟩ := I.dw
  obtain ⟨l1, l2, l3⟩ := look3 (x := .ref x) (v := v) (z := z) d2 g2 fg
  have kf : (is2 f g).names.lookup f = some .local := by
    have e : (f == ("self" : Str)) = false := by simpa using d2
    simp [is2, List.lookup, e]
  have kg : (is2 f g).names.lookup g = some .local := by
    have e : (g == ("self" : Str)) = false := by simpa using g2
    have e2 : (g == f) = false := by simpa using Ne.symm fg
    simp [is2, List.lookup, e, e2]
  have ks : (is2 f g).names.lookup ("super" : Str) = some .globalImplicit := by
    have e1 : (("super" : Str) == "self") = false := by decide
    have e2 : (("super" : Str) == f) = false := by simpa using Ne.symm d3
    have e3 : (("super" : Str) == "__class__") = false := by decide
    have e4 : (("super" : Str) == g) = false := by simpa using Ne.symm g3
    simp [is2, List.lookup, e1, e2, e3, e4]
  have kc : (is2 f g).names.lookup ("__class__" : Str) = some .free := by
    have e1 : (("__class__" : Str) == "self") = false := by decide
    have e2 : (("__class__" : Str) == f) = false := by simpa using Ne.symm d4
    have e4 : (("__class__" : Str) == g) = false := by simpa using Ne.symm g4
    simp [is2, List.lookup, e1, e2, e4]
  refine ks_codeAny_call_defAt (fd := ksFn "__init__" qual (ia2 f g p q r) (ib2 f g p0 p1 p2 p3 p4 e1 e2 a b c d a' b' c' d') (is2 f g) .none .none doc pm an (.ref cda) ct cc) (body := ib2 f g p0 p1 p2 p3 p4 e1 e2 a b c d a' b' c' d') (binds := [("self", .ref x), (f, v), (g, z)]) hroom (X _ _ hf) rfl hlim (codeRec_of X hcd) rfl (BindsTo.of_eq (hbd _ _ _)) ?_ ?_ (fun h0 hns hk => ?_)
  · intro y hy
    have hy : y ∈ [(("self" : Str), NameKind.local), (f, .local), (g, .local), ("__class__", .free), ("super", .globalImplicit)] := hy
    simp at hy
    rcases hy with rfl | rfl | rfl | rfl | rfl <;> simp
  · intro y hy
    simp at hy
    rcases hy with rfl | rfl | rfl
    · rfl
    · exact kf
    · exact kg
  · have X0 : K.In h0 := X.keeps hk
    have hx0 := hk _ _ hx
    have keepNs : ∀ {L : Addr} {m : Str → Option Value}, s.heap.Ns L m → h0.Ns L m := fun {L m} z => by
      obtain ⟨o, es, ep, e, r⟩ := z
      exact ⟨o, es, ep, hk _ _ e, r⟩
    have neL : s.heap.objs.size ≠ x := Nat.ne_of_gt (Heap.lt_size hx)
    obtain ⟨pl, hev⟩ := hev (ksEnv qual (is2 f g) s.heap.objs.size fI (.ref cda) cc)
    refine ks_wpAt_execs_cons (run_super (C := C) (t := t) (us := [v, z]) (A := A.deeper _) X0 (keepNs hg) hms (keepNs hb) hbs hns hf rfl l1 hx0 hcode hvs hfile hcell hcl I.own.sub ks kc rfl rfl I.own.top I.own.opq I.own.sup I.own.ve I.own.ini
      (by rw [sizeLine_eq]; show 2 ≤ _; decide) (fun s' R' hn' hr => args_cons (wpAny_Name (wpAny_loadName_local rfl kf hn' l2 (args_cons (wpAny_Name (wpAny_loadName_local rfl kg hn' l3 (args_nil hr)) g1) rfl)) d1) rfl) rfl rfl rfl hev fun h1 t1 tk1 k1 hx1 => ?_)
    have X1 : K.In h1 := kept_x X0 hnx k1
    have hn1 : h1.Ns s.heap.objs.size (fun y => ([("self", .ref x), (f, v), (g, z)] : List (Str × Value)).reverse.lookup y) := by
      obtain ⟨o, es, ep, e, r⟩ := hns
      exact ⟨o, es, ep, k1 _ _ neL e, r⟩
    refine wpAt_of_wpAny (wpAny_execs_cons (fld_first X1 hn1 l1 l2 rfl rfl kf d1 hx1 hcl hm hd I.own.sa I.no.1 rfl fun h2 tk2 dx k2 dn dne hx2 hn2 => ?_))
    have X2 : K.In h2 := kept_x X1 hnx k2
    have hn3 : h2.Ns s.heap.objs.size (fun y => ([("self", .ref x), (f, v), (g, z)] : List (Str × Value)).reverse.lookup y) := by
      obtain ⟨o, es, ep, e, r⟩ := hn1
      exact ⟨o, es, ep, k2 _ _ neL e, r⟩
    have big : s.heap.objs.size < dx := Nat.lt_of_lt_of_le hn1.lt dn
    have hw : Within (fun y => if y = f then some v else none) [f] := fun y hy => by
      by_cases h : y = f
      · subst h; exact List.mem_cons_self
      · have hy' : (if y = f then some v else (none : Option Value)) ≠ none := by
          first | exact hy | (intro q; simp [q] at hy)
        rw [if_neg h] at hy'
        exact absurd rfl hy'
    refine wpAny_execs_cons (fld_more X2 hn3 l1 l3 rfl rfl kg g1 hx2 hn2 hw (by show 1 ≤ 1000; decide) hcl hm hd I.own.sa I.no.2 rfl fun h4 tk4 k4 hn4 => ?_)
    refine wpAny_execs_nil ?_
    refine hq h4 tk4 t1 dx (fun b o hb e => ?_) (k4 _ _ (Ne.symm dne) hx2) (Nat.le_of_lt big) dne hn4
    have e1 := k2 b o hb (k1 b o hb (hk b o e))
    exact k4 b o (fun q => by
      subst q
      exact absurd (Nat.lt_trans (Heap.lt_size e) big) (Nat.lt_irrefl _)) e1
/-! ### the class, called -/
/-- a made exception -/
structure Made (h h' : Heap) (e C d : Addr) (m : Str → Option Value) : Prop where
  keep : ∀ b o, h.get? b = some o → h'.get? b = some o
  new : h.objs.size ≤ e
  obj : ∃ t1, h'.get? e = some (xo C t1 (some d))
  dbig : h.objs.size ≤ d
  dne : d ≠ e
  ns : h'.Ns1 d m
structure ClsObj (K : Frag) (C fI : Addr) : Prop where
  obj : excInitIn K C ([.type "ValueError", .type "Exception", .type "BaseException", .type "object"]) "ValueError.__new__" = true
  init : findIn K (.ref C) "__init__" = some (some (.ref fI))
  fnc : typeIn K (.ref fI) = some (.type "function")
theorem made_gen {C fI : Addr} {mg mb : Str → Option Value} {rest : List Value} {m : Str → Option Value} {R : Result → Shared → Prop} {s : Shared} (T : ClsObj K C fI) (hz : rest.length ≤ sizeLine) (X : K.In s.heap) (hlim : s.heap.NoLimit) (hg : s.heap.Ns mainGlobals mg) (hb : s.heap.Ns builtinsNs mb)
    (run : ∀ {A' : Around} {s' : Shared} {x t : Addr} {R' : Result → Shared → Prop}, K.In s'.heap → K.lookup x = none → s'.heap.NoLimit → s'.heap.Ns mainGlobals mg → s'.heap.Ns builtinsNs mb → s'.heap.get? x = some (xo C t none) → A'.depth < recursionLimit →
      (∀ h' tk t' dx, (∀ b o, b ≠ x → s'.heap.get? b = some o → h'.get? b = some o) → h'.get? x = some (xo C t' (some dx)) → s'.heap.objs.size ≤ dx → dx ≠ x → h'.Ns1 dx m → R' (.ok (.ret .none)) { s' with heap := h', toks := tk }) →
      codeAny (model prog w) A' (.call (.ref fI) ⟨.ref x :: rest, []⟩) R' s') (hroom : A.depth + 1 < recursionLimit)
    (hq : ∀ h' tk e d, Made s.heap h' e C d m → R (.ok (.ret (.ref e))) { s with heap := h', toks := tk }) :
    codeAny (model prog w) A (.call (.ref C) ⟨rest, []⟩) R s := by
  obtain ⟨nm, N', qn, bs, bm, hdct, sn, sub, ab, col, dd, k0, k1, k2, k3, k5, hC, hT⟩ := excInit_of X T.obj
  obtain ⟨hp, g, dr, tk, os⟩ := s
  have k : ∀ b o, hp.get? b = some o → ((hp.push (kdv_tup rest)).push (excO C hp.objs.size)).get? b = some o := fun b o e => Heap.get?_push_of_some _ (Heap.get?_push_of_some _ e)
  have keepNs : ∀ {L : Addr} {m : Str → Option Value}, hp.Ns L m → ((hp.push (kdv_tup rest)).push (excO C hp.objs.size)).Ns L m := fun {L m} z => by
    obtain ⟨o, es, ep, e, r⟩ := z
    exact ⟨o, es, ep, k _ _ e, r⟩
  have hget : ((hp.push (kdv_tup rest)).push (excO C hp.objs.size)).get? (hp.objs.size + 1) = some (excO C hp.objs.size) := by heap_get
  have hnx : K.lookup (hp.objs.size + 1) = none := by
    cases e : K.lookup (hp.objs.size + 1) with
    | none => rfl
    | some o =>
      have z : hp.get? (hp.objs.size + 1) = some o := X _ _ e
      exact absurd (Nat.lt_of_succ_lt (Heap.lt_size z)) (Nat.lt_irrefl _)
  refine call_own F.excBase_ValueError hT hC (looks_findIn X T.init) (fun self => bind_fn X self T.fnc) hz ?_
  refine run (s' := ⟨(hp.push (kdv_tup rest)).push (excO C hp.objs.size), g, dr, tk, os⟩) (X.keeps k) hnx (hlim.keeps k) (keepNs hg) (keepNs hb) hget ?_ fun h' tk' t' dx k' hx dn dne hns => ?_
  · show A.depth + 1 < recursionLimit
    exact hroom
  · have old : ∀ b o, hp.get? b = some o → h'.get? b = some o := fun b o e => k' b o (Nat.ne_of_lt (Nat.lt_succ_of_lt (Heap.lt_size e))) (k b o e)
    have z : hp.objs.size + 1 + 1 ≤ dx := by
      first
        | (simpa only [Heap.size_push] using dn)
        | exact dn
        | (have q := dn; rw [Heap.size_push, Heap.size_push] at q; exact q)
    exact ⟨rfl, hq h' tk' (hp.objs.size + 1) dx ⟨old, Nat.le_succ _, ⟨_, hx⟩, Nat.le_trans (Nat.le_trans (Nat.le_succ _) (Nat.le_succ _)) z, dne, hns⟩⟩
/-- what is to be known of a class that is called -/
structure MkC (K : Frag) (prog : Program) (mg : Str → Option Value) (x : Str) (fs : List Str) (C : Addr) : Prop where
  gC : mg x = some (.ref C)
  kC : keepIn K (.ref C) = true
  exC : subIn K (.ref C) (.type "BaseException") = some true
  tyC : typeIn K (.ref C) = some (.type "type")
  go : ∀ {w : PySem.World} {A : Around} {mb : Str → Option Value} {rest : List Value} {R : Result → Shared → Prop} {s : Shared}, rest.length = fs.length → K.In s.heap → s.heap.NoLimit → s.heap.Ns mainGlobals mg → s.heap.Ns builtinsNs mb → mb "super" = some (.type "super") → A.depth + 1 < recursionLimit →
    (∀ h' tk e d, Made s.heap h' e C d (fun y => (fs.zip rest).lookup y) → R (.ok (.ret (.ref e))) { s with heap := h', toks := tk }) → codeAny (model prog w) A (.call (.ref C) ⟨rest, []⟩) R s
theorem mkC1 {C fI : Addr} {x f qual : Str} {mg : Str → Option Value} (gC : mg x = some (.ref C)) (hms : mg "super" = none) (kC : keepIn K (.ref C) = true) (exC : subIn K (.ref C) (.type "BaseException") = some true) (tyC : typeIn K (.ref C) = some (.type "type")) (T : ClsObj K C fI) (I : Init1 K prog C fI f qual) : MkC K prog mg x [f] C :=
  ⟨gC, kC, exC, tyC, fun {w A mb rest R s} hl X hlim hg hb hbs hroom hq => match rest, hl with
  | [v], _ => by
    have e : (fun y => if y = f then some v else none) = (fun y => (([f] : List Str).zip [v]).lookup y) := by
      funext y
      by_cases h : y = f
      · subst h; simp [List.lookup]
      · have h' : (y == f) = false := by simpa using h
        simp [List.lookup, h, h']
    refine made_gen (mg := mg) (mb := mb) (m := fun y => if y = f then some v else none) T (by rw [sizeLine_eq]; show 1 ≤ _; decide) X hlim hg hb (fun {A' s' x' t R'} a1 a2 a3 a4 a5 a6 a7 a8 => init1_run I a1 a2 a3 a4 hms a5 hbs a6 a7 a8) hroom fun h' tk e' d M => ?_
    rw [e] at M
    exact hq h' tk e' d M⟩
theorem mkC2 {C fI : Addr} {x f g qual : Str} {mg : Str → Option Value} (gC : mg x = some (.ref C)) (hms : mg "super" = none) (kC : keepIn K (.ref C) = true) (exC : subIn K (.ref C) (.type "BaseException") = some true) (tyC : typeIn K (.ref C) = some (.type "type")) (T : ClsObj K C fI) (I : Init2 K prog C fI f g qual) : MkC K prog mg x [f, g] C :=
  ⟨gC, kC, exC, tyC, fun {w A mb rest R s} hl X hlim hg hb hbs hroom hq => match rest, hl with
  | [v, z], _ => by
    have fg := I.dw.2.2.2.2
    have e : (fun y => if y = g then some z else if y = f then some v else none) = (fun y => (([f, g] : List Str).zip [v, z]).lookup y) := by
      funext y
      by_cases h : y = f
      · subst h
        have h2 : y ≠ g := fg
        simp [List.lookup, h2]
      · have h' : (y == f) = false := by simpa using h
        by_cases h3 : y = g
        · subst h3; simp [List.lookup, h']
        · have h4 : (y == g) = false := by simpa using h3
          simp [List.lookup, h, h', h3, h4]
    refine made_gen (mg := mg) (mb := mb) (m := fun y => if y = g then some z else if y = f then some v else none) T (by rw [sizeLine_eq]; show 2 ≤ _; decide) X hlim hg hb (fun {A' s' x' t R'} a1 a2 a3 a4 a5 a6 a7 a8 => init2_run I a1 a2 a3 a4 hms a5 hbs a6 a7 a8) hroom fun h' tk e' d M => ?_
    rw [e] at M
    exact hq h' tk e' d M⟩
end
end Xc
namespace L2N
open PySem PySem.Spec PyProof.Rows L2
theorem rel_zip : ∀ {fs : List Str} {vs : List V} {us : List Value}, Vals vs us → fs.length = vs.length → ∀ f, RelO ((fs.zip vs).lookup f) ((fs.zip us).lookup f)
  | [], _, _, _, _, f => by
    simp [List.lookup]
    trivial
  | x :: fs, _, _, .cons r t, h, f => by
    rw [List.zip_cons_cons, List.zip_cons_cons, List.lookup_cons, List.lookup_cons]
    cases f == x with
    | true => exact r
    | false => exact rel_zip t (by simpa using h) f
/-- C(..) -/
def tMkX (C : Addr) (fs : List Str) (ta : TA) : St → Hp → XK → Prop := fun σ H Q => ta σ H fun vs H1 => vs.length = fs.length ∧ ∀ d, H1 d = none → Q (.ref C) (some d) (upd H1 d (.xd (fs.zip vs)))
theorem pmk_x {X : Cx} {C : Addr} {x : Str} {fs : List Str} {e : Expr} {es : List Expr} {ta : TA} {p pos : Pos} {k : Nat} (T : Xc.MkC X.K X.prog X.mg x fs C) (hr : Room k X.A) (ha : PA X (e :: es) ta) (hg : Gl X x) (hdb : (x == ("__debug__" : Str)) = false)
    (he : starEach (e :: es) X.env = (false, eval e X.env) :: starEach es X.env) (hpl : (backTo pos (starEach es X.env)).any (·.1) = false) :
    PMk X (.Call (.Name x p) (e :: es) [] pos) (tMkX C fs ta) := by
  intro pins s σ H Q I h
  refine wpAny_Call_Name_kw (ld_glob I hg T.gC ?_ hdb)
  refine PySem.W.callWith_K (h₀ := X.base) I.ok.mod.kin T.kC (thn (ha.run pos pins s σ H _ I h) fun us s1 hh => ?_) he hpl
  obtain ⟨vs, H1, I1, r1, hl, q1⟩ := hh
  refine ⟨I1.kIn, ?_⟩
  show wpAny _ _ (call (.ref C) us) _ _ _
  have hlim := I1.nolimit
  have keepNs : ∀ {L : Addr} {m : Str → Option Value}, X.base.Ns L m → s1.heap.Ns L m := fun {L m} z => by
    obtain ⟨o, es, ep, e, r⟩ := z
    exact ⟨o, es, ep, I1.bk _ _ e, r⟩
  obtain ⟨mb, hb1, hb2⟩ := I1.ok.mod.blt
  have hbs : mb "super" = some (.type "super") := (hb2 "super" (by decide)).trans (by decide +kernel)
  have hl2 : us.length = fs.length := by rw [← r1.length]; exact hl
  obtain ⟨hp, g, dr, tk, os⟩ := s1
  refine wpAny_call (T.go hl2 I1.kIn hlim (keepNs I1.ok.mod.glob) (keepNs hb1) hbs (by have := hr.dp; omega) fun h' tk' e d M => ?_)
  show MkP X pins σ Q (.ref e) ⟨h', g, dr, tk', os⟩
  obtain ⟨t1, hoe⟩ := M.obj
  have hns := M.ns
  obtain ⟨G', g1, g2⟩ := restrict h' fun b => decide (b ≠ e)
  have gk : ∀ b, b ≠ e → G'.get? b = h'.get? b := fun b hb => g1 b (decide_eq_true hb)
  have ge : G'.get? e = none := g2 e (by simp)
  have old : ∀ b o, hp.get? b = some o → G'.get? b = some o := fun b o q => (gk b (Nat.ne_of_lt (Nat.lt_of_lt_of_le (Heap.lt_size q) M.new))).trans (M.keep b o q)
  have ob : ObjOk X.prog X.w (upd H1 d (.xd (fs.zip vs))) G' d (.xd (fs.zip vs)) := ⟨_, hns.at (fun o q => (gk d M.dne).trans q), fun f => rel_zip r1 hl.symm f⟩
  have J : Inv X pins σ (upd H1 d (.xd (fs.zip vs))) ⟨G', g, dr, tk', os⟩ := I1.laid (t' := tk') old M.dbig ob
  refine ⟨e, _, _, ⟨G', g, dr, tk', os⟩, _, .ref C, some d, rfl, J, fun b o q => ?_, ge, hoe, ⟨rfl, rfl, fun ws z => by cases z; rfl⟩, rfl, rfl, ?_, rfl, I1.bare, raises_own T.exC T.tyC, q1 d (I1.hok.fresh M.dbig)⟩
  · by_cases hb : b = e
    · have q' : G'.get? b = some o := q
      rw [hb, ge] at q'; cases q'
    · exact (gk b hb).symm.trans q
  · rw [upd_ne (Ne.symm M.dne)]
    exact I1.hok.fresh M.new
end L2N


set_option Elab.async false
set_option maxRecDepth 100000
set_option maxHeartbeats 4000000
/-! Xc2: within an except clause: isinstance of the exception that is handled, its fields; defs that are called there. -/
namespace Xc
open PySem PySem.Spec PySem.W PySem.Calls PyProof.Rows
section
variable {prog : Program} {w : PySem.World} {A : Around} {E : Value → Shared → Prop} {s : Shared} {K : Frag} {x D : Addr} {ox : Obj} {od : Option Obj}
theorem bind_cls (c : L2.ExcC K D) : findObj K D od "__class__" = some (.bind (.builtin "getset_descriptor.__get__") (.builtin "object.__class__")) := by
  obtain ⟨cd, hcd, _⟩ := any_some c.hd
  unfold findObj
  rw [hcd, Option.bind_some, c.ha, Option.bind_some]
  simp [c.hn, c.ht]
/-- x.__class__ -/
theorem ask_cls {Q : Option Value → Shared → Prop} (c : L2.ExcC K D) (X : K.In s.heap) (I : InstAt s.heap x ox D od) (q : Q (some (.ref D)) { s with toks := s.toks + 1 }) :
    wpAny (model prog w) A (getAttr? (.ref x) "__class__") Q E s := by
  have B := bind_cls (od := od) c
  obtain ⟨hh, gg, dr, tk, o2⟩ := s
  have M0 := I.type (M := model prog w)
  have M1 := looks_findIn (M := model prog w) X c.hg
  have M2 := looks_findIn (M := model prog w) X c.hk
  have M3 := looks_find (M := model prog w) X I B
  have isE : Looks (model prog w) hh (isInstance (.ref x) (.type "BaseException")) true :=
    M0.andThen (looks_subIn X c.hs)
  have n0 : (false && onTheHeap (Value.builtin "BaseException.__getattribute__")) = false := rfl
  have n2 : (Value.builtin "BaseException.__getattribute__" == Value.builtin "object.__getattribute__") = false := by decide +kernel
  have n1 : (onTheHeap (Value.ref D) && Value.builtin "BaseException.__getattribute__" == Value.builtin "object.__getattribute__") = false := by rw [n2]; rfl
  unfold getAttr? getAttrBy? getAttrBy
  refine wpAny_bind (wpAny_mkText (wpAny_bind (wpAny_attempt (wpAny_holding (wpAny_bind (M0.at (wpAny_bind (M1.at ?_))))))))
  show wpAny _ _ (if (onTheHeap (Value.ref D) && Value.builtin "BaseException.__getattribute__" == Value.builtin "object.__getattribute__") = true then _ else _) _ _ _
  rw [n1, if_neg Bool.false_ne_true]
  unfold getAttrByItsOwn hookBefore
  refine wpAny_bind ?_
  rw [if_pos (show onTheHeap (Value.ref D) = true from rfl)]
  refine M2.at ?_
  refine wpAny_bind (wpAny_attempt (wpAny_holding ?_))
  unfold callGetattribute
  rw [n0, if_neg Bool.false_ne_true]
  unfold boundAndCalled
  rw [PySem.F.excAttr_ValueError.ga.bind (.ref x)]
  refine wpAny_bind (wpAny_pure ?_)
  show wpAny _ _ (call (.builtin "BaseException.__getattribute__") [.ref x, .str "__class__" tk]) _ _ _
  refine wpAny_call (codeAny_call_builtin PySem.F.excAttr_ValueError.ga.plain PySem.F.entry_bexc_ga ?_)
  refine @check_slot (model prog w) _ _ ⟨hh, gg, dr, tk + 1, o2⟩ "BaseException.__getattribute__" "BaseException" "__getattribute__" (.ref x) [.str "__class__" tk] [] _ (by decide +kernel) (by decide +kernel) isE (PySem.F.args_bexc_ga (.ref x) (.str "__class__" tk)) ?_
  unfold Builtin.«object.__getattribute__»
  refine wpAny_bind (wpAny_of_eq (a := ((Value.ref x : Value), [Value.str "__class__" tk])) (by first | rfl | (simp only [slotArgs]; rfl)) ?_)
  refine wpAny_bind (wpAny_pure (wpAny_bind (M0.at (wpAny_bind (M3.at ?_)))))
  show wpAny _ _ (holding [Value.builtin "object.__class__"] (call (.builtin "getset_descriptor.__get__") [.builtin "object.__class__", .ref x, .ref D]) >>= ret) _ _ _
  refine wpAny_bind (wpAny_holding (wpAny_call (class_get (s := ⟨hh, gg, dr, tk + 1, o2⟩) (ox := ox) (od := od) X I c.hm ?_)))
  refine wpAny_pure ?_
  show wpAny _ _ (handedOut (.ref D)) _ _ _
  rw [handedOut_of (v := .ref D) rfl]
  first
    | exact wpAny_pure (wpAny_pure q)
    | exact wpAny_pure q
    | exact wpAny_pure (wpAny_bind (wpAny_pure (wpAny_pure q)))
theorem kitE (c : L2.ExcC K D) : KitX K (.ref x) (.ref D) (fun h => ∃ od, InstAt h x ox D od) where
  ty := fun _ _ _ ⟨_, I⟩ => I.type
  it := fun _ _ X _ => by
    obtain ⟨cd, hcd, _⟩ := any_some c.hd
    unfold clsIn at hcd
    split at hcd
    · rename_i a b e f ho
      intro A2 Q2 E2 s2 k q
      unfold isType loadHead
      exact wpAny_bind (wpAny_loadPart (k _ _ (X _ _ ho)) (wpAny_pure q))
    · cases hcd
  ne := fun h tp dd its n sl X htp => by
    obtain ⟨cd, hcd, _⟩ := any_some c.hd
    refine Bool.eq_false_iff.mpr fun q => ?_
    have e : D = tp := Value.ref.inj (beq_iff_eq.mp q)
    subst e
    unfold clsIn at hcd
    split at hcd
    · rename_i a b e f ho
      have z := (X _ _ ho).symm.trans htp
      cases z
    · cases hcd
  ca := fun X ⟨_, I⟩ k => ask_cls c X I k
end
end Xc
namespace L2N
open PySem PySem.Spec PyProof.Rows L2
section
variable {X : Cx} {a D dd : Addr} {oe : Obj}
/-- the exception that is handled, known by its pin -/
structure Hand (X : Cx) (a D dd : Addr) (oe : Obj) : Prop where
  pn : (a, oe) ∈ X.pn
  z : Zc (.ref D) (some dd) oe
  fs : ∃ vs, oe.data = .fields vs
theorem Hand.inst {pins : List (Addr × Obj)} {σ : St} {H : Hp} {s : Shared} {fs : List (Str × V)} (h : Hand X a D dd oe) (I : Inv X pins σ H s) (e : H dd = some (.xd fs)) :
    ∃ (od : Obj) (mA : Str → Option Value), PySem.W.InstAt s.heap a oe D (some od) ∧ (∀ n, PySem.W.lookIn n od = some (mA n)) ∧ ∀ f, RelO (fs.lookup f) (mA f) := by
  obtain ⟨mA, hns, hr⟩ := show ObjOk X.prog X.w H s.heap dd (.xd fs) from I.hok dd _ e
  obtain ⟨od, ho, hl⟩ := lookIn_ns hns
  obtain ⟨vs, hd⟩ := h.fs
  obtain ⟨ha, _⟩ := I.pin (a, oe) (List.mem_append_left _ h.pn)
  exact ⟨od, mA, ⟨ha, h.z.1, by unfold PySem.W.notCls; rw [hd] <;> rfl, by rw [h.z.2]; exact ho⟩, hl, hr⟩
/-- isinstance(e, c), e the exception that is handled -/
def rIsX (K : PySem.W.Frag) (D a dd : Addr) : List V → Hp → VK → Prop := fun xs H Q =>
  ∃ (c : V) (cv : Value) (b : Bool) (fs : List (Str × V)), xs = [.ref a, c] ∧ (∀ u, RelV c u → u = cv) ∧ H dd = some (.xd fs) ∧ PySem.W.kitOne K (.ref D) cv = some b ∧ Q (.bl b) H
theorem call_isX (C : ExcC X.K D) (hh : Hand X a D dd oe) : CallR X (.builtin "isinstance") (rIsX X.K D a dd) := by
  intro pins s σ H xs us Q I r h
  obtain ⟨c, cv, b, fs, rfl, hcv, e, ek, q⟩ := h
  match us, r with
  | [_, _], .cons rx (.cons rt .nil) =>
    cases rx
    have ec := hcv _ rt
    subst ec
    obtain ⟨od, mA, J, _, _⟩ := hh.inst I e
    exact PySem.W.kia_one (Xc.kitE C) I.kIn ⟨_, J⟩ ek (fun z => nomatch z) fun tk => ⟨.bl b, H, I.kept (t' := tk) fun _ _ z => z, rfl, q⟩
/-- e.f -/
def tFld (a dd : Addr) (f : Str) (te : TE) : TE := fun σ H Q => te σ H fun x H1 => x = .ref a ∧ ∃ (fs : List (Str × V)) (v : V), H1 dd = some (.xd fs) ∧ fs.lookup f = some v ∧ Q v H1
theorem pe_fld {e : Expr} {te : TE} {pos : Pos} {f : Str} (T : XfC X.K D) (hno : PySem.W.findIn X.K (.ref D) f = some none) (hh : Hand X a D dd oe) (he : PE X e te) (hb : attributeBase e f X.env (eval e X.env) = eval e X.env) :
    PE X (.Attribute e f pos) (tFld a dd f te) := by
  refine ⟨fun pins s σ H Q I h => ?_⟩
  refine attr_of hb (thn (he.run pins s σ H _ I h) fun u s1 z => ?_)
  obtain ⟨x, H1, I1, rx, ex, fs, v, ea, l, q⟩ := z
  subst ex
  obtain rfl : u = Value.ref a := rx
  obtain ⟨od, mA, J, hl, hr⟩ := hh.inst I1 ea
  obtain ⟨u, hu, ru⟩ := RelO.some_of (v := v) (o := mA f) (by rw [← l]; exact hr f)
  exact HandSPX.exc_get I1.kIn J T.ga T.gg T.exC (PySem.W.findObj_own T.hdC hno rfl (by rw [hl, hu])) (handed_of ru) ⟨v, H1, I1.tok _, ru, q⟩
/-- a global, by its address -/
theorem pe_glb {x : Str} {p : Pos} {C : Addr} (hg : Gl X x) (hm : X.mg x = some (.ref C)) (hdb : (x == ("__debug__" : Str)) = false) : PE X (.Name x p) (tC (.ref C)) :=
  ⟨fun pins s σ H Q I h => ld_glob I hg hm ⟨.ref C, H, I, rfl, h⟩ hdb⟩
end
/-! ### defs that are called within an except clause, by the exception p -/
structure FnX (P : Program) (w : PySem.World) (K : PySem.W.Frag) (mg : Str → Option Value) (base : Heap) (CX : CXT) (p : Addr × Obj) (k : Nat) (f : Addr) (fd : FuncData) (ps : List Str) (sp : Sp) : Prop where
  len : ∀ vs H Q E, sp vs H Q E → vs.length = ps.length
  go : ∀ (B : Around) (out : List Env) (s : Shared) (H : Hp) (ar : Args) (us : List Value) (vs : List V) (Q : VK) (E : XK),
    L2H.RoomH k B → L2H.Hot1 B p → L2H.PinOk out H s p → Env0 P w K mg base B out s H → BindsTo s fd ar (ps.zip us) → Vals vs us → sp vs H Q E →
    codeAny (model P w) B (.call (.ref f) ar) (CR CX out P w H s Q E) s
theorem FnX.imp {P : Program} {w : PySem.World} {K : PySem.W.Frag} {mg : Str → Option Value} {base : Heap} {CX : CXT} {p : Addr × Obj} {k : Nat} {f : Addr} {fd : FuncData} {ps : List Str} {sp sp' : Sp} (F : FnX P w K mg base CX p k f fd ps sp) (i : ∀ vs H Q E, sp' vs H Q E → sp vs H Q E) :
    FnX P w K mg base CX p k f fd ps sp' := ⟨fun vs H Q E h => F.len vs H Q E (i _ _ _ _ h), fun B out s H ar us vs Q E a1 a2 a3 a4 a5 a6 h => F.go B out s H ar us vs Q E a1 a2 a3 a4 a5 a6 (i _ _ _ _ h)⟩
theorem fn_ofX {CX : CXT} {P : Program} {w : PySem.World} {K : PySem.W.Frag} {mg : Str → Option Value} {base : Heap} {k : Nat} {f : Addr} {nm qual : Str} {prm : Arguments} {body : List Stmt} {sc : Scope} {dV kV doc pm cdv ct oc : Value} {an od : Option Addr} {osl : Array (Option Value)}
    {N ps : List Str} {sp : Sp} {p : Addr × Obj} (lo : K.lookup f = some ⟨oc, od, .func (PySem.W.fnOf nm qual prm body sc dV kV doc pm an cdv ct), osl⟩) (hcd : PySem.W.codeIn K cdv qual = true) (S : FnScope N ps sc) (len : ∀ vs H Q E, sp vs H Q E → vs.length = ps.length)
    (hb : ∀ (B : Around) (out : List Env) (s : Shared) (H : Hp) (vs : List V) (Q : VK) (E : XK), L2H.Hot1 B p → L2H.RoomH k (B.deeper (envOfC qual sc s.heap.objs.size f cdv)) → sp vs H Q E →
      ∃ t, PSs (L2H.cxH CX P w K mg base N qual sc f cdv B out s H E p) body t ∧ t { nx := fun _ H' => Q .non H', rt := Q } (L2.start N vs) H) :
    FnX P w K mg base CX p (k + 1) f (PySem.W.fnOf nm qual prm body sc dV kV doc pm an cdv ct) ps sp := by
  refine ⟨len, fun B out s H ar us vs Q E rm hot pin e0 bd r h => ?_⟩
  have hl := len _ _ _ _ h
  have KI : K.In s.heap := e0.mod.kin.keeps fun b o z => (e0.bs b o z).1
  have nl : s.heap.NoLimit := e0.mod.nolimit.keeps fun b o z => (e0.bs b o z).1
  have kinds : ∀ y ∈ ps.zip us, sc.names.lookup y.1 = some .local ∨ (sc.names.lookup y.1 = some .cell ∧ ((cellsFrom (s.heap.objs.size + 1) sc.names []).lookup y.1).isSome = true) := by
    rintro ⟨n, v⟩ hy
    rcases S.par n (List.of_mem_zip hy).1 with z | z
    · exact .inl z
    · exact .inr ⟨z, PySem.W.cellsFrom_some _ _ _ (.inl z)⟩
  refine codeAny_call_function rm.depth (KI _ _ lo) rfl S.co S.gen rfl (PySem.W.codeRec_of KI hcd) (bd _ _ _ _ ?_)
  refine wpAny_newFunctionEnv_cells S.kind kinds fun env ev s1 x => ?_
  subst ev
  refine ⟨nl.keeps x.toInCall.keep, codeAny_func ?_⟩
  obtain ⟨t, ht, hq⟩ := hb B out s H vs Q E hot (rm.deeper _) h
  have J := L2H.inv_startH (CX := CX) (E := E) (qual := qual) (f := f) (cd := cdv) S pin e0 hl r x
  refine wpAny_mono (ht.run [] s1 (L2.start N vs) H _ J hq) (fun fl s2 z => ?_) fun _ _ z => z
  have done : ∀ {σ2 : St} {H2 : Hp} {v : V} {u : Value}, Inv (L2H.cxH CX P w K mg base N qual sc f cdv B out s H E p) [] σ2 H2 s2 → RelV v u → Q v H2 → CE out P w H s Q u s2 := by
    intro σ2 H2 v u J2 rv q
    exact ⟨v, H2, J2.os, J2.bare, J2.base, J2.hok, rv, q⟩
  cases fl with
  | next =>
    obtain ⟨_, _, J2, q⟩ := z
    exact done (v := V.non) (u := Value.none) J2 rfl q
  | ret u =>
    obtain ⟨_, _, _, J2, rv, q⟩ := z
    exact done J2 rv q
  | brk =>
    obtain ⟨_, _, _, q⟩ := z
    exact q.elim
  | cont =>
    obtain ⟨_, _, _, q⟩ := z
    exact q.elim
section
variable {X : Cx} {CX : CXT} {k : Nat} {f : Addr} {fd : FuncData} {ps : List Str} {sp : Sp} {E : St → XK} {x : Str} {e : Expr} {es : List Expr} {ta : TA} {p : Addr × Obj} {q pos : Pos}
theorem pe_callX (F : FnX X.prog X.w X.K X.mg X.base CX p k f fd ps sp) (rm : L2H.RoomH k X.A) (hot : L2H.Hot1 X.A p) (hp : p ∈ X.pn) (hg : Gl X x) (hm : X.mg x = some (.ref f)) (hk : PySem.W.keepIn X.K (.ref f) = true) (hb : Binds X.K fd ps []) (hx : ∀ σ, PassesAt CX X σ (E σ)) (ha : PA X (e :: es) ta)
    (hdb : (x == ("__debug__" : Str)) = false) (he : starEach (e :: es) X.env = (false, eval e X.env) :: starEach es X.env) (hpl : (backTo pos (starEach es X.env)).any (·.1) = false) : PE X (.Call (.Name x q) (e :: es) [] pos) (tCallS sp E ta) := by
  refine ⟨fun pins s σ H Q I h => wpAny_Call_Name_kw (ld_glob I hg hm ?_ hdb)⟩
  refine PySem.W.callWith_K (h₀ := X.base) I.ok.mod.kin hk (thn (ha.run pos pins s σ H _ I h) fun us s1 z => ?_) he hpl
  obtain ⟨vs, H1, I1, r, h1⟩ := z
  refine ⟨I1.kIn, ?_⟩
  have hl : us.length = ps.length := (r.length.symm).trans (F.len _ _ _ _ h1)
  have bd := hb s1 us I1.kIn (by rw [List.append_nil]; exact hl)
  rw [List.append_nil] at bd
  have at_ := I1.pin p (List.mem_append_left _ hp)
  have pin : L2H.PinOk X.stack H1 s1 p := ⟨at_.1, at_.2.1, fun hm => (List.mem_cons.mp (I1.stkSub p.1 hm)).elim at_.2.2.1 at_.2.2.2.1, at_.2.2.2.2⟩
  refine wpAny_call (codeAny_mono (F.go X.A X.stack s1 H1 ⟨us, []⟩ us vs Q (E σ) rm hot pin I1.env0 bd r h1) fun rr s2 hq => ?_)
  match rr, hq with
  | .error e, hq => exact hx σ pins H1 s1 e s2 I1 hq
  | .ok (.ret u), hq => exact I1.after hq
  | .ok .next, hq => exact hq.elim
  | .ok .brk, hq => exact hq.elim
  | .ok .cont, hq => exact hq.elim
end
end L2N


set_option Elab.async false
set_option maxRecDepth 100000
set_option maxHeartbeats 2000000
/-! Mi6: expressions: each form's rule. -/
namespace Mi
open PySem L2
/-- a def's promise, by the evaluator -/
def Out (K : PySem.W.Frag) (xs : List Nat) (a : Fs) (H : Hp) (G : Hp) (r : R D) (Q : VK) (Ex : XK) : Prop :=
  Res ⟨K, a, fun _ _ _ => .no, fun cls d _ H' => Ex cls d H', H, G, xs, false⟩ [] G H r fun d _ G' H' => ∀ v, Rep K a G' d v → Q v H'
def spF (K : PySem.W.Frag) (xs : List Nat) (n : Nat) (h : List D → Gs → R D) : Sp := fun vs H Q Ex => vs.length = n ∧ ∃ (a : Fs) (G : Hp) (g : Gs) (ds : List D), a.er = none ∧ World a g G H ∧ Reps K a G ds vs ∧ Out K xs a H G (h ds g) Q Ex
/-- the exception p is handled: its class by number, its dict -/
structure ErAt (K : PySem.W.Frag) (xs : List Nat) (p : Addr × Obj) (j : Nat) (dd : Addr) : Prop where
  mem : j ∈ xs
  cls : ∃ C, clsA K j = some C ∧ L2N.Zn (.ref C) (some dd) p.2
  fs : ∃ vs, p.2.data = .fields vs
def spX (K : PySem.W.Frag) (xs : List Nat) (p : Addr × Obj) (n : Nat) (h : List D → Gs → R D) : Sp := fun vs H Q Ex => vs.length = n ∧ ∃ (a : Fs) (G : Hp) (g : Gs) (ds : List D) (j : Nat) (dd : Addr), a.er = some (p.1, j, dd) ∧ ErAt K xs p j dd ∧ World a g G H ∧ Reps K a G ds vs ∧ Out K xs a H G (h ds g) Q Ex
def clsNm (j : Nat) : Str := if j = 100 then "OathError" else if j = 101 then "ValueError" else exNm j
/-- the classes of errors, as the written part tells them -/
structure ClsAt (P : Program) (K : PySem.W.Frag) (mg : Str → Option Value) (j : Nat) : Prop where
  at_ : ∃ C, clsA K j = some C ∧ Xc.MkC K P mg (exNm j) (exFs j) C ∧ XfC K C ∧ ExcC K C ∧ ∀ f ∈ exFs j, PySem.W.findIn K (.ref C) f = some none
def clsV (K : PySem.W.Frag) (j : Nat) : Option Value := if j = 101 then some (.type "ValueError") else match PySem.W.nsIn K mainGlobals (clsNm j) with
  | some (some (.ref C)) => some (.ref C)
  | _ => none
structure ClsAll (P : Program) (K : PySem.W.Frag) (mg : Str → Option Value) (xs : List Nat) : Prop where
  at_ : ∀ j ∈ xs, ClsAt P K mg j
  val : ∀ j ∈ 100 :: 101 :: xs, ∃ u, clsV K j = some u ∧ ((∃ C, u = .ref C ∧ mg (clsNm j) = some u) ∨ (u = .type "ValueError" ∧ mg "ValueError" = none ∧ j = 101)) ∧ (clsNm j == ("__debug__" : Str)) = false
  rel : ∀ i ∈ xs, ∀ j ∈ 100 :: 101 :: xs, ∀ C u, clsA K i = some C → clsV K j = some u → PySem.W.kitOne K (.ref C) u = some (isSub i j) ∧ PySem.W.exmOne K (.ref C) u = some (isSub i j)
def blts : List Str := ["len", "tuple", "list", "int", "sum", "all", "any", "max", "min", "abs", "range", "isinstance", "bool", "str", "zip", "enumerate", "sorted", "set"]
structure Tab (P : Program) (w : PySem.World) (K : PySem.W.Frag) (mg : Str → Option Value) (base : Heap) (c : TC) (h : CallF) (k : Nat) : Prop where
  fn : ∀ i x n, c.fns[i]? = some (x, n) → c.hots.contains i = false → ∃ (f : Addr) (fd : FuncData) (ps : List Str), mg x = some (.ref f) ∧ PySem.W.keepIn K (.ref f) = true ∧ Binds K fd ps [] ∧ ps.length = n ∧ (x == ("__debug__" : Str)) = false ∧
    FnOk P w K mg base (L2N.CX P w) k f fd ps (spF K c.xs n (h i))
  fx : ∀ p i x n, c.fns[i]? = some (x, n) → c.hots.contains i = true → ∃ (f : Addr) (fd : FuncData) (ps : List Str), mg x = some (.ref f) ∧ PySem.W.keepIn K (.ref f) = true ∧ Binds K fd ps [] ∧ ps.length = n ∧ (x == ("__debug__" : Str)) = false ∧
    L2N.FnX P w K mg base (L2N.CX P w) p k f fd ps (spX K c.xs p n (h i))
  bi : ∀ x ∈ blts, mg x = none
  ar : ∀ i x n ds g, c.fns[i]? = some (x, n) → ds.length ≠ n → h i ds g = .no
  con : ∀ x d, c.con.lookup x = some d → ∃ (u : Value) (v : V), mg x = some u ∧ RelV v u ∧ ∀ (a : Fs) G, Rep K a G d v
  dc : ∀ x kvs, c.dcs.lookup x = some kvs → ∃ (p : Addr) (es : Array DictEntry) (n : Nat), mg x = some (.ref p) ∧ KDict K w p es n ∧ ∀ z, (∀ v, kvs.lookup z = some v → ∃ t, PySem.W.nsIn K p z = some (some (.str v t))) ∧ (kvs.lookup z = none → PySem.W.nsIn K p z = some none)
  df : ∀ i x n d, c.fns[i]? = some (x, n) → c.dfs.lookup x = some d → c.hots.contains i = false → ∃ (f : Addr) (fd : FuncData) (ps : List Str) (u : Value) (v : V), mg x = some (.ref f) ∧ PySem.W.keepIn K (.ref f) = true ∧ Binds K fd ps [u] ∧ RelV v u ∧ (∀ (a : Fs) G, Rep K a G d v) ∧
    ps.length = n ∧ (x == ("__debug__" : Str)) = false ∧ FnOk P w K mg base (L2N.CX P w) k f fd ps (spF K c.xs n (h i))
  cl : ClsAll P K mg c.xs
structure GX (X : Cx) (c : TC) (S : Sx) (k : Nat) : Prop where
  N : X.N = c.N
  nd : c.N.Nodup
  nm : X.env.scope.names = c.nm
  fk : X.env.scope.kind = .function
  calm : c.hot = false → X.calm = true
  rm : L2H.RoomH k X.A
  cold : c.hot = false → Room k X.A ∧ S.a.er = none
  hand : c.hot = true → ∃ (p : Addr × Obj) (j : Nat) (dd : Addr), S.a.er = some (p.1, j, dd) ∧ ErAt S.K S.xs p j dd ∧ L2H.Hot1 X.A p ∧ p ∈ X.pn
  hX : S.xs = c.xs
  hK : X.K = S.K
  tk : L2N.Takes X S.W
  tab : Tab X.prog X.w X.K X.mg X.base c S.c k
  cel : ∀ x ∈ c.cel, X.fn x = true
section
variable {X : Cx} {c : TC} {S : Sx} {k : Nat}
theorem GX.hu (g : GX X c S k) : X.A.units + 64 < cLine := by have := g.rm.un; omega
theorem GX.gl (g : GX X c S k) {x : Str} (h : c.isG x = true) : Gl X x := by
  unfold TC.isG at h
  show X.env.scope.names.lookup x = some .globalImplicit
  rw [g.nm]
  exact of_decide_eq_true (by simpa using h)
theorem TC.slot_vis {x : Str} {i : Nat} (h : c.slot x = some i) : (c.nm.lookup x = some .local ∨ c.nm.lookup x = some .cell ∨ c.nm.lookup x = some .free) ∧ (x == ("__debug__" : Str)) = false ∧ (x == ("__classdict__" : Str)) = false ∧ c.N[i]? = some x := by
  unfold TC.slot at h
  have fin : ∀ {y : Option Nat}, (if (x == ("__debug__" : Str)) = false ∧ (x == ("__classdict__" : Str)) = false then c.N.findIdx? (· == x) else none) = some i → (x == ("__debug__" : Str)) = false ∧ (x == ("__classdict__" : Str)) = false ∧ c.N[i]? = some x := fun {y} h => by
    split at h
    · rename_i hd
      refine ⟨hd.1, hd.2, ?_⟩
      obtain ⟨hi, e, _⟩ := List.findIdx?_eq_some_iff_getElem.mp h
      rw [List.getElem?_eq_getElem hi]
      have : c.N[i] = x := by simpa using e
      rw [this]
    · cases h
  split at h
  · exact ⟨.inl (by assumption), fin (y := none) h⟩
  · exact ⟨.inr (.inl (by assumption)), fin (y := none) h⟩
  · exact ⟨.inr (.inr (by assumption)), fin (y := none) h⟩
  · cases h
theorem snd_var (g : GX X c S k) {x : Str} {i : Nat} {pos : Pos} (h : c.slot x = some i) : PE X (.Name x pos) (tVar i) := by
  obtain ⟨h1, h2, h3, h4⟩ := TC.slot_vis h
  refine pe_var (by rw [g.N]; exact h4) ?_ h2 h3
  unfold Vis
  rw [g.nm]
  exact h1
theorem brw_nm {i : Nat} {ρ : Env} {gs : Gs} : brw (.nm i) ρ gs (ev S.c (.nm i) ρ gs) = match ρ.get i with
    | some (.own ds) => .ok (.lst ds) gs
    | some (.val d) => .ok d gs
    | none => .no := by
  unfold brw
  show (match ρ.get i with | some (.own ds) => R.ok (D.lst ds) gs | _ => ev S.c (.nm i) ρ gs) = _
  unfold ev
  cases ρ.get i with
  | none => rfl
  | some q => cases q <;> rfl
theorem snd_nmB (g : GX X c S k) {x : Str} {i : Nat} {pos : Pos} (h : c.slot x = some i) : PE X (.Name x pos) (tB S (.nm i)) := pe_weak (snd_var g h) fun σ H Q ⟨ρ, G, gs, sl, w, r⟩ => by
  rw [brw_nm] at r
  cases e : ρ.get i with
  | none => rw [e] at r; exact r.elim
  | some q =>
    rw [e] at r
    cases q with
    | val d =>
      obtain ⟨v, e1, rv⟩ := sl.val i d e
      exact ⟨v, e1, Res.here w r v (rv.toB w)⟩
    | own ds =>
      obtain ⟨p, vs, e1, e2, n, gp, _, rs⟩ := sl.own i ds e
      exact ⟨_, e1, Res.here w r _ ⟨p, vs, rfl, e2, n, rs⟩⟩
theorem snd_nm (g : GX X c S k) {x : Str} {i : Nat} {pos : Pos} (h : c.slot x = some i) : PE X (.Name x pos) (tE S (.nm i)) := pe_weak (snd_var g h) fun σ H Q ⟨ρ, G, gs, sl, w, r⟩ => by
  unfold ev at r
  cases e : ρ.get i with
  | none => rw [e] at r; exact r.elim
  | some q =>
    rw [e] at r
    cases q with
    | val d =>
      obtain ⟨v, e1, rv⟩ := sl.val i d e
      exact ⟨v, e1, Res.here w r v rv⟩
    | own ds => exact r.elim
theorem snd_lit {e : Expr} {d : D} {v : V} (h : PE X e (tC v)) (r : ∀ G, Rep S.K S.a G d v) : PE X e (tE S (.lit d)) := pe_weak h fun σ H Q ⟨ρ, G, gs, sl, w, q⟩ => by
  unfold ev at q
  exact Res.here w q v (r G)
theorem snd_tup {es : List Expr} {ms : List E} {x1 pos} (h : PA X es (tL S ms)) : PE X (.Tuple es x1 pos) (tE S (.tup ms)) := pe_weak (pe_tup h) fun σ H Q ⟨ρ, G, gs, sl, w, q⟩ => by
  unfold ev at q
  refine tL.bind sl w q fun ds g1 G1 H1 vs x w1 sl1 r q1 => ?_
  split at q1
  · rename_i hl
    refine ⟨by rw [r.length]; exact hl, fun p hp => ?_⟩
    obtain ⟨x2, w2, f2⟩ := newT w1 hp r
    exact q1 _ _ x2 w2 _ f2
  · exact q1.elim
theorem RepF.back {Hb Hc G H : Hp} {d : D} {v : V} (x : ∀ b, Hc b = none → Hb b = none) (h : RepF S Hc G H d v) : RepF S Hb G H d v := by
  cases d with
  | lst ds =>
    obtain ⟨p, vs, e, q, n, g, b, r⟩ := h
    exact ⟨p, vs, e, q, n, g, x p b, r⟩
  | _ => exact h
theorem snd_lst {es : List Expr} {ms : List E} {pos} (h : PA X es (tL S ms)) : PE X (.List es pos) (tF S (.lst ms)) := pe_weak (pe_lst h) fun σ H Q ⟨ρ, G, gs, sl, w, q⟩ => by
  unfold ev at q
  refine tL.bind sl w q fun ds g1 G1 H1 vs x w1 sl1 r q1 => ?_
  split at q1
  · rename_i hl
    refine ⟨by rw [r.length]; exact hl, fun p hp => ?_⟩
    obtain ⟨x2, w2, f2⟩ := newL w1 hp r
    exact q1 _ _ x2 w2 _ (f2.back x.dm)
  · exact q1.elim
theorem snd_op (g : GX X c S k) {a b : Expr} {ma mb : E} {oo : Operator} {o : Op} {pos} (ho : trOp oo = some o) (ha : PE X a (tB S ma)) (hb : PE X b (tB S mb)) : PE X (.BinOp a oo b pos) (tF S (.op o ma mb)) :=
  pe_weak (pe_op (op_mi g.hK ho) ha hb) fun σ H Q ⟨ρ, G, gs, sl, w, q⟩ => by
  unfold ev at q
  refine tB.bind sl w q fun d1 g1 G1 H1 v1 x1 w1 sl1 r1 q1 => ?_
  refine tB.bind sl1 w1 q1 fun d2 g2 G2 H2 v2 x2 w2 sl2 r2 q2 => ?_
  obtain ⟨z, hz, k2⟩ := Res.of w2 q2
  exact ⟨d1, d2, g2, G2, z, w2, r1.ext x2, r2, hz, fun G' H' v x' w' rv => k2 G' H' x' w' v (rv.back fun b hb => x1.dm b (x2.dm b hb))⟩
theorem snd_neg {a : Expr} {ma : E} {pos} (ha : PE X a (tE S ma)) : PE X (.UnaryOp .USub a pos) (tE S (.neg ma)) := pe_weak (pe_un un_neg ha) fun σ H Q ⟨ρ, G, gs, sl, w, q⟩ => by
  unfold ev at q
  refine tE.bind sl w q fun d1 g1 G1 H1 v1 x1 w1 sl1 r1 q1 => ?_
  split at q1
  · cases r1.inj_int
    exact ⟨_, rfl, Res.here w1 q1 _ (by unfold Rep; rfl)⟩
  · exact q1.elim
theorem snd_cmpR (ma mb : E) (oo : CmpOp) {σ : St} {H : Hp} {Q : VK} (h : tE S (.cmp (trCm oo) ma mb) σ H Q) : tOp (rCmM S (trCm oo)) (tB S ma) (tB S mb) σ H Q := by
  obtain ⟨ρ, G, gs, sl, w, q⟩ := h
  unfold ev at q
  refine tB.bind sl w q fun d1 g1 G1 H1 v1 x1 w1 sl1 r1 q1 => ?_
  refine tB.bind sl1 w1 q1 fun d2 g2 G2 H2 v2 x2 w2 sl2 r2 q2 => ?_
  cases hz : cmpD (trCm oo) d1 d2 with
  | none => rw [hz] at q2; exact q2.elim
  | some z =>
    rw [hz] at q2
    exact ⟨d1, d2, g2, G2, z, w2, r1.ext x2, r2, hz, Res.here w2 q2 _ (by unfold Rep; rfl)⟩
theorem snd_cmp (g : GX X c S k) {a b : Expr} {ma mb : E} {oo : CmpOp} {pos} (hm : behindInMarks oo b = false) (ha : PE X a (tB S ma)) (hb : PE X b (tB S mb)) : PE X (.Compare a [oo] [b] pos) (tE S (.cmp (trCm oo) ma mb)) :=
  pe_weak (pe_cmpR (cmp_mi g.hK g.hu oo) ha hb hm) fun _ _ _ h => snd_cmpR ma mb oo h
/-- an expression's reading where its value is a truth value, as a test -/
theorem tT.toBl {m : E} (hm : ∀ i, m ≠ .nm i) (hb : ∀ ρ g d g', ev S.c m ρ g = .ok d g' → ∃ b, d = .bl b) {σ : St} {H : Hp} {Q : Bool → Hp → Prop} (h : tT S m σ H Q) : tE S m σ H fun x H' => ∃ b, x = .bl b ∧ Q b H' := by
  obtain ⟨ρ, G, gs, sl, w, q⟩ := h
  rw [brw_of hm] at q
  refine ⟨ρ, G, gs, sl, w, ?_⟩
  revert q
  cases e : ev S.c m ρ gs with
  | no => exact id
  | ex _ _ => exact id
  | ok d g1 =>
    intro q G' H' x' w' v rv
    obtain ⟨b, rfl⟩ := hb _ _ _ _ e
    unfold Rep at rv
    subst rv
    obtain ⟨k, e1, q1⟩ := q G' H' x' w'
    cases e1
    exact ⟨_, rfl, q1⟩
theorem cmp_bl {o : Cm} {ma mb : E} : ∀ ρ g d g', ev S.c (.cmp o ma mb) ρ g = .ok d g' → ∃ b, d = .bl b := fun ρ g d g' h => by
  unfold ev at h
  cases e1 : brw ma ρ g (ev S.c ma ρ g) with
  | no => rw [e1] at h; cases h
  | ex _ _ => rw [e1] at h; cases h
  | ok d1 g1 =>
    rw [e1, R.bind_ok] at h
    cases e2 : brw mb ρ g1 (ev S.c mb ρ g1) with
    | no => rw [e2] at h; cases h
    | ex _ _ => rw [e2] at h; cases h
    | ok d2 g2 =>
      rw [e2, R.bind_ok] at h
      cases e3 : cmpD o d1 d2 with
      | none => rw [e3] at h; cases h
      | some z => rw [e3] at h; cases h; exact ⟨_, rfl⟩
theorem snd_cmpT (g : GX X c S k) {a b : Expr} {ma mb : E} {oo : CmpOp} {pos} (hm : behindInMarks oo b = false) (ha : PE X a (tB S ma)) (hb : PE X b (tB S mb)) : PT X (.Compare a [oo] [b] pos) (tT S (.cmp (trCm oo) ma mb)) :=
  pt_weak (pt_cmpR (cmp_mi g.hK g.hu oo) ha hb hm) fun _ _ _ h => snd_cmpR ma mb oo (tT.toBl (fun i => by simp) cmp_bl h)
theorem snd_chainR (ma mb md : E) (oo oo' : CmpOp) {σ : St} {H : Hp} {Q : VK} (h : tE S (.chain (trCm oo) (trCm oo') ma mb md) σ H Q) : tChain (rCmM S (trCm oo)) (rCmM S (trCm oo')) (tE S ma) (tE S mb) (tE S md) σ H Q := by
  obtain ⟨ρ, G, gs, sl, w, q⟩ := h
  unfold ev at q
  refine tE.bind sl w q fun d1 g1 G1 H1 v1 x1 w1 sl1 r1 q1 => ?_
  refine tE.bind sl1 w1 q1 fun d2 g2 G2 H2 v2 x2 w2 sl2 r2 q2 => ?_
  cases hz : cmpD (trCm oo) d1 d2 with
  | none => rw [hz] at q2; exact q2.elim
  | some z =>
    rw [hz] at q2
    refine ⟨d1, d2, g2, G2, z, w2, (r1.toB w1).ext x2, r2.toB w2, hz, z, rfl, ?_⟩
    have q2 : Res S σ G2 H2 (if z = true then (ev S.c md ρ g2).bind fun z g => (R.of (cmpD (trCm oo') d2 z) g).bind fun k' g => .ok (D.bl k') g else .ok (D.bl false) g2) _ := q2
    cases z with
    | false => exact Res.here w2 q2 _ (by unfold Rep; rfl)
    | true =>
      rw [if_pos rfl] at q2 ⊢
      refine tE.bind sl2 w2 q2 fun d3 g3 G3 H3 v3 x3 w3 sl3 r3 q3 => ?_
      cases hz3 : cmpD (trCm oo') d2 d3 with
      | none => rw [hz3] at q3; exact q3.elim
      | some z3 =>
        rw [hz3] at q3
        exact ⟨d2, d3, g3, G3, z3, w3, (r2.toB w2).ext x3, r3.toB w3, hz3, Res.here w3 q3 _ (by unfold Rep; rfl)⟩
theorem snd_chain (g : GX X c S k) {a b d : Expr} {ma mb md : E} {oo oo' : CmpOp} {pos} (hm : lastMarks [oo, oo'] [b, d] = false) (ha : PE X a (tE S ma)) (hb : PE X b (tE S mb)) (hd : PE X d (tE S md)) :
    PE X (.Compare a [oo, oo'] [b, d] pos) (tE S (.chain (trCm oo) (trCm oo') ma mb md)) :=
  pe_weak (pe_chain (cmp_mi g.hK g.hu oo) (cmp_mi g.hK g.hu oo') ha hb hd hm) fun _ _ _ h => snd_chainR ma mb md oo oo' h
theorem chain_bl {o o' : Cm} {ma mb md : E} : ∀ ρ g d g', ev S.c (.chain o o' ma mb md) ρ g = .ok d g' → ∃ b, d = .bl b := fun ρ g d g' h => by
  unfold ev at h
  cases e1 : ev S.c ma ρ g with
  | no => rw [e1] at h; cases h
  | ex _ _ => rw [e1] at h; cases h
  | ok d1 g1 =>
    rw [e1, R.bind_ok] at h
    cases e2 : ev S.c mb ρ g1 with
    | no => rw [e2] at h; cases h
    | ex _ _ => rw [e2] at h; cases h
    | ok d2 g2 =>
      rw [e2, R.bind_ok] at h
      cases e3 : cmpD o d1 d2 with
      | none => rw [e3] at h; cases h
      | some z =>
        rw [e3, R.of_some, R.bind_ok] at h
        cases z with
        | false => cases h; exact ⟨_, rfl⟩
        | true =>
          rw [if_pos rfl] at h
          cases e4 : ev S.c md ρ g2 with
          | no => rw [e4] at h; cases h
          | ex _ _ => rw [e4] at h; cases h
          | ok d3 g3 =>
            rw [e4, R.bind_ok] at h
            cases e5 : cmpD o' d2 d3 with
            | none => rw [e5] at h; cases h
            | some z => rw [e5] at h; cases h; exact ⟨_, rfl⟩
theorem snd_chainT (g : GX X c S k) {a b d : Expr} {ma mb md : E} {oo oo' : CmpOp} {pos} (hm : lastMarks [oo, oo'] [b, d] = false) (ha : PE X a (tE S ma)) (hb : PE X b (tE S mb)) (hd : PE X d (tE S md)) :
    PT X (.Compare a [oo, oo'] [b, d] pos) (tT S (.chain (trCm oo) (trCm oo') ma mb md)) :=
  pt_weak (pt_chain (cmp_mi g.hK g.hu oo) (cmp_mi g.hK g.hu oo') ha hb hd hm) fun _ _ _ h => snd_chainR ma mb md oo oo' (tT.toBl (fun i => by simp) chain_bl h)
end
end Mi


set_option Elab.async false
set_option maxRecDepth 100000
set_option maxHeartbeats 2000000
/-! Mi7: expressions: the rest of the forms but comprehensions. -/
namespace Mi
open PySem L2
section
variable {X : Cx} {c : TC} {S : Sx} {k : Nat}
theorem repE_bl {G : Hp} {b : Bool} {v : V} (h : Rep S.K S.a G (.bl b) v) : v = .bl b := by unfold Rep at h; exact h
theorem rep_bl {G : Hp} {b : Bool} : Rep S.K S.a G (.bl b) (.bl b) := by unfold Rep; rfl
theorem snd_and {a b : Expr} {rest : List Expr} {ma mb : E} {pos} (ha : PE X a (tE S ma)) (hb : PE X (.BoolOp .And (b :: rest) pos) (tE S mb)) : PE X (.BoolOp .And (a :: b :: rest) pos) (tE S (.and ma mb)) :=
  pe_weak (pe_and ha hb) fun σ H Q ⟨ρ, G, gs, sl, w, q⟩ => by
  unfold ev at q
  refine tE.bind sl w q fun d1 g1 G1 H1 v1 x1 w1 sl1 r1 q1 => ?_
  split at q1
  · exact ⟨true, repE_bl r1, by rw [if_pos rfl]; exact ⟨ρ, G1, g1, sl1, w1, q1⟩⟩
  · exact ⟨false, repE_bl r1, by rw [if_neg Bool.false_ne_true]; exact Res.here w1 q1 _ rep_bl⟩
  · exact q1.elim
theorem snd_or {a b : Expr} {rest : List Expr} {ma mb : E} {pos} (ha : PE X a (tE S ma)) (hb : PE X (.BoolOp .Or (b :: rest) pos) (tE S mb)) : PE X (.BoolOp .Or (a :: b :: rest) pos) (tE S (.or ma mb)) :=
  pe_weak (pe_or ha hb) fun σ H Q ⟨ρ, G, gs, sl, w, q⟩ => by
  unfold ev at q
  refine tE.bind sl w q fun d1 g1 G1 H1 v1 x1 w1 sl1 r1 q1 => ?_
  split at q1
  · exact ⟨true, repE_bl r1, by rw [if_pos rfl]; exact Res.here w1 q1 _ rep_bl⟩
  · exact ⟨false, repE_bl r1, by rw [if_neg Bool.false_ne_true]; exact ⟨ρ, G1, g1, sl1, w1, q1⟩⟩
  · exact q1.elim
theorem snd_not {a : Expr} {ma : E} {pos} (ha : PE X a (tE S ma)) : PE X (.UnaryOp .Not a pos) (tE S (.not ma)) :=
  pe_weak (pe_not ha) fun σ H Q ⟨ρ, G, gs, sl, w, q⟩ => by
  unfold ev at q
  refine tE.bind sl w q fun d1 g1 G1 H1 v1 x1 w1 sl1 r1 q1 => ?_
  split at q1
  · exact ⟨_, repE_bl r1, Res.here w1 q1 _ rep_bl⟩
  · exact q1.elim
theorem brw_tand {ma mb : E} {ρ : Env} {gs : Gs} : brw (.tand ma mb) ρ gs (ev S.c (.tand ma mb) ρ gs) = ev S.c (.tand ma mb) ρ gs := rfl
theorem snd_tand {a b : Expr} {rest : List Expr} {ma mb : E} {pos} (ha : PT X a (tT S ma)) (hb : PW X (.BoolOp .And (b :: rest) pos) (tT S mb)) : PW X (.BoolOp .And (a :: b :: rest) pos) (tT S (.tand ma mb)) :=
  pw_weak (pw_and ha hb) fun σ H Q ⟨ρ, G, gs, sl, w, q⟩ => by
  rw [brw_of (fun i => by simp)] at q
  unfold ev at q
  refine tT.bind sl w q fun d1 g1 G1 H1 x1 w1 sl1 q1 => ?_
  split at q1
  · rename_i e1
    refine ⟨true, e1, ?_⟩
    rw [if_pos rfl]
    refine tT.bind sl1 w1 q1 fun d2 g2 G2 H2 x2 w2 sl2 q2 => ?_
    cases e2 : truthG g2 d2 with
    | none => rw [e2] at q2; exact q2.elim
    | some b =>
      rw [e2] at q2
      obtain ⟨b', e3, q3⟩ := Res.here w2 q2
      cases e3
      exact ⟨_, rfl, q3⟩
  · rename_i e1
    refine ⟨false, e1, ?_⟩
    rw [if_neg Bool.false_ne_true]
    obtain ⟨b', e3, q3⟩ := Res.here w1 q1
    cases e3
    exact q3
  · exact q1.elim
theorem snd_tor {a b : Expr} {rest : List Expr} {ma mb : E} {pos} (ha : PT X a (tT S ma)) (hb : PW X (.BoolOp .Or (b :: rest) pos) (tT S mb)) : PW X (.BoolOp .Or (a :: b :: rest) pos) (tT S (.tor ma mb)) :=
  pw_weak (pw_or ha hb) fun σ H Q ⟨ρ, G, gs, sl, w, q⟩ => by
  rw [brw_of (fun i => by simp)] at q
  unfold ev at q
  refine tT.bind sl w q fun d1 g1 G1 H1 x1 w1 sl1 q1 => ?_
  split at q1
  · rename_i e1
    refine ⟨true, e1, ?_⟩
    rw [if_pos rfl]
    obtain ⟨b', e3, q3⟩ := Res.here w1 q1
    cases e3
    exact q3
  · rename_i e1
    refine ⟨false, e1, ?_⟩
    rw [if_neg Bool.false_ne_true]
    refine tT.bind sl1 w1 q1 fun d2 g2 G2 H2 x2 w2 sl2 q2 => ?_
    cases e2 : truthG g2 d2 with
    | none => rw [e2] at q2; exact q2.elim
    | some b =>
      rw [e2] at q2
      obtain ⟨b', e3, q3⟩ := Res.here w2 q2
      cases e3
      exact ⟨_, rfl, q3⟩
  · exact q1.elim
theorem snd_tnot {a : Expr} {ma : E} {pos} (ha : PT X a (tT S ma)) : PT X (.UnaryOp .Not a pos) (tT S (.tnot ma)) :=
  pt_weak (pt_not ha) fun σ H Q ⟨ρ, G, gs, sl, w, q⟩ => by
  rw [brw_of (fun i => by simp)] at q
  unfold ev at q
  refine tT.bind sl w q fun d1 g1 G1 H1 x1 w1 sl1 q1 => ?_
  cases e1 : truthG g1 d1 with
  | none => rw [e1] at q1; exact q1.elim
  | some b =>
    rw [e1] at q1
    obtain ⟨b', e3, q3⟩ := Res.here w1 q1
    cases e3
    exact ⟨_, rfl, q3⟩
theorem snd_ite {t a b : Expr} {mt ma mb : E} {pos} (ht : PT X t (tT S mt)) (ha : PE X a (tE S ma)) (hb : PE X b (tE S mb)) : PE X (.IfExp t a b pos) (tE S (.ite mt ma mb)) :=
  pe_weak (pe_ifExp ht ha hb) fun σ H Q ⟨ρ, G, gs, sl, w, q⟩ => by
  unfold ev at q
  refine tT.bind sl w q fun d1 g1 G1 H1 x1 w1 sl1 q1 => ?_
  split at q1
  · rename_i e1
    exact ⟨true, e1, by rw [if_pos rfl]; exact ⟨ρ, G1, g1, sl1, w1, q1⟩⟩
  · rename_i e1
    exact ⟨false, e1, by rw [if_neg Bool.false_ne_true]; exact ⟨ρ, G1, g1, sl1, w1, q1⟩⟩
  · exact q1.elim
/-- truth of data -/
theorem truth_tru {g : Gs} {G H : Hp} {d : D} {v : V} {b : Bool} (w : World S.a g G H) (h : RepB S G H d v) (e : truth d = some b) : TruV S.K v H b := by
  cases d with
  | non => cases repB_non h; simp [truth] at e; subst e; rfl
  | bl b => cases repB_bl h; simp [truth] at e; subst e; rfl
  | int i => cases repB_int h; simp only [truth, Option.some.injEq] at e; subst e; rfl
  | str x =>
    cases repB_str h
    simp only [truth] at e
    split at e
    · rename_i hl
      cases e
      exact ⟨hl, rfl⟩
    · cases e
  | tup xs =>
    obtain ⟨p, vs, rfl, q1, r1⟩ := repB_tup h
    simp only [truth, Option.some.injEq] at e
    subst e
    exact .inr (.inl ⟨vs, SqT.mono w.sub q1, by rw [r1.isEmpty]⟩)
  | lst xs =>
    obtain ⟨p, vs, rfl, q1, _, r1⟩ := repB_lst h
    simp only [truth, Option.some.injEq] at e
    subst e
    exact .inl ⟨vs, SqL.of q1, by rw [r1.isEmpty]⟩
  | st => simp [truth] at e
  | sub k => simp [truth] at e
  | scr k => simp [truth] at e
  | exn k fs => simp [truth] at e
theorem truthG_tru {g : Gs} {G H : Hp} {d : D} {v : V} {b : Bool} (w : World S.a g G H) (h : RepB S G H d v) (e : truthG g d = some b) : TruV S.K v H b := by
  cases d with
  | sub k =>
    unfold truthG at e
    simp only at e
    split at e
    · rename_i l e1
      cases e
      obtain ⟨p, e2, rfl⟩ := repB_sub h
      obtain ⟨p', e4, e5⟩ := w.at_ e1
      rw [e2] at e4
      cases e4
      exact .inl ⟨_, SqL.of e5, by rw [List.isEmpty_map]⟩
    · cases e
  | _ => exact truth_tru w h e
theorem snd_truth (g : GX X c S k) {a : Expr} {ma : E} (ha : PE X a (tB S ma)) (he : ∀ whole, PySem.isTrue a X.env whole = (do let v ← whole; standAt a.pos; holding [v] (truthy v))) : PT X a (tT S ma) :=
  pt_weak (pt_truth ha he) fun σ H Q ⟨ρ, G, gs, sl, w, q⟩ => ⟨ρ, G, gs, sl, w, q.mono fun d g1 G1 H1 x1 w1 ⟨b, e, q1⟩ v rv => ⟨b, by rw [g.hK]; exact truthG_tru w1 rv e, q1⟩⟩
theorem snd_ix (g : GX X c S k) {a b : Expr} {ma mb : E} {pos} (hs : PlainIx b) (ha : PE X a (tB S ma)) (hb : PE X b (tE S mb)) : PE X (.Subscript a b pos) (tE S (.ix ma mb)) :=
  pe_weak (pe_ix (ix_mi g.hK) ha hb hs) fun σ H Q ⟨ρ, G, gs, sl, w, q⟩ => by
  unfold ev at q
  refine tB.bind sl w q fun d1 g1 G1 H1 v1 x1 w1 sl1 r1 q1 => ?_
  refine tE.bind sl1 w1 q1 fun d2 g2 G2 H2 v2 x2 w2 sl2 r2 q2 => ?_
  obtain ⟨z, hz, k2⟩ := Res.of w2 q2
  exact ⟨d1, d2, g2, G2, z, w2, r1.ext x2, r2, hz, fun v rv => k2 G2 H2 Ext.refl w2 v rv⟩
def tO (S : Sx) (m : E) : TO := fun σ H Q => ∃ ρ G g, Slots S ρ σ G H ∧ World S.a g G H ∧ Res S σ G H (ev S.c m ρ g) fun d _ _ H' => ∃ i, partD d = some i ∧ Q i H'
theorem snd_po0 : PO X none (tO S (.lit .non)) := ⟨fun pins s σ H Q I ⟨ρ, G, gs, sl, w, q⟩ => by
  unfold ev at q
  obtain ⟨i, e, q1⟩ := Res.here w q
  cases e
  exact po_none.run pins s σ H Q I q1⟩
theorem snd_po1 {e : Expr} {m : E} (h : PE X e (tE S m)) : PO X (some e) (tO S (.part m)) := ⟨fun pins s σ H Q I ⟨ρ, G, gs, sl, w, q⟩ => by
  unfold ev at q
  refine (po_some h).run pins s σ H Q I (tE.bind sl w q fun d1 g1 G1 H1 v1 x1 w1 sl1 r1 q1 => ?_)
  split at q1
  · obtain ⟨i, e, q2⟩ := Res.here w1 q1
    cases e
    exact ⟨_, r1.inj_int, q2⟩
  · exact q1.elim⟩
theorem snd_sl (g : GX X c S k) {a : Expr} {lo hi : Option Expr} {ma ml mh : E} {p2 pos} (ha : PE X a (tB S ma)) (hl : PO X lo (tO S ml)) (hh : PO X hi (tO S mh)) : PE X (.Subscript a (.Slice lo hi none p2) pos) (tF S (.sl ma ml mh)) :=
  pe_weak (pe_slice (sl_mi g.hK) ha hl hh) fun σ H Q ⟨ρ, G, gs, sl, w, q⟩ => by
  unfold ev at q
  refine tB.bind sl w q fun d1 g1 G1 H1 v1 x1 w1 sl1 r1 q1 => ?_
  refine ⟨ρ, G1, g1, sl1, w1, Res.step q1 fun d2 g2 G2 H2 x2 w2 q2 => ?_⟩
  split at q2
  · rename_i l e2
    refine ⟨l, e2, ρ, G2, g2, sl1.ext x2, w2, Res.step q2 fun d3 g3 G3 H3 x3 w3 q3 => ?_⟩
    split at q3
    · rename_i h e3
      refine ⟨h, e3, ?_⟩
      obtain ⟨z, hz, k2⟩ := Res.of w3 q3
      exact ⟨d1, g3, G3, z, w3, (r1.ext x2).ext x3, hz, fun G' H' v x' w' rv => k2 G' H' x' w' v (rv.back fun b hb => x1.dm b (x2.dm b (x3.dm b hb)))⟩
    · exact q3.elim
  · exact q2.elim
theorem snd_rev (g : GX X c S k) {e : Expr} {m : E} {kk : Nat} {p1 p2 p3 pos : Pos} (he : PE X e (tB S m)) : PE X (.Subscript e (.Slice none none (some (.UnaryOp .USub (.Constant (.int 1) kk p1) p2)) p3) pos) (tF S (.rev m)) :=
  pe_weak (pe_revL he) fun σ H Q ⟨ρ, G, gs, sl, w, q⟩ => by
  unfold ev at q
  refine tB.bind sl w q fun d1 g1 G1 H1 v1 x1 w1 sl1 r1 q1 => ?_
  split at q1
  · obtain ⟨p, vs, rfl, q2, _, rs⟩ := repB_lst r1
    refine ⟨p, vs, rfl, SqL.of q2, fun p hp => ?_⟩
    obtain ⟨x2, w2, f2⟩ := newL w1 hp rs.reverse
    exact q1 _ _ x2 w2 _ (f2.back x1.dm)
  · exact q1.elim
/-! ### the draws' list is changed -/
theorem World.upRow {a : Fs} {g : Gs} {G H : Hp} (w : World a g G H) (on : a.on = true) (row : List Gc) :
    World a { g with row := row } G (upd H a.s (.lst (row.map (gcV a)))) ∧ Ext a G H G (upd H a.s (.lst (row.map (gcV a)))) := by
  have hs : a.has a.s := ⟨on, .inl rfl⟩
  have gs := w.off _ hs
  refine ⟨⟨fun b o e => ?_, fun _ => upd_same, fun q => (by rw [on] at q; cases q), fun k p xs e1 e2 => ?_, w.hl, w.off, w.ns, w.nd⟩, ⟨Same.refl G, fun b o e => .inl e, fun b o e n => ?_, fun b e => upd_none e⟩⟩
  · rw [upd_ne (ne_of_none e gs)]; exact w.sub b o e
  · have hp : p ≠ a.s := fun z => w.ns (z ▸ List.mem_of_getElem? e1)
    rw [upd_ne hp]; exact w.ht k p xs e1 e2
  · have hb : b ≠ a.s := fun z => n (z ▸ hs)
    rw [upd_ne hb]; exact e
theorem World.upLs {a : Fs} {g : Gs} {G H : Hp} (w : World a g G H) {k : Nat} {p : Addr} (e : a.ts[k]? = some p) (l : List Int) :
    World a { g with ls := g.ls.set k l } G (upd H p (.lst (l.map V.int))) ∧ Ext a G H G (upd H p (.lst (l.map V.int))) := by
  have hp := w.hasT e
  have gp := w.off _ hp
  refine ⟨⟨fun b o e => ?_, fun q => ?_, w.hn, fun j q xs e1 e2 => ?_, by rw [List.length_set]; exact w.hl, w.off, w.ns, w.nd⟩, ⟨Same.refl G, fun b o e => .inl e, fun b o e n => ?_, fun b e => upd_none e⟩⟩
  · rw [upd_ne (ne_of_none e gp)]; exact w.sub b o e
  · have hs : a.s ≠ p := fun z => w.ns (z ▸ List.mem_of_getElem? e)
    rw [upd_ne hs]; exact w.hs q
  · by_cases hj : k = j
    · subst hj
      rw [e] at e1
      cases e1
      have hk : k < g.ls.length := by rw [← w.hl]; exact (List.getElem?_eq_some_iff.mp e).1
      rw [List.getElem?_set_self hk] at e2
      cases e2
      exact upd_same
    · rw [List.getElem?_set_ne hj] at e2
      have hq : q ≠ p := fun z => by
        subst z
        have hk := (List.getElem?_eq_some_iff.mp e)
        have hj2 := (List.getElem?_eq_some_iff.mp e1)
        exact hj ((List.getElem_inj w.nd).mp (hk.2.trans hj2.2.symm))
      rw [upd_ne hq]; exact w.ht j q xs e1 e2
  · have hb : b ≠ p := fun z => n (z ▸ hp)
    rw [upd_ne hb]; exact e
theorem World.on_ {a : Fs} {g : Gs} {G H : Hp} (w : World a g G H) (h : g.row ≠ []) : a.on = true := by
  cases q : a.on with
  | true => rfl
  | false => exact absurd (w.hn q).1 h
/-- a place is set -/
theorem setG_at {g g' : Gs} {G H : Hp} {d e f : D} {x y z : V} (w : World S.a g G H) (rx : Rep S.K S.a G d x) (ry : Rep S.K S.a G e y) (rz : Rep S.K S.a G f z) (h : setG g d e f = some g') :
    ∃ p xs j i, x = .ref p ∧ y = .int j ∧ H p = some (.lst xs) ∧ ixN xs.length j = some i ∧ World S.a g' G (upd H p (.lst (xs.set i z))) ∧ Ext S.a G H G (upd H p (.lst (xs.set i z))) := by
  unfold setG at h
  split at h
  · cases ry.inj_int
    cases rz.inj_int
    cases repB_st (S := S) (H := H) (G := G) rx
    split at h
    · rename_i i e1
      cases h
      have hne : g.row ≠ [] := fun z => by
        rw [z] at e1
        unfold ixN at e1
        repeat' split at e1
        all_goals first | (cases e1; done) | (rename_i h1; simp at h1; omega) | (rename_i h1 h2; simp at h1 h2; omega)
      obtain ⟨a1, a2⟩ := w.upRow (w.on_ hne) (g.row.set i (.num _))
      rw [List.map_set] at a1 a2
      exact ⟨_, _, _, i, rfl, rfl, w.row hne, by rw [List.length_map]; exact e1, a1, a2⟩
    · cases h
  · cases ry.inj_int
    cases rz.inj_int
    obtain ⟨p, e2, rfl⟩ := repB_sub (S := S) (H := H) (G := G) rx
    split at h
    · rename_i l e1
      split at h
      · rename_i i e3
        cases h
        obtain ⟨p', e4, e5⟩ := w.at_ e1
        rw [e2] at e4
        cases e4
        obtain ⟨a1, a2⟩ := w.upLs e2 (l.set i _)
        rw [List.map_set] at a1 a2
        exact ⟨_, _, _, i, rfl, rfl, e5, by rw [List.length_map]; exact e3, a1, a2⟩
      · cases h
    · cases h
  · cases h
theorem popG_at {g g' : Gs} {G H : Hp} {d : D} {v : Int} {x : V} (w : World S.a g G H) (rx : Rep S.K S.a G d x) (h : popG g d = some (v, g')) :
    ∃ p xs, x = .ref p ∧ H p = some (.lst (.int v :: xs)) ∧ World S.a g' G (upd H p (.lst xs)) ∧ Ext S.a G H G (upd H p (.lst xs)) := by
  unfold popG at h
  split at h
  · obtain ⟨p, e2, rfl⟩ := repB_sub (S := S) (H := H) (G := G) rx
    split at h
    · rename_i e1
      cases h
      obtain ⟨p', e4, e5⟩ := w.at_ e1
      rw [e2] at e4
      cases e4
      obtain ⟨a1, a2⟩ := w.upLs e2 _
      exact ⟨_, _, rfl, e5, a1, a2⟩
    · cases h
  · cases h
theorem appG_at {g g' : Gs} {G H : Hp} {d e : D} {x y : V} (w : World S.a g G H) (rx : Rep S.K S.a G d x) (ry : Rep S.K S.a G e y) (h : appG g d e = some g') :
    ∃ p xs, x = .ref p ∧ H p = some (.lst xs) ∧ xs.length < sizeLine ∧ World S.a g' G (upd H p (.lst (xs ++ [y]))) ∧ Ext S.a G H G (upd H p (.lst (xs ++ [y]))) := by
  unfold appG at h
  split at h
  · obtain ⟨p, e2, rfl⟩ := repB_sub (S := S) (H := H) (G := G) rx
    cases ry.inj_int
    split at h
    · rename_i l e1
      split at h
      · rename_i hl
        cases h
        obtain ⟨p', e4, e5⟩ := w.at_ e1
        rw [e2] at e4
        cases e4
        obtain ⟨a1, a2⟩ := w.upLs e2 (l ++ [_])
        rw [List.map_append] at a1 a2
        exact ⟨_, _, rfl, e5, by rw [List.length_map]; exact hl, a1, a2⟩
      · cases h
    · cases h
  · cases h
theorem recv_base {a : Expr} (h : isRecv a = true) (name : Str) (env : PySem.Env) : attributeBase a name env (eval a env) = eval a env := by
  unfold isRecv at h
  split at h
  · rfl
  · rfl
  · rfl
  · cases h
theorem snd_pop {a : Expr} {ma : E} {kk : Nat} {kp apos cpos : Pos} (hr : isRecv a = true) (hl : (apos.endLine == cpos.line) = true) (ha : PE X a (tE S ma)) :
    PE X (.Call (.Attribute a "pop" apos) [.Constant (.int 0) kk kp] [] cpos) (tE S (.pop ma)) :=
  pe_weak (pe_bm PySem.F.plainAttrs_list PySem.F.slot_list_pop PySem.F.type_list_pop mt_popAt ha (pa_cons (pe_int (i := 0)) pa_nil rfl) (recv_base hr _ _) rfl hl rfl rfl) fun σ H Q ⟨ρ, G, gs, sl, w, q⟩ => by
  unfold ev at q
  refine tE.bind sl w q fun d1 g1 G1 H1 v1 x1 w1 sl1 r1 q1 => ?_
  cases hp : popG g1 d1 with
  | none => rw [hp] at q1; exact q1.elim
  | some pr =>
    obtain ⟨v, g2⟩ := pr
    rw [hp] at q1
    obtain ⟨p, xs, rfl, e1, w2, x2⟩ := popG_at w1 r1 hp
    refine ⟨.inl ⟨rfl, _, SqL.of e1⟩, p, _, 0, 0, .int v, rfl, rfl, e1, by decide, by decide, by unfold seqIndex?; simp, rfl, ?_⟩
    exact q1 G1 _ x2 w2 _ (by unfold Rep; rfl)
/-! ### argument lists, calls -/
def notStar : Expr → Bool
  | .Starred _ _ => false
  | _ => true
theorem star_cons {e : Expr} (h : notStar e = true) (es : List Expr) (env : PySem.Env) : starEach (e :: es) env = (false, eval e env) :: starEach es env := by
  cases e <;> first | rfl | (simp [notStar] at h)
theorem star_any {env : PySem.Env} {pos : Pos} : ∀ {es : List Expr}, es.all notStar = true → (backTo pos (starEach es env)).any (·.1) = false
  | [], _ => rfl
  | e :: es, h => by
    rw [List.all_cons, Bool.and_eq_true] at h
    rw [star_cons h.1]
    show (false || (backTo pos (starEach es env)).any (·.1)) = false
    rw [star_any h.2, Bool.false_or]
theorem snd_nil : PA X [] (tL S []) := pa_weak pa_nil fun σ H Q ⟨ρ, G, gs, sl, w, q⟩ => by
  unfold evL at q
  exact Res.here w q [] Reps.nil
theorem snd_cons {e : Expr} {es : List Expr} {m : E} {ms : List E} (hs : notStar e = true) (h : PE X e (tE S m)) (r : PA X es (tL S ms)) : PA X (e :: es) (tL S (m :: ms)) :=
  pa_weak (pa_cons h r (star_cons hs es X.env)) fun σ H Q ⟨ρ, G, gs, sl, w, q⟩ => by
  unfold evL at q
  refine tE.bind sl w q fun d1 g1 G1 H1 v1 x1 w1 sl1 r1 q1 => ?_
  refine tL.bind sl1 w1 q1 fun d2 g2 G2 H2 v2 x2 w2 sl2 r2 q2 => ?_
  exact Res.here w2 q2 _ (Reps.cons (r1.mono x2.gg) r2)
theorem RepsB.ext {G H G' H' : Hp} (x : Ext S.a G H G' H') : ∀ {ds : List D} {vs : List V}, RepsB S G H ds vs → RepsB S G' H' ds vs
  | _, _, .nil => .nil
  | _, _, .cons r t => .cons (r.ext x) (RepsB.ext x t)
theorem snd_nilB : PA X [] (tLB S []) := pa_weak pa_nil fun σ H Q ⟨ρ, G, gs, sl, w, q⟩ => by
  unfold evB at q
  exact Res.here w q [] .nil
theorem snd_consB {e : Expr} {es : List Expr} {m : E} {ms : List E} (hs : notStar e = true) (h : PE X e (tB S m)) (r : PA X es (tLB S ms)) : PA X (e :: es) (tLB S (m :: ms)) :=
  pa_weak (pa_cons h r (star_cons hs es X.env)) fun σ H Q ⟨ρ, G, gs, sl, w, q⟩ => by
  unfold evB at q
  refine tB.bind sl w q fun d1 g1 G1 H1 v1 x1 w1 sl1 r1 q1 => ?_
  refine tLB.bind sl1 w1 q1 fun d2 g2 G2 H2 v2 x2 w2 sl2 r2 q2 => ?_
  exact Res.here w2 q2 _ (.cons (r1.ext x2) r2)
theorem fnIx {c : TC} {x : Str} {i : Nat} (h : c.fns.findIdx? (·.1 == x) = some i) : ∃ n, c.fns[i]? = some (x, n) := by
  obtain ⟨hi, e, _⟩ := List.findIdx?_eq_some_iff_getElem.mp h
  have : c.fns[i].1 = x := by simpa using e
  exact ⟨c.fns[i].2, by rw [List.getElem?_eq_getElem hi]; exact congrArg some (Prod.ext this rfl)⟩
theorem snd_call (g : GX X c S k) {x : Str} {i : Nat} {e : Expr} {es : List Expr} {ms : List E} {p pos : Pos} (hg : c.isG x = true) (hi : c.fns.findIdx? (·.1 == x) = some i) (hh : c.hots.contains i = c.hot) (hs : (e :: es).all notStar = true) (ha : PA X (e :: es) (tL S ms)) :
    PE X (.Call (.Name x p) (e :: es) [] pos) (tE S (.call i ms)) := by
  obtain ⟨n, hn⟩ := fnIx hi
  have hs' : notStar e = true ∧ es.all notStar = true := by rw [List.all_cons, Bool.and_eq_true] at hs; exact hs
  have core : ∀ {ds : List D} {g1 : Gs} {G1 H1 : Hp} {vs : List V} {σ : St} {Q : VK}, Reps S.K S.a G1 ds vs → Res S σ G1 H1 (S.c i ds g1) (fun d _ G' H' => ∀ v, Rep S.K S.a G' d v → Q v H') →
      vs.length = n ∧ Out X.K c.xs S.a H1 G1 (S.c i ds g1) Q (WE S.W σ) := fun {ds g1 G1 H1 vs σ Q} r1 q1 => by
    refine ⟨?_, ?_⟩
    · rw [r1.length]
      by_cases hl : ds.length = n
      · exact hl
      · rw [g.tab.ar i x n ds g1 hn hl] at q1
        exact q1.elim
    · rw [g.hK, ← g.hX]
      unfold Out
      revert q1
      cases S.c i ds g1 with
      | ok d g2 => exact id
      | ex _ _ => exact id
      | no => exact id
  cases hc : c.hot with
  | false =>
    rw [hc] at hh
    obtain ⟨f, fd, ps, h1, h2, h3, h4, h5, F⟩ := g.tab.fn i x n hn hh
    refine pe_weak (pe_callS (E := WE S.W) F (g.cold hc).1 (g.gl hg) h1 h2 h3 (fun σ => L2N.passAt g.tk σ) ha h5 (star_cons hs'.1 es X.env) (star_any hs'.2)) fun σ H Q ⟨ρ, G, gs, sl, w, q⟩ => ?_
    unfold ev at q
    refine tL.bind sl w q fun ds g1 G1 H1 vs x1 w1 sl1 r1 q1 => ?_
    obtain ⟨o1, o2⟩ := core r1 q1
    exact ⟨o1, S.a, G1, g1, ds, (g.cold hc).2, w1, g.hK ▸ r1, o2⟩
  | true =>
    rw [hc] at hh
    obtain ⟨pp, j, dd, e1, e2, e3, e4⟩ := g.hand hc
    obtain ⟨f, fd, ps, h1, h2, h3, h4, h5, F⟩ := g.tab.fx pp i x n hn hh
    refine pe_weak (L2N.pe_callX (E := WE S.W) F g.rm e3 e4 (g.gl hg) h1 h2 h3 (fun σ => L2N.passAt g.tk σ) ha h5 (star_cons hs'.1 es X.env) (star_any hs'.2)) fun σ H Q ⟨ρ, G, gs, sl, w, q⟩ => ?_
    unfold ev at q
    refine tL.bind sl w q fun ds g1 G1 H1 vs x1 w1 sl1 r1 q1 => ?_
    obtain ⟨o1, o2⟩ := core r1 q1
    exact ⟨o1, S.a, G1, g1, ds, j, dd, e1, (by rw [g.hK, ← g.hX]; exact e2), w1, g.hK ▸ r1, o2⟩
theorem evL_app {c : CallF} : ∀ {ms : List E} {d : D} {ρ : Env} {g : Gs}, evL c (ms ++ [.lit d]) ρ g = (evL c ms ρ g).bind fun ds g => .ok (ds ++ [d]) g
  | [], d, ρ, g => by
    rw [List.nil_append]
    unfold evL evL ev
    rfl
  | m :: ms, d, ρ, g => by
    rw [List.cons_append]
    unfold evL
    cases ev c m ρ g with
    | no => rfl
    | ex e g => rfl
    | ok x g =>
      rw [R.bind_ok, R.bind_ok, evL_app]
      cases evL c ms ρ g with
      | no => rfl
      | ex e g => rfl
      | ok y g => rfl
theorem snd_callD (g : GX X c S k) {x : Str} {i n : Nat} {e : Expr} {es : List Expr} {ms : List E} {d : D} {p pos : Pos} (hg : c.isG x = true) (hn : c.fns[i]? = some (x, n)) (hd : c.dfs.lookup x = some d) (hc : c.hot = false) (hh : c.hots.contains i = c.hot) (hs : (e :: es).all notStar = true) (ha : PA X (e :: es) (tL S ms)) :
    PE X (.Call (.Name x p) (e :: es) [] pos) (tE S (.call i (ms ++ [.lit d]))) := by
  have hs' : notStar e = true ∧ es.all notStar = true := by rw [List.all_cons, Bool.and_eq_true] at hs; exact hs
  rw [hc] at hh
  obtain ⟨f, fd, ps, u, v, h1, h2, h3, h6, h7, h4, h5, F⟩ := g.tab.df i x n d hn hd hh
  refine pe_weak (pe_callSD (E := WE S.W) F (g.cold hc).1 (g.gl hg) h1 h2 h3 (Paired.cons h6 .nil) (fun σ => L2N.passAt g.tk σ) ha h5 (star_cons hs'.1 es X.env) (star_any hs'.2)) fun σ H Q ⟨ρ, G, gs, sl, w, q⟩ => ?_
  unfold ev at q
  rw [evL_app] at q
  have e0 : ((evL S.c ms ρ gs).bind fun ds g => (R.ok (ds ++ [d]) g : R (List D))).bind (fun ds g => S.c i ds g) = (evL S.c ms ρ gs).bind fun ds g => S.c i (ds ++ [d]) g := by
    cases evL S.c ms ρ gs <;> rfl
  rw [e0] at q
  refine tL.bind sl w q fun ds g1 G1 H1 vs x1 w1 sl1 r1 q1 => ?_
  have r2 : Reps S.K S.a G1 (ds ++ [d]) (vs ++ [v]) := r1.append (Reps.cons (g.hK ▸ h7 S.a G1) Reps.nil)
  have hl : (vs ++ [v]).length = n := by
    rw [r2.length]
    by_cases hl : (ds ++ [d]).length = n
    · exact hl
    · rw [g.tab.ar i x n _ g1 hn hl] at q1
      exact q1.elim
  refine ⟨hl, S.a, G1, g1, _, (g.cold hc).2, w1, g.hK ▸ r2, ?_⟩
  rw [g.hK, ← g.hX]
  unfold Out
  revert q1
  cases S.c i (ds ++ [d]) g1 with
  | ok d g2 => exact id
  | ex _ _ => exact id
  | no => exact id
/-! ### dicts of the module, texts, sets -/
theorem TC.dic_at {x : Str} {kvs : List (Str × Str)} (h : c.dic x = some kvs) : c.isG x = true ∧ (x == ("__debug__" : Str)) = false ∧ c.dcs.lookup x = some kvs := by
  unfold TC.dic at h
  split at h
  · rename_i hc; exact ⟨hc.1, hc.2, h⟩
  · cases h
theorem snd_dget (g : GX X c S k) {x : Str} {kvs : List (Str × Str)} {b : Expr} {mb : E} {p pos : Pos} (hx : c.dic x = some kvs) (hs : PlainIx b) (hb : PE X b (tE S mb)) : PE X (.Subscript (.Name x p) b pos) (tE S (.dget kvs mb)) := by
  obtain ⟨h1, h2, h3⟩ := TC.dic_at hx
  obtain ⟨a, es, n, e1, kd, look⟩ := g.tab.dc x kvs h3
  refine pe_weak (pe_ix ix_kdict (pe_glob (v := .ref a) (g.gl h1) e1 rfl h2) hb hs) fun σ H Q ⟨ρ, G, gs, sl, w, q⟩ => ?_
  unfold ev at q
  refine tE.bind sl w q fun d1 g1 G1 H1 v1 x1 w1 sl1 r1 q1 => ?_
  split at q1
  · rename_i z
    obtain ⟨y, hy, k2⟩ := Res.of w1 q1
    obtain ⟨v, hv, rfl⟩ := Option.map_eq_some_iff.mp hy
    obtain ⟨t, ht⟩ := (look z).1 v hv
    have e : v1 = .str z := by unfold Rep at r1; exact r1
    exact ⟨a, z, .str v, rfl, e, ⟨es, n, .str v t, kd.at_, kd.lit, ht, t, rfl⟩, k2 G1 H1 Ext.refl w1 _ (by unfold Rep; rfl)⟩
  · exact q1.elim
theorem snd_dmemR {d : Addr} {kvs : List (Str × Str)} {K : PySem.W.Frag} {neg : Bool} {ma : E} (look : ∀ z, (∀ v, kvs.lookup z = some v → ∃ t, PySem.W.nsIn K d z = some (some (.str v t))) ∧ (kvs.lookup z = none → PySem.W.nsIn K d z = some none)) {σ : St} {H : Hp} {Q : VK}
    (h : tE S (.dmem neg kvs ma) σ H Q) : tE S ma σ H fun x H1 => ∃ (z : Str) (r : Option Value), x = .str z ∧ PySem.W.nsIn K d z = some r ∧ Q (.bl (neg != r.isSome)) H1 := by
  obtain ⟨ρ, G, gs, sl, w, q⟩ := h
  unfold ev at q
  refine tE.bind sl w q fun d1 g1 G1 H1 v1 x1 w1 sl1 r1 q1 => ?_
  split at q1
  · rename_i z
    have e : v1 = .str z := by unfold Rep at r1; exact r1
    have k2 := Res.here w1 q1
    cases hz : kvs.lookup z with
    | none => exact ⟨z, none, e, (look z).2 hz, k2 _ (by rw [hz]; unfold Rep; rfl)⟩
    | some v =>
      obtain ⟨t, ht⟩ := (look z).1 v hz
      exact ⟨z, _, e, ht, k2 _ (by rw [hz]; unfold Rep; rfl)⟩
  · exact q1.elim
theorem dmem_bl {neg : Bool} {kvs : List (Str × Str)} {ma : E} : ∀ ρ g d g', ev S.c (.dmem neg kvs ma) ρ g = .ok d g' → ∃ b, d = .bl b := fun ρ g d g' h => by
  unfold ev at h
  cases e1 : ev S.c ma ρ g with
  | no => rw [e1] at h; cases h
  | ex _ _ => rw [e1] at h; cases h
  | ok d1 g1 =>
    rw [e1, R.bind_ok] at h
    split at h
    · cases h; exact ⟨_, rfl⟩
    · cases h
theorem snd_dmem (g : GX X c S k) {x : Str} {kvs : List (Str × Str)} {a : Expr} {ma : E} {p pos : Pos} (hx : c.dic x = some kvs) (ha : PE X a (tE S ma)) :
    (PE X (.Compare a [.In] [.Name x p] pos) (tE S (.dmem false kvs ma)) ∧ PT X (.Compare a [.In] [.Name x p] pos) (tT S (.dmem false kvs ma))) ∧
    (PE X (.Compare a [.NotIn] [.Name x p] pos) (tE S (.dmem true kvs ma)) ∧ PT X (.Compare a [.NotIn] [.Name x p] pos) (tT S (.dmem true kvs ma))) := by
  obtain ⟨h1, h2, h3⟩ := TC.dic_at hx
  obtain ⟨d, es, n, e1, kd, look⟩ := g.tab.dc x kvs h3
  have hb : PE X (.Name x p) (tC (.ref d)) := pe_glob (v := .ref d) (g.gl h1) e1 rfl h2
  refine ⟨⟨pe_weak (pe_cmpR (op_in_kd kd) ha hb rfl) fun σ H Q h => ?_, pt_weak (pt_cmpR (op_in_kd kd) ha hb rfl) fun σ H Q h => ?_⟩, ⟨pe_weak (pe_cmpR (op_notIn_kd kd) ha hb rfl) fun σ H Q h => ?_, pt_weak (pt_cmpR (op_notIn_kd kd) ha hb rfl) fun σ H Q h => ?_⟩⟩
  · obtain ⟨ρ, G, gs, sl, w, q⟩ := snd_dmemR look h
    exact ⟨ρ, G, gs, sl, w, q.mono fun d1 g1 G1 H1 x1 w1 k2 v rv => by
      obtain ⟨z, r, e, e2, q2⟩ := k2 v rv
      refine ⟨z, r, e, rfl, e2, ?_⟩
      simpa using q2⟩
  · obtain ⟨ρ, G, gs, sl, w, q⟩ := snd_dmemR look (tT.toBl (fun i => by simp) dmem_bl h)
    exact ⟨ρ, G, gs, sl, w, q.mono fun d1 g1 G1 H1 x1 w1 k2 v rv => by
      obtain ⟨z, r, e, e2, q2⟩ := k2 v rv
      refine ⟨z, r, e, rfl, e2, ?_⟩
      simpa using q2⟩
  · obtain ⟨ρ, G, gs, sl, w, q⟩ := snd_dmemR look h
    exact ⟨ρ, G, gs, sl, w, q.mono fun d1 g1 G1 H1 x1 w1 k2 v rv => by
      obtain ⟨z, r, e, e2, q2⟩ := k2 v rv
      refine ⟨z, r, e, rfl, e2, ?_⟩
      simpa using q2⟩
  · obtain ⟨ρ, G, gs, sl, w, q⟩ := snd_dmemR look (tT.toBl (fun i => by simp) dmem_bl h)
    exact ⟨ρ, G, gs, sl, w, q.mono fun d1 g1 G1 H1 x1 w1 k2 v rv => by
      obtain ⟨z, r, e, e2, q2⟩ := k2 v rv
      refine ⟨z, r, e, rfl, e2, ?_⟩
      simpa using q2⟩
theorem snd_upper {a : Expr} {ma : E} {apos pos : Pos} (hb : ∀ env, attributeBase a "upper" env (eval a env) = eval a env) (hl : (apos.endLine == pos.line) = true) (ha : PE X a (tE S ma)) :
    PE X (.Call (.Attribute a "upper" apos) [] [] pos) (tE S (.upper ma)) := pe_weak (pe_upper ha (hb _) hl) fun σ H Q ⟨ρ, G, gs, sl, w, q⟩ => by
  unfold ev at q
  refine tE.bind sl w q fun d1 g1 G1 H1 v1 x1 w1 sl1 r1 q1 => ?_
  split at q1
  · rename_i z
    have e : v1 = .str z := by unfold Rep at r1; exact r1
    split at q1
    · rename_i hz
      exact ⟨⟨z, e⟩, z, e, rfl, hz, Res.here w1 q1 _ (by unfold Rep; rfl)⟩
    · exact q1.elim
  · exact q1.elim
theorem Reps.strs {K : PySem.W.Frag} {z : Fs} {G : Hp} : ∀ {ds : List D} {vs : List V} {ns : List Str}, Reps K z G ds vs → strsD ds = some ns → vs = ns.map V.str
  | [], _, _, h, e => by unfold Reps at h; simp [strsD] at e; subst e h; rfl
  | d :: ds, _, ns, h, e => by
    unfold Reps at h
    obtain ⟨v, r, rfl, q, t⟩ := h
    cases d with
    | str i =>
      simp only [strsD, Option.map_eq_some_iff] at e
      obtain ⟨ms, e1, rfl⟩ := e
      unfold Rep at q
      subst q
      rw [List.map_cons, Reps.strs t e1]
    | _ => simp [strsD] at e
theorem snd_join {s : Str} {ck : Nat} {cp : Pos} {e : Expr} {m : E} {apos pos : Pos} (hs : notStar e = true) (hl : (apos.endLine == pos.line) = true) (he : PE X e (tE S m)) :
    PE X (.Call (.Attribute (.Constant (.str s) ck cp) "join" apos) [e] [] pos) (tE S (.join (.lit (.str s)) m)) :=
  pe_weak (pe_join (pe_str (x := s)) he (star_cons hs _ _) (by rfl) hl) fun σ H Q ⟨ρ, G, gs, sl, w, q⟩ => by
  have e0 : ev S.c (.lit (.str s)) ρ gs = .ok (.str s) gs := by unfold ev; rfl
  unfold ev at q
  rw [e0, R.bind_ok] at q
  simp only at q
  refine ⟨⟨s, rfl⟩, tE.bind sl w q fun d1 g1 G1 H1 v1 x1 w1 sl1 r1 q1 => ?_⟩
  split at q1
  · split at q1
    · rename_i xs ys e1
      split at q1
      · rename_i hz
        unfold Rep at r1
        obtain ⟨p, vs, rfl, hq, rs⟩ := r1
        exact ⟨s, p, ys, rfl, rfl, .inl (SqL.of (by rw [← rs.strs e1]; exact w1.sub _ _ hq)), hz, Res.here w1 q1 _ (by unfold Rep; rfl)⟩
      · exact q1.elim
    · exact q1.elim
  · exact q1.elim
/-! ### the exception that is handled -/
theorem GX.handX (g : GX X c S k) (hc : c.hot = true) : ∃ (a : Addr) (j : Nat) (dd C : Addr) (oe : Obj), S.a.er = some (a, j, dd) ∧ j ∈ c.xs ∧ clsA X.K j = some C ∧ L2N.Hand X a C dd oe ∧ XfC X.K C ∧ ExcC X.K C ∧ ∀ f ∈ exFs j, PySem.W.findIn X.K (.ref C) f = some none := by
  obtain ⟨p, j, dd, e1, ⟨m, ⟨C, e2, e3⟩, e4⟩, e5, e6⟩ := g.hand hc
  rw [g.hX] at m
  obtain ⟨C', f1, f2, f3, f4, f5⟩ := (g.tab.cl.at_ j m).at_
  rw [← g.hK] at e2
  rw [e2] at f1
  cases f1
  exact ⟨p.1, j, dd, C, p.2, e1, m, e2, ⟨e6, e3.zc, e4⟩, f3, f4, f5⟩
theorem TC.cls_nm {x : Str} {j : Nat} (h : c.cls x = some j) : c.isG x = true ∧ clsNm j = x ∧ j ∈ 100 :: 101 :: c.xs := by
  unfold TC.cls at h
  split at h
  · rename_i hg
    refine ⟨hg, ?_⟩
    split at h
    · rename_i e
      cases h
      exact ⟨e.symm, List.mem_cons_self⟩
    · split at h
      · rename_i e
        cases h
        exact ⟨e.symm, List.mem_cons_of_mem _ List.mem_cons_self⟩
      · split at h
        · rename_i q hq
          split at h
          · rename_i hm
            cases h
            obtain ⟨hi, e, _⟩ := List.findIdx?_eq_some_iff_getElem.mp hq
            have e : exCls[j].1 = x := by simpa using e
            have hj : j < 13 := hi
            refine ⟨?_, List.mem_cons_of_mem _ (List.mem_cons_of_mem _ (by simpa using hm))⟩
            unfold clsNm
            rw [if_neg (by omega), if_neg (by omega)]
            unfold exNm
            rw [List.getElem?_eq_getElem hi]
            exact e
          · cases h
        · cases h
  · cases h
theorem snd_clsNm (g : GX X c S k) {x : Str} {j : Nat} {p : Pos} (h : c.cls x = some j) : ∃ (u : V) (cv : Value), clsV X.K j = some cv ∧ (∀ z, RelV u z → z = cv) ∧ PE X (.Name x p) (tC u) := by
  obtain ⟨h1, h2, h3⟩ := TC.cls_nm h
  obtain ⟨cv, q1, q2, q3⟩ := g.tab.cl.val j h3
  rw [h2] at q2 q3
  rcases q2 with ⟨C, rfl, q2⟩ | ⟨rfl, q2, rfl⟩
  · exact ⟨.ref C, _, q1, fun z r => r, L2N.pe_glb (g.gl h1) q2 q3⟩
  · subst h2
    exact ⟨.ty "ValueError", _, q1, fun z r => r, pe_bltn (g.gl h1) q2 (by decide +kernel) rfl (by decide +kernel) q3⟩
theorem snd_isx (g : GX X c S k) (hc : c.hot = true) {a : Expr} {x : Str} {j : Nat} {ma : E} {p p2 pos : Pos} (hf : c.isG "isinstance" = true) (hx : c.cls x = some j) (hs : notStar a = true) (ha : PE X a (tE S ma)) :
    PE X (.Call (.Name "isinstance" p) [a, .Name x p2] [] pos) (tE S (.isx ma j)) := by
  obtain ⟨a0, j0, dd, C, oe, e1, e2, e3, hd, xf, ec, hno⟩ := g.handX hc
  obtain ⟨u, cv, k1, k2, k3⟩ := snd_clsNm (p := p2) g hx
  obtain ⟨_, _, h3⟩ := TC.cls_nm hx
  refine pe_weak (pe_callB (L2N.call_isX ec hd) (g.gl hf) (g.tab.bi _ (by decide +kernel)) (by decide +kernel) (pa_cons ha (pa_cons k3 pa_nil (star_cons rfl _ _)) (star_cons hs _ _)) (by decide +kernel) (by decide +kernel) (star_cons hs _ _) (star_any rfl)) fun σ H Q ⟨ρ, G, gs, sl, w, q⟩ => ?_
  unfold ev at q
  refine tE.bind sl w q fun d1 g1 G1 H1 v1 x1 w1 sl1 r1 q1 => ?_
  cases d1 with
  | exn c' fs =>
    unfold Rep at r1
    obtain ⟨a', dd', vs, f1, rfl, f2, _⟩ := r1
    rw [e1] at f1
    cases f1
    have kk := (g.tab.cl.rel j0 e2 j h3 C cv e3 k1).1
    exact ⟨u, cv, isSub j0 j, _, rfl, k2, w1.sub _ _ f2, kk, Res.here w1 q1 _ rep_bl⟩
  | _ => exact q1.elim
theorem lookup_zip : ∀ {fs : List Str} {ds : List D} {vs : List V} {f : Str} {d : D} {K : PySem.W.Frag} {z : Fs} {G : Hp}, Reps K z G ds vs → (fs.zip ds).lookup f = some d → f ∈ fs ∧ ∃ v, (fs.zip vs).lookup f = some v ∧ Rep K z G d v
  | [], _, _, _, _, _, _, _, _, e => by simp at e
  | x :: fs, [], _, _, _, _, _, _, _, e => by simp at e
  | x :: fs, d0 :: ds, _, f, d, K, z, G, h, e => by
    unfold Reps at h
    obtain ⟨v, r, rfl, q, t⟩ := h
    rw [List.zip_cons_cons, List.lookup_cons] at e ⊢
    by_cases hx : (f == x) = true
    · rw [hx] at e ⊢
      cases e
      have hx' : f = x := by simpa using hx
      subst hx'
      exact ⟨List.mem_cons_self, v, rfl, q⟩
    · have hx : (f == x) = false := by simpa using hx
      rw [hx] at e ⊢
      obtain ⟨m, v', e1, r1⟩ := lookup_zip t e
      exact ⟨List.mem_cons_of_mem _ m, v', e1, r1⟩
theorem snd_fld (g : GX X c S k) (hc : c.hot = true) {a : Expr} {f : Str} {ma : E} {pos : Pos} (hr : isRecv a = true) (ha : PE X a (tE S ma)) : PE X (.Attribute a f pos) (tE S (.fld ma f)) := by
  obtain ⟨a0, j0, dd, C, oe, e1, e2, e3, hd, xf, ec, hno⟩ := g.handX hc
  by_cases hm : f ∈ exFs j0
  · refine pe_weak (L2N.pe_fld xf (hno f hm) hd ha (recv_base hr f X.env)) fun σ H Q ⟨ρ, G, gs, sl, w, q⟩ => ?_
    unfold ev at q
    refine tE.bind sl w q fun d1 g1 G1 H1 v1 x1 w1 sl1 r1 q1 => ?_
    cases hz : fldD d1 f with
    | none => rw [hz] at q1; exact q1.elim
    | some d =>
      rw [hz] at q1
      cases d1 with
      | exn c' fs =>
        unfold Rep at r1
        obtain ⟨a', dd', vs, f1, rfl, f2, _, f3⟩ := r1
        rw [e1] at f1
        cases f1
        obtain ⟨_, v, e5, r5⟩ := lookup_zip (fs := exFs j0) f3 hz
        exact ⟨rfl, _, v, w1.sub _ _ f2, e5, Res.here w1 q1 v r5⟩
      | _ => cases hz
  · refine ⟨fun pins s σ H Q I ⟨ρ, G, gs, sl, w, q⟩ => ?_⟩
    unfold ev at q
    refine attr_of (recv_base hr f X.env) (thn (ha.run pins s σ H _ I (tE.bind sl w q fun d1 g1 G1 H1 v1 x1 w1 sl1 r1 q1 => ?_)) fun u s1 (z : EP X pins σ (fun _ _ => False) u s1) => ?_)
    · cases hz : fldD d1 f with
      | none => rw [hz] at q1; exact q1.elim
      | some d =>
        cases d1 with
        | exn c' fs =>
          unfold Rep at r1
          obtain ⟨a', dd', vs, f1, rfl, f2, _, f3⟩ := r1
          rw [e1] at f1
          cases f1
          exact absurd (lookup_zip (fs := exFs j0) f3 hz).1 hm
        | _ => cases hz
    · obtain ⟨_, _, _, _, z⟩ := z
      exact z.elim
/-! ### built-ins by name -/
def BI.name : BI → Str
  | .len => "len"
  | .tuple => "tuple"
  | .list => "list"
  | .int => "int"
  | .sum => "sum"
  | .all => "all"
  | .any => "any"
  | .max2 => "max"
  | .min2 => "min"
  | .abs => "abs"
  | .str => "str"
  | .sorted => "sorted"
  | .max3 => "max"
  | .maxL => "max"
  | .minL => "min"
theorem biOf_row {f : Str} {n : Nat} {b : BI} (h : biOf f n = some b) : ∃ r ∈ biTab, r.1 = f ∧ r.2.1 = n ∧ r.2.2 = b := by
  unfold biOf at h
  cases q : biTab.find? (fun r => r.1 == f && r.2.1 == n) with
  | none => rw [q] at h; cases h
  | some r =>
    rw [q] at h
    have hp := List.find?_some q
    rw [Bool.and_eq_true] at hp
    exact ⟨r, List.mem_of_find?_eq_some q, by simpa using hp.1, by simpa using hp.2, by cases h; rfl⟩
theorem biTab_name : ∀ r ∈ biTab, r.1 = r.2.2.name ∧ r.2.1 ≠ 0 := by
  intro r hr
  simp only [biTab, List.mem_cons, List.not_mem_nil, or_false] at hr
  rcases hr with h | h | h | h | h | h | h | h | h | h | h | h | h | h | h <;> subst h <;> exact ⟨rfl, by decide⟩
theorem biOf_name {f : Str} {n : Nat} {b : BI} (h : biOf f n = some b) : f = b.name := by
  obtain ⟨r, hr, rfl, rfl, rfl⟩ := biOf_row h
  exact (biTab_name r hr).1
theorem biOf_pos {f : Str} {n : Nat} {b : BI} (h : biOf f n = some b) : n ≠ 0 := by
  obtain ⟨r, hr, rfl, rfl, rfl⟩ := biOf_row h
  exact (biTab_name r hr).2
theorem BI.blt (b : BI) : b.name ∈ blts ∧ bootBuiltins b.name = some b.val ∧ b.name ≠ "__name__" ∧ (b.name == ("__debug__" : Str)) = false := by
  cases b <;> exact ⟨by decide +kernel, by decide +kernel, by decide +kernel, by decide +kernel⟩
theorem snd_bi (g : GX X c S k) {x : Str} {b : BI} {e : Expr} {es : List Expr} {ms : List E} {p pos : Pos} (hg : c.isG x = true) (hb : x = b.name) (hh : c.hot = true → biHot b = true) (hs : (e :: es).all notStar = true) (ha : PA X (e :: es) (tLB S ms)) :
    PE X (.Call (.Name x p) (e :: es) [] pos) (tF S (.bi b ms)) := by
  subst hb
  obtain ⟨b1, b2, b3, b4⟩ := b.blt
  have hs' : notStar e = true ∧ es.all notStar = true := by rw [List.all_cons, Bool.and_eq_true] at hs; exact hs
  have main : ∀ σ H Q, tF S (.bi b ms) σ H Q → tCB (rBiM S b) (tLB S ms) σ H Q := fun σ H Q ⟨ρ, G, gs, sl, w, q⟩ => by
    unfold ev at q
    refine tLB.bind sl w q fun ds g1 G1 H1 vs x1 w1 sl1 r1 q1 => ?_
    obtain ⟨z, hz, k2⟩ := Res.of w1 q1
    exact ⟨ds, g1, G1, z, w1, r1, hz, fun G' H' v x' w' rv => k2 G' H' x' w' v (rv.back x1.dm)⟩
  have hm := g.tab.bi _ b1
  have hc := bi_mi (X := X) (S := S) g.hK b fun z => g.calm (by
    cases q : c.hot with
    | false => rfl
    | true => rw [hh q] at z; cases z)
  cases b with
  | tuple => exact pe_weak (pe_callTy hc (g.gl hg) hm b2 ha b3 b4 (star_cons hs'.1 es X.env) (star_any hs'.2)) main
  | list => exact pe_weak (pe_callTy hc (g.gl hg) hm b2 ha b3 b4 (star_cons hs'.1 es X.env) (star_any hs'.2)) main
  | str => exact pe_weak (pe_callTy hc (g.gl hg) hm b2 ha b3 b4 (star_cons hs'.1 es X.env) (star_any hs'.2)) main
  | int => exact pe_weak (pe_callTy hc (g.gl hg) hm b2 ha b3 b4 (star_cons hs'.1 es X.env) (star_any hs'.2)) main
  | _ => exact pe_weak (pe_callB hc (g.gl hg) hm b2 ha b3 b4 (star_cons hs'.1 es X.env) (star_any hs'.2)) main
end
end Mi


set_option Elab.async false
set_option maxRecDepth 100000
set_option maxHeartbeats 2000000
/-! Mi8: isinstance; what is walked; targets; comprehensions. -/
namespace Mi
open PySem L2
section
variable {X : Cx} {c : TC} {S : Sx} {k : Nat}
/-! ### isinstance -/
def Ty.nm : Ty → String
  | .int => "int"
  | .bool => "bool"
  | .str => "str"
  | .list => "list"
  | .tuple => "tuple"
def tyStr : D → String
  | .non => "NoneType"
  | .bl _ => "bool"
  | .int _ => "int"
  | .str _ => "str"
  | .tup _ => "tuple"
  | .lst _ => "list"
  | .st => "list"
  | .sub _ => "list"
  | .scr _ => "list"
  | .exn _ _ => "list"
def plainD : D → Bool
  | .st => false
  | .sub _ => false
  | .scr _ => false
  | .exn _ _ => false
  | _ => true
def okTy (d : D) (t : Ty) : Bool := match isiTy d with
  | some u => tyOk u t
  | none => false
theorem kit_one {K : PySem.W.Frag} (d : D) (hd : plainD d = true) (t : Ty) : PySem.W.kitOne K (.type (tyStr d)) (.type t.nm) = some (okTy d t) := by
  cases d with
  | st => cases hd
  | sub k => cases hd
  | scr k => cases hd
  | exn k fs => cases hd
  | _ => cases t <;> kernel_rfl
theorem kit_any {K : PySem.W.Frag} (d : D) (hd : plainD d = true) : ∀ ts : List Ty, PySem.W.kitAny K (.type (tyStr d)) (ts.map fun t => .type t.nm) = some (ts.any (okTy d))
  | [] => rfl
  | t :: ts => by
    rw [List.map_cons, List.any_cons]
    unfold PySem.W.kitAny
    rw [kit_one d hd t]
    cases okTy d t with
    | true => rfl
    | false => exact kit_any d hd ts
theorem isiD_eq {d : D} {ts : List Ty} {b : Bool} (h : isiD d ts = some b) : plainD d = true ∧ b = ts.any (okTy d) := by
  cases d with
  | non =>
    simp only [isiD, Option.some.injEq] at h
    subst h
    refine ⟨rfl, ?_⟩
    induction ts with
    | nil => rfl
    | cons t ts ih => rw [List.any_cons, ← ih]; rfl
  | st => simp [isiD] at h
  | sub k => simp [isiD] at h
  | scr k => simp [isiD] at h
  | exn k fs => simp [isiD] at h
  | _ =>
    simp only [isiD, isiTy, Option.map_some, Option.some.injEq] at h
    exact ⟨rfl, h.symm⟩
theorem repB_ty {g : Gs} {G H : Hp} {d : D} {v : V} (w : World S.a g G H) (h : RepB S G H d v) (hd : plainD d = true) : TyX S.K H v (.type (tyStr d)) := by
  cases d with
  | non => cases repB_non h; exact .base .non
  | bl b => cases repB_bl h; exact .base (.bl _)
  | int b => cases repB_int h; exact .base (.int _)
  | str b => cases repB_str h; exact .base (.str _)
  | tup b =>
    obtain ⟨p, vs, rfl, q, _⟩ := repB_tup h
    rcases q with (q | ⟨o, q⟩) | ⟨o, its, n, e1, e2, _⟩
    · exact .base (.tup (w.sub _ _ q))
    · exact .fTuple (w.sub _ _ q)
    · exact .kTuple e1 e2
  | lst b =>
    obtain ⟨p, vs, rfl, q, _⟩ := repB_lst h
    exact .base (.lst q)
  | st => cases hd
  | sub k => cases hd
  | scr k => cases hd
  | exn k fs => cases hd
theorem trTy_name {x : Str} {t : Ty} (h : trTy x = some t) : x ∈ blts ∧ bootBuiltins x = some (.type t.nm) ∧ x ≠ "__name__" ∧ (x == ("__debug__" : Str)) = false := by
  unfold trTy at h
  repeat' split at h
  all_goals first | (cases h; done) | (cases h; rename_i e; subst e; exact ⟨by decide +kernel, by decide +kernel, by decide +kernel, by decide +kernel⟩)
theorem snd_tyname (g : GX X c S k) {x : Str} {t : Ty} {pos : Pos} (hg : c.isG x = true) (ht : trTy x = some t) : PE X (.Name x pos) (tC (.ty t.nm)) := by
  obtain ⟨h1, h2, h3, h4⟩ := trTy_name ht
  exact pe_bltn (g.gl hg) (g.tab.bi x h1) h2 rfl h3 h4
def tTys (ts : List Ty) : TA := fun _ H Q => Q (ts.map fun t => V.ty t.nm) H
theorem snd_tys (g : GX X c S k) : ∀ {es : List Expr} {ts : List Ty}, trTys c es = some ts → PA X es (tTys ts)
  | [], ts, h => by
    unfold trTys at h
    cases h
    exact pa_nil
  | e :: es, ts, h => by
    unfold trTys at h
    split at h
    · rename_i e1
      cases e1
    · rename_i x _ r e1
      cases e1
      split at h
      · rename_i hg
        split at h
        · rename_i t ts' h1 h2
          cases h
          exact pa_weak (pa_cons (snd_tyname g hg h1) (snd_tys g h2) (star_cons rfl _ _)) fun σ H Q q => q
        · cases h
      · cases h
    · cases h
theorem cls_all : ∀ ts : List Ty, Paired ClsV (ts.map fun t => V.ty t.nm) (ts.map fun t => Value.type t.nm)
  | [] => .nil
  | t :: ts => .cons (.ty _) (cls_all ts)
theorem isi_blt : ("isinstance" : Str) ∈ blts ∧ bootBuiltins "isinstance" = some (.builtin "isinstance") ∧ ("isinstance" : Str) ≠ "__name__" ∧ (("isinstance" : Str) == ("__debug__" : Str)) = false :=
  ⟨by decide +kernel, by decide +kernel, by decide +kernel, by decide +kernel⟩
theorem snd_isi1 (g : GX X c S k) {a : Expr} {x : Str} {t : Ty} {ma : E} {p p2 pos : Pos} (hf : c.isG "isinstance" = true) (hg : c.isG x = true) (ht : trTy x = some t) (hs : notStar a = true) (ha : PE X a (tB S ma)) :
    PE X (.Call (.Name "isinstance" p) [a, .Name x p2] [] pos) (tE S (.isi ma [t] false)) := by
  obtain ⟨i1, i2, i3, i4⟩ := isi_blt
  refine pe_weak (pe_callB call_isi (g.gl hf) (g.tab.bi _ i1) i2 (pa_cons ha (pa_cons (snd_tyname g hg ht) pa_nil (star_cons rfl _ _)) (star_cons hs _ _)) i3 i4 (star_cons hs _ _) (star_any rfl)) fun σ H Q ⟨ρ, G, gs, sl, w, q⟩ => ?_
  unfold ev at q
  refine tB.bind sl w q fun d1 g1 G1 H1 v1 x1 w1 sl1 r1 q1 => ?_
  cases e1 : isiD d1 [t] with
  | none => rw [e1] at q1; exact q1.elim
  | some b =>
    rw [e1] at q1
    obtain ⟨hd, eb⟩ := isiD_eq e1
    have k1 := kit_one (K := X.K) d1 hd t
    have eb' : okTy d1 t = b := by rw [eb, List.any_cons, List.any_nil, Bool.or_false]
    rw [eb'] at k1
    exact ⟨_, _, _, _, b, rfl, .ty _, g.hK ▸ repB_ty w1 r1 hd, k1, Res.here w1 q1 _ rep_bl⟩
theorem snd_isiT (g : GX X c S k) {a : Expr} {tys : List Expr} {ts : List Ty} {ma : E} {p p2 pos : Pos} {kk : Nat} (hf : c.isG "isinstance" = true) (ht : trTys c tys = some ts) (hz : ts.length ≤ sizeLine) (hs : notStar a = true) (ha : PE X a (tB S ma)) :
    PE X (.Call (.Name "isinstance" p) [a, .Tuple tys kk p2] [] pos) (tE S (.isi ma ts true)) := by
  obtain ⟨i1, i2, i3, i4⟩ := isi_blt
  refine pe_weak (pe_callB call_isiT (g.gl hf) (g.tab.bi _ i1) i2 (pa_cons ha (pa_cons (pe_tup (snd_tys g ht)) pa_nil (star_cons rfl _ _)) (star_cons hs _ _)) i3 i4 (star_cons hs _ _) (star_any rfl)) fun σ H Q ⟨ρ, G, gs, sl, w, q⟩ => ?_
  unfold ev at q
  refine tB.bind sl w q fun d1 g1 G1 H1 v1 x1 w1 sl1 r1 q1 => ?_
  refine ⟨by rw [List.length_map]; exact hz, fun tp hp => ?_⟩
  cases e1 : isiD d1 ts with
  | none => rw [e1] at q1; exact q1.elim
  | some b =>
    rw [e1] at q1
    obtain ⟨hd, eb⟩ := isiD_eq e1
    obtain ⟨x2, w2⟩ := Ext.fresh (o := .tup (ts.map fun t => V.ty t.nm)) w1 hp
    exact ⟨_, tp, _, _, _, b, rfl, upd_same, cls_all ts, g.hK ▸ repB_ty w2 (r1.ext x2) hd, by rw [kit_any d1 hd ts, eb], q1 _ _ x2 w2 _ rep_bl⟩
/-! ### what is walked -/
structure WalkD (S : Sx) (Gx : Hp) (cond : Hp → Hp → Prop) (ds : List D) (J : It) : Prop where
  goes : ∀ i G H, i < ds.length → cond G H → J.go i H
  stops : ∀ G H, cond G H → J.stop ds.length H
  yields : ∀ i H x H' Gc, i < ds.length → cond Gc H → J.yld i H x H' → ∃ d, ds[i]? = some d ∧ ∀ G g, World S.a g G H → Same Gx G → ∃ G', Ext S.a G H G' H' ∧ World S.a g G' H' ∧ Rep S.K S.a G' d x
/-- walked while only new things come -/
def tI (S : Sx) (m : E) : TI := fun σ H R => ∃ ρ G g, Slots S ρ σ G H ∧ World S.a g G H ∧ Res S σ G H (evI S.c m ρ g) fun ds _ G1 H1 => ∀ J, WalkD S G1 (Ext S.a G1 H1) ds J → R J H1
/-- walked while what is known stays -/
def tJ (S : Sx) (m : E) : TI := fun σ H R => ∃ ρ G g, Slots S ρ σ G H ∧ World S.a g G H ∧ Res S σ G H (evJ S.c m ρ g) fun ds _ G1 H1 => ∀ J, WalkD S G1 (fun G H => Same G1 G ∧ Same G H) ds J → R J H1
theorem walkL {Gx : Hp} {cond : Hp → Hp → Prop} {p : Addr} {ds : List D} {vs : List V} (r : Reps S.K S.a Gx ds vs) (hc : ∀ G H, cond G H → SqL S.K H p vs) : WalkD S Gx cond ds (Itl S.K p) := by
  refine ⟨fun i G H hi h => ?_, fun G H h => ?_, fun i H x H' Gc hi h y => ?_⟩
  · have hi' : i < vs.length := by rw [r.length]; exact hi
    exact ⟨vs, vs[i], hc G H h, by simp [hi']⟩
  · exact ⟨vs, hc G H h, by rw [r.length]; exact Nat.le_refl _⟩
  · obtain ⟨e, y⟩ := y
    subst e
    obtain ⟨d, e1, rd⟩ := r.getV (y vs (hc _ _ h))
    exact ⟨d, e1, fun G g w s => ⟨G, Ext.refl, w, rd.mono s⟩⟩
theorem walkT {Gx : Hp} {cond : Hp → Hp → Prop} {p : Addr} {ds : List D} {vs : List V} (r : Reps S.K S.a Gx ds vs) (hc : ∀ G H, cond G H → SqT S.K H p vs) : WalkD S Gx cond ds (Itt S.K p) := by
  refine ⟨fun i G H hi h => ?_, fun G H h => ?_, fun i H x H' Gc hi h y => ?_⟩
  · have hi' : i < vs.length := by rw [r.length]; exact hi
    exact ⟨vs, vs[i], hc G H h, by simp [hi']⟩
  · exact ⟨vs, hc G H h, by rw [r.length]; exact Nat.le_refl _⟩
  · obtain ⟨e, y⟩ := y
    subst e
    obtain ⟨d, e1, rd⟩ := r.getV (y vs (hc _ _ h))
    exact ⟨d, e1, fun G g w s => ⟨G, Ext.refl, w, rd.mono s⟩⟩
theorem walkR {Gx : Hp} {cond : Hp → Hp → Prop} {lo : Int} {n : Nat} : WalkD S Gx cond (rangeD lo n) (Itr lo n) := by
  have hl : (rangeD lo n).length = n := by unfold rangeD; simp
  refine ⟨fun i G H hi _ => by rw [hl] at hi; exact hi, fun G H _ => by rw [hl]; exact Nat.le_refl _, fun i H x H' Gc hi _ y => ?_⟩
  obtain ⟨e, e2⟩ := y
  subst e e2
  rw [hl] at hi
  refine ⟨.int (lo + i), by unfold rangeD; simp [hi], fun G g w s => ⟨G, Ext.refl, w, by unfold Rep; rfl⟩⟩
theorem itemsD_eq {d : D} {xs : List D} (h : itemsD d = some xs) : d = .tup xs ∨ d = .lst xs ∨ ∃ ns, d = .scr ns ∧ xs = ns.map .int := by
  cases d <;> simp [itemsD] at h
  · subst h; exact .inl rfl
  · subst h; exact .inr (.inl rfl)
  · subst h; exact .inr (.inr ⟨_, rfl, rfl⟩)
/-- a list or a tuple: two rules, one of which serves -/
theorem pi_seq {tg l : Expr} {tl : TE} (hl : PE X l tl) : PI X tg l (fun σ H R => tl σ H fun x H1 => (∃ a, x = .ref a ∧ (∃ xs, SqL X.K H1 a xs) ∧ R (Itl X.K a) H1) ∨ (∃ a, x = .ref a ∧ (∃ xs, SqT X.K H1 a xs) ∧ R (Itt X.K a) H1)) := by
  refine ⟨fun pins s σ H R I h => ?_⟩
  refine thn (hl.run pins s σ H _ I h) fun v s1 ⟨x, H1, I1, r1, q1⟩ => ?_
  rcases q1 with ⟨a, e, ⟨xs, hq⟩, q⟩ | ⟨a, e, ⟨xs, hq⟩, q⟩
  · subst e
    cases r1
    obtain ⟨its, rv, p, hz⟩ := I1.list hq
    refine wpAny_pyIter_list p.isList ?_
    refine ⟨s1.heap.objs.size, [s1.heap.objs.size], _, _, H1, rfl, I1.kept (t' := s1.toks) fun b o e => Heap.get?_push_of_some _ e, turn_list a _, ⟨_, Heap.get?_push_size _ rfl, rfl, rfl⟩, fun b hb => ?_, q⟩
    have e : b = s1.heap.objs.size := by simpa using hb
    subst e
    exact I1.fpOk (Nat.le_refl _) (I1.hok.fresh (Nat.le_refl _))
  · subst e
    cases r1
    obtain ⟨its, rv, p, hz⟩ := I1.tuple hq
    refine wpAny_pyIter_tuple (show s1.heap.IsTuple a its.toArray from p) ?_
    refine ⟨s1.heap.objs.size, [s1.heap.objs.size], _, _, H1, rfl, I1.kept (t' := s1.toks) fun b o e => Heap.get?_push_of_some _ e, turn_tuple a _, ⟨_, Heap.get?_push_size _ rfl, rfl, rfl⟩, fun b hb => ?_, q⟩
    have e : b = s1.heap.objs.size := by simpa using hb
    subst e
    exact I1.fpOk (Nat.le_refl _) (I1.hok.fresh (Nat.le_refl _))
theorem snd_iseq (g : GX X c S k) {tg l : Expr} {m : E} (hl : PE X l (tB S m)) : PI X tg l (tI S (.iseq m)) := pi_weak (pi_seq hl) fun σ H R ⟨ρ, G, gs, sl, w, q⟩ => by
  unfold evI at q
  refine tB.bind sl w q fun d1 g1 G1 H1 v1 x1 w1 sl1 r1 q1 => ?_
  obtain ⟨xs, e1, k1⟩ := Res.of w1 q1
  rcases itemsD_eq e1 with e1 | e1 | ⟨ns, e1, e2⟩
  · subst e1
    obtain ⟨p, vs, rfl, q2, rs⟩ := repB_tup r1
    refine .inr ⟨p, rfl, ⟨vs, g.hK ▸ SqT.mono w1.sub q2⟩, ?_⟩
    rw [g.hK]
    exact k1 G1 H1 Ext.refl w1 _ (walkT rs fun G' H' x => by
      rcases q2 with (q2 | ⟨o, q2⟩) | q2
      · exact .inl (.inl (x.kp _ _ (w1.sub _ _ q2) (w1.offH q2)))
      · exact .inl (.inr ⟨o, x.kp _ _ (w1.sub _ _ q2) (w1.offH q2)⟩)
      · exact .inr q2)
  · subst e1
    obtain ⟨p, vs, rfl, q2, n, rs⟩ := repB_lst r1
    refine .inl ⟨p, rfl, ⟨vs, SqL.of q2⟩, ?_⟩
    rw [g.hK]
    exact k1 G1 H1 Ext.refl w1 _ (walkL rs fun G' H' x => SqL.of (x.kp _ _ q2 n))
  · subst e1 e2
    obtain ⟨p, rfl, q2⟩ := repB_scr r1
    refine .inl ⟨p, rfl, ⟨_, g.hK ▸ SqL.mono w1.sub q2⟩, ?_⟩
    rw [g.hK]
    exact k1 G1 H1 Ext.refl w1 _ (walkL (Reps.ofInts _) fun G' H' x => by
      rcases q2 with (q2 | ⟨o, q2⟩) | q2
      · exact .inl (.inl (x.kp _ _ (w1.sub _ _ q2) (w1.offH q2)))
      · exact .inl (.inr ⟨o, x.kp _ _ (w1.sub _ _ q2) (w1.offH q2)⟩)
      · exact .inr q2)
theorem snd_jseq (g : GX X c S k) {tg l : Expr} {m : E} (hl : PE X l (tE S m)) : PI X tg l (tJ S (.iseq m)) := pi_weak (pi_seq hl) fun σ H R ⟨ρ, G, gs, sl, w, q⟩ => by
  unfold evJ at q
  refine tE.bind sl w q fun d1 g1 G1 H1 v1 x1 w1 sl1 r1 q1 => ?_
  obtain ⟨xs, e1, k1⟩ := Res.of w1 q1
  rcases itemsD_eq e1 with e1 | e1 | ⟨ns, e1, e2⟩
  · subst e1
    unfold Rep at r1
    obtain ⟨p, vs, rfl, q2, rs⟩ := r1
    refine .inr ⟨p, rfl, ⟨vs, g.hK ▸ SqT.mono w1.sub q2⟩, ?_⟩
    rw [g.hK]
    exact k1 G1 H1 Ext.refl w1 _ (walkT rs fun G' H' x => SqT.mono (x.1.trans x.2) q2)
  · subst e1
    unfold Rep at r1
    obtain ⟨p, vs, rfl, q2, rs⟩ := r1
    refine .inl ⟨p, rfl, ⟨vs, SqL.of (w1.sub _ _ q2)⟩, ?_⟩
    rw [g.hK]
    exact k1 G1 H1 Ext.refl w1 _ (walkL rs fun G' H' x => SqL.of (x.2 _ _ (x.1 _ _ q2)))
  · subst e1 e2
    unfold Rep at r1
    obtain ⟨p, rfl, q2⟩ := r1
    refine .inl ⟨p, rfl, ⟨_, g.hK ▸ SqL.mono w1.sub q2⟩, ?_⟩
    rw [g.hK]
    exact k1 G1 H1 Ext.refl w1 _ (walkL (Reps.ofInts _) fun G' H' x => SqL.mono (x.1.trans x.2) q2)
theorem fits_iff {i : Int} (h : fits i = true) : -(2 ^ 62) ≤ i ∧ i < 2 ^ 62 := by unfold fits at h; exact of_decide_eq_true h
theorem range_blt : ("range" : Str) ∈ blts := by decide +kernel
theorem rng1_core {a : Expr} {ma : E} {p pos : Pos} {tg : Expr} (g : GX X c S k) (hg : c.isG "range" = true) (hs : notStar a = true) (ha : PE X a (tE S ma)) (t : TI)
    (ht : ∀ σ H R, t σ H R → ∃ ρ G gs, Slots S ρ σ G H ∧ World S.a gs G H ∧ Res S σ G H (evI S.c (.irng1 ma) ρ gs) fun ds _ G1 H1 => ∀ n, ds = rangeD 0 n → R (Itr 0 n) H1) : PI X tg (.Call (.Name "range" p) [a] [] pos) t :=
  pi_weak (pi_range1 (g.gl hg) (g.tab.bi _ range_blt) (pa_cons ha pa_nil (star_cons hs _ _)) (star_cons hs _ _)) fun σ H R h => by
  obtain ⟨ρ, G, gs, sl, w, q⟩ := ht σ H R h
  unfold evI at q
  refine tE.bind sl w q fun d1 g1 G1 H1 v1 x1 w1 sl1 r1 q1 => ?_
  split at q1
  · split at q1
    · rename_i j hf
      cases r1.inj_int
      have f := fits_iff hf
      exact ⟨j, rfl, f.1, f.2, Res.here w1 q1 _ rfl⟩
    · exact q1.elim
  · exact q1.elim
theorem rng2_core {a b : Expr} {ma mb : E} {p pos : Pos} {tg : Expr} (g : GX X c S k) (hg : c.isG "range" = true) (hs : notStar a = true) (hs2 : notStar b = true) (ha : PE X a (tE S ma)) (hb : PE X b (tE S mb)) (t : TI)
    (ht : ∀ σ H R, t σ H R → ∃ ρ G gs, Slots S ρ σ G H ∧ World S.a gs G H ∧ Res S σ G H (evI S.c (.irng2 ma mb) ρ gs) fun ds _ G1 H1 => ∀ lo n, ds = rangeD lo n → R (Itr lo n) H1) : PI X tg (.Call (.Name "range" p) [a, b] [] pos) t :=
  pi_weak (pi_range2 (g.gl hg) (g.tab.bi _ range_blt) (pa_cons ha (pa_cons hb pa_nil (star_cons hs2 _ _)) (star_cons hs _ _)) (by rw [star_cons hs, star_cons hs2]; rfl) (star_cons hs2 _ _)) fun σ H R h => by
  obtain ⟨ρ, G, gs, sl, w, q⟩ := ht σ H R h
  unfold evI at q
  refine tE.bind sl w q fun d1 g1 G1 H1 v1 x1 w1 sl1 r1 q1 => ?_
  refine tE.bind sl1 w1 q1 fun d2 g2 G2 H2 v2 x2 w2 sl2 r2 q2 => ?_
  split at q2
  · split at q2
    · rename_i i j hf
      cases r1.inj_int
      cases r2.inj_int
      rw [Bool.and_eq_true] at hf
      have f1 := fits_iff hf.1
      have f2 := fits_iff hf.2
      exact ⟨i, j, rfl, ⟨f1.1, f1.2, f2.1, f2.2⟩, Res.here w2 q2 _ _ rfl⟩
    · exact q2.elim
  · exact q2.elim
theorem snd_irng1 (g : GX X c S k) {a : Expr} {ma : E} {p pos : Pos} {tg : Expr} (hg : c.isG "range" = true) (hs : notStar a = true) (ha : PE X a (tE S ma)) : PI X tg (.Call (.Name "range" p) [a] [] pos) (tI S (.irng1 ma)) :=
  rng1_core g hg hs ha _ fun σ H R ⟨ρ, G, gs, sl, w, q⟩ => ⟨ρ, G, gs, sl, w, q.mono fun ds _ G1 H1 _ _ h n e => h _ (by subst e; exact walkR)⟩
theorem pih_weak {tg e : Expr} {t t' : TI} (h : L2H.PIH X tg e t) (k : ∀ σ H Q, t' σ H Q → t σ H Q) : L2H.PIH X tg e t' := ⟨fun pins s σ H Q I q => h.run pins s σ H Q I (k σ H Q q)⟩
theorem snd_hrng1 (g : GX X c S k) {a : Expr} {ma : E} {p pos : Pos} {tg : Expr} (hg : c.isG "range" = true) (hs : notStar a = true) (ha : PE X a (tE S ma)) : L2H.PIH X tg (.Call (.Name "range" p) [a] [] pos) (tI S (.irng1 ma)) :=
  pih_weak (L2H.pi_range1H (g.gl hg) (g.tab.bi _ range_blt) (pa_cons ha pa_nil (star_cons hs _ _)) (star_cons hs _ _)) fun σ H R ⟨ρ, G, gs, sl, w, q⟩ => by
  unfold evI at q
  refine tE.bind sl w q fun d1 g1 G1 H1 v1 x1 w1 sl1 r1 q1 => ?_
  split at q1
  · split at q1
    · rename_i j hf
      cases r1.inj_int
      have f := fits_iff hf
      exact ⟨j, rfl, f.1, f.2, Res.here w1 q1 _ walkR⟩
    · exact q1.elim
  · exact q1.elim
theorem snd_jrng1 (g : GX X c S k) {a : Expr} {ma : E} {p pos : Pos} {tg : Expr} (hg : c.isG "range" = true) (hs : notStar a = true) (ha : PE X a (tE S ma)) : PI X tg (.Call (.Name "range" p) [a] [] pos) (tJ S (.irng1 ma)) :=
  rng1_core g hg hs ha _ fun σ H R ⟨ρ, G, gs, sl, w, q⟩ => ⟨ρ, G, gs, sl, w, by unfold evJ at q; unfold evI; exact Res.mono q fun ds _ G1 H1 _ _ h n e => h _ (by subst e; exact walkR)⟩
theorem snd_irng2 (g : GX X c S k) {a b : Expr} {ma mb : E} {p pos : Pos} {tg : Expr} (hg : c.isG "range" = true) (hs : notStar a = true) (hs2 : notStar b = true) (ha : PE X a (tE S ma)) (hb : PE X b (tE S mb)) : PI X tg (.Call (.Name "range" p) [a, b] [] pos) (tI S (.irng2 ma mb)) :=
  rng2_core g hg hs hs2 ha hb _ fun σ H R ⟨ρ, G, gs, sl, w, q⟩ => ⟨ρ, G, gs, sl, w, q.mono fun ds _ G1 H1 _ _ h lo n e => h _ (by subst e; exact walkR)⟩
theorem snd_jrng2 (g : GX X c S k) {a b : Expr} {ma mb : E} {p pos : Pos} {tg : Expr} (hg : c.isG "range" = true) (hs : notStar a = true) (hs2 : notStar b = true) (ha : PE X a (tE S ma)) (hb : PE X b (tE S mb)) : PI X tg (.Call (.Name "range" p) [a, b] [] pos) (tJ S (.irng2 ma mb)) :=
  rng2_core g hg hs hs2 ha hb _ fun σ H R ⟨ρ, G, gs, sl, w, q⟩ => ⟨ρ, G, gs, sl, w, by unfold evJ at q; unfold evI; exact Res.mono q fun ds _ G1 H1 _ _ h lo n e => h _ (by subst e; exact walkR)⟩
/-! ### walked by a for loop -/
structure WalkS (S : Sx) (Gx : Hp) (ds : List D) (J : It) : Prop where
  goes : ∀ i G H, i < ds.length → Sm S.pr Gx G → Same G H → J.go i H
  stops : ∀ G H, Sm S.pr Gx G → Same G H → J.stop ds.length H
  yields : ∀ i H x H' G g, i < ds.length → Sm S.pr Gx G → Same G H → J.yld i H x H' → World S.a g G H → ∃ d, ds[i]? = some d ∧ ∃ G', Ext S.a G H G' H' ∧ World S.a g G' H' ∧ Rep S.K S.a G' d x
def tW (S : Sx) (m : E) : TI := fun σ H R => ∃ ρ G g, Slots S ρ σ G H ∧ World S.a g G H ∧ Res S σ G H (evJ S.c m ρ g) fun ds _ G1 H1 => ∀ J, WalkS S G1 ds J → R J H1
theorem tw_of {X : Cx} {S : Sx} {tg e : Expr} {m : E} (h0 : S.pr = false) (h : PI X tg e (tJ S m)) : PI X tg e (tW S m) := pi_weak h fun σ H R ⟨ρ, G, gs, sl, w, q⟩ => ⟨ρ, G, gs, sl, w, q.mono fun ds g1 G1 H1 _ _ k J wk => k J
  ⟨fun i G H hi s1 s2 => wk.goes i G H hi ⟨s1.same h0, s2⟩, fun G H s1 s2 => wk.stops G H ⟨s1.same h0, s2⟩, fun i H x H' G g hi s1 s2 y w2 => by
    obtain ⟨d, e1, k1⟩ := wk.yields i H x H' G hi ⟨s1.same h0, s2⟩ y
    exact ⟨d, e1, k1 G g w2 (s1.same h0)⟩⟩⟩
theorem walkSR {Gx : Hp} {lo : Int} {n : Nat} : WalkS S Gx (rangeD lo n) (Itr lo n) := by
  have w := walkR (S := S) (Gx := Gx) (cond := fun _ _ => True) (lo := lo) (n := n)
  have hl : (rangeD lo n).length = n := by unfold rangeD; simp
  refine ⟨fun i G H hi _ _ => w.goes i G H hi trivial, fun G H _ _ => w.stops G H trivial, fun i H x H' G g hi _ _ y w2 => ?_⟩
  obtain ⟨e, e2⟩ := y
  subst e e2
  rw [hl] at hi
  exact ⟨.int (lo + i), by unfold rangeD; simp [hi], G, Ext.refl, w2, by unfold Rep; rfl⟩
theorem snd_wrng1 (g : GX X c S k) {a : Expr} {ma : E} {p pos : Pos} {tg : Expr} (hg : c.isG "range" = true) (hs : notStar a = true) (ha : PE X a (tE S ma)) : PI X tg (.Call (.Name "range" p) [a] [] pos) (tW S (.irng1 ma)) :=
  rng1_core g hg hs ha _ fun σ H R ⟨ρ, G, gs, sl, w, q⟩ => ⟨ρ, G, gs, sl, w, by unfold evJ at q; unfold evI; exact Res.mono q fun ds _ G1 H1 _ _ h n e => h _ (by subst e; exact walkSR)⟩
theorem snd_wrng2 (g : GX X c S k) {a b : Expr} {ma mb : E} {p pos : Pos} {tg : Expr} (hg : c.isG "range" = true) (hs : notStar a = true) (hs2 : notStar b = true) (ha : PE X a (tE S ma)) (hb : PE X b (tE S mb)) : PI X tg (.Call (.Name "range" p) [a, b] [] pos) (tW S (.irng2 ma mb)) :=
  rng2_core g hg hs hs2 ha hb _ fun σ H R ⟨ρ, G, gs, sl, w, q⟩ => ⟨ρ, G, gs, sl, w, by unfold evJ at q; unfold evI; exact Res.mono q fun ds _ G1 H1 _ _ h lo n e => h _ (by subst e; exact walkSR)⟩
/-! ### zip, enumerate -/
/-- a source, as it stands from G on -/
structure Src (S : Sx) (Gx : Hp) (cond : Hp → Hp → Prop) (xs : List D) (k : Zp.Sk) : Prop where
  cnt : ∀ G H, cond G H → k.cnt S.K H xs.length
  one : ∀ G H i x, cond G H → k.one S.K H i x → ∀ d, xs[i]? = some d → Rep S.K S.a Gx d x
theorem src_of {g : Gs} {G1 H1 : Hp} {cond : Hp → Hp → Prop} (w : World S.a g G1 H1) (hc : ∀ G H, cond G H → Same G1 H) (h1 : Same G1 H1) {d : D} {v : V} {xs : List D} (r : Rep S.K S.a G1 d v) (e : itemsZ d = some xs) : ∃ k : Zp.Sk, v = k.val ∧ k.cnt S.K H1 xs.length ∧ Src S G1 cond xs k := by
  cases d with
  | tup ds =>
    cases e
    unfold Rep at r
    obtain ⟨p, vs, rfl, q, rs⟩ := r
    refine ⟨.tup p, rfl, ⟨vs, SqT.mono h1 q, rs.length⟩, fun G H h => ⟨vs, SqT.mono (hc G H h) q, rs.length⟩, fun G H i x h o d hd => ?_⟩
    obtain ⟨v, e1, rv⟩ := rs.get hd
    have e2 := o vs (SqT.mono (hc G H h) q)
    rw [e1] at e2
    cases e2
    exact rv
  | lst ds =>
    cases e
    unfold Rep at r
    obtain ⟨p, vs, rfl, q, rs⟩ := r
    refine ⟨.lst p, rfl, ⟨vs, SqL.of (h1 _ _ q), rs.length⟩, fun G H h => ⟨vs, SqL.of (hc G H h _ _ q), rs.length⟩, fun G H i x h o d hd => ?_⟩
    obtain ⟨v, e1, rv⟩ := rs.get hd
    have e2 := o vs (SqL.of (hc G H h _ _ q))
    rw [e1] at e2
    cases e2
    exact rv
  | str z =>
    cases e
    unfold Rep at r
    subst r
    have l : z.cps.size = (z.cps.toList.map fun c => D.str ⟨#[c]⟩).length := by rw [List.length_map, Array.length_toList]
    refine ⟨.txt z, rfl, l, fun G H h => l, fun G H i x h o d hd => ?_⟩
    obtain ⟨c, e1, rfl⟩ := o
    rw [List.getElem?_map, Array.getElem?_toList, e1] at hd
    cases hd
    unfold Rep
    rfl
  | _ => cases e
theorem zipD_len (xs ys : List D) : (zipD xs ys).length = min xs.length ys.length := by unfold zipD; rw [List.length_zipWith]
theorem walkZ {Gx : Hp} {cond : Hp → Hp → Prop} {xs ys : List D} {k1 k2 : Zp.Sk} (s1 : Src S Gx cond xs k1) (s2 : Src S Gx cond ys k2) : WalkD S Gx cond (zipD xs ys) (Zp.Jz S.K k1 k2) := by
  refine ⟨fun i G H hi h => ?_, fun G H h => ?_, fun i H x H' Gc hi h y => ?_⟩
  · rw [zipD_len] at hi
    exact ⟨_, _, s1.cnt G H h, s2.cnt G H h, by omega, by omega⟩
  · rw [zipD_len]
    exact ⟨_, _, s1.cnt G H h, s2.cnt G H h, by omega, by omega, by omega⟩
  · obtain ⟨T, x1, y1, rfl, hT, rfl, o1, o2⟩ := y
    rw [zipD_len] at hi
    have e1 : xs[i]? = some (xs[i]'(by omega)) := List.getElem?_eq_getElem (by omega)
    have e2 : ys[i]? = some (ys[i]'(by omega)) := List.getElem?_eq_getElem (by omega)
    refine ⟨.tup [xs[i]'(by omega), ys[i]'(by omega)], by unfold zipD; rw [List.getElem?_zipWith, e1, e2], fun G g w s => ?_⟩
    obtain ⟨a1, a2, a3⟩ := newT w hT (Reps.cons ((s1.one _ _ _ _ h o1 _ e1).mono s) (Reps.cons ((s2.one _ _ _ _ h o2 _ e2).mono s) Reps.nil))
    exact ⟨_, a1, a2, a3⟩
theorem enumD_len (xs : List D) : (enumD xs).length = xs.length := by unfold enumD; rw [List.length_mapIdx]
theorem walkN {Gx : Hp} {cond : Hp → Hp → Prop} {xs : List D} {k1 : Zp.Sk} (s1 : Src S Gx cond xs k1) : WalkD S Gx cond (enumD xs) (Zp.Jn S.K k1) := by
  refine ⟨fun i G H hi h => ?_, fun G H h => ?_, fun i H x H' Gc hi h y => ?_⟩
  · rw [enumD_len] at hi
    exact ⟨_, s1.cnt G H h, hi⟩
  · rw [enumD_len]
    exact s1.cnt G H h
  · obtain ⟨T, x1, rfl, hT, rfl, o1⟩ := y
    rw [enumD_len] at hi
    have e1 : xs[i]? = some (xs[i]'hi) := List.getElem?_eq_getElem hi
    refine ⟨.tup [.int (i : Nat), xs[i]'hi], by unfold enumD; rw [List.getElem?_mapIdx, e1]; rfl, fun G g w s => ?_⟩
    obtain ⟨a1, a2, a3⟩ := newT w hT (Reps.cons (d := .int (i : Nat)) (v := .int (i : Nat)) (by unfold Rep; rfl) (Reps.cons ((s1.one _ _ _ _ h o1 _ e1).mono s) Reps.nil))
    exact ⟨_, a1, a2, a3⟩
theorem condE {a : Fs} {g : Gs} {G1 H1 : Hp} (w : World a g G1 H1) : ∀ G H, Ext a G1 H1 G H → Same G1 H := fun G H x b o e => x.kp _ _ (w.sub _ _ e) (w.offH e)
theorem isTT_eq {e : Expr} (h : isTT e = true) : ∃ es k p, e = .Tuple es k p := by
  unfold isTT at h
  split at h
  · exact ⟨_, _, _, rfl⟩
  · cases h
theorem zip_blt : ("zip" : Str) ∈ blts ∧ ("enumerate" : Str) ∈ blts ∧ ("sorted" : Str) ∈ blts ∧ ("set" : Str) ∈ blts := by decide +kernel
theorem snd_izip (g : GX X c S k) {a b : Expr} {ma mb : E} {p pos : Pos} {tg : Expr} (ht : isTT tg = true) (hg : c.isG "zip" = true) (hs : notStar a = true) (hs2 : notStar b = true) (ha : PE X a (tE S ma)) (hb : PE X b (tE S mb)) :
    PI X tg (.Call (.Name "zip" p) [a, b] [] pos) (tI S (.izip ma mb)) ∧ PI X tg (.Call (.Name "zip" p) [a, b] [] pos) (tJ S (.izip ma mb)) := by
  obtain ⟨elts, kk, tpos, rfl⟩ := isTT_eq ht
  have base := Zp.pi_z (X := X) (elts := elts) (kk := kk) (tpos := tpos) (p := p) (pos := pos) (g.gl hg) (g.tab.bi _ zip_blt.1) (pa_cons ha (pa_cons hb pa_nil (star_cons hs2 _ _)) (star_cons hs _ _)) (by rw [star_cons hs, star_cons hs2]) (star_any (es := [b]) (by simp [hs2]))
  refine ⟨pi_weak base fun σ H R ⟨ρ, G, gs, sl, w, q⟩ => ?_, pi_weak base fun σ H R ⟨ρ, G, gs, sl, w, q⟩ => ?_⟩
  · unfold evI at q
    refine tE.bind sl w q fun d1 g1 G1 H1 v1 x1 w1 sl1 r1 q1 => ?_
    refine tE.bind sl1 w1 q1 fun d2 g2 G2 H2 v2 x2 w2 sl2 r2 q2 => ?_
    split at q2
    · rename_i xs ys ex ey
      obtain ⟨k1, rfl, c1, s1⟩ := src_of w2 (condE w2) w2.sub (r1.mono x2.gg) ex
      obtain ⟨k2, rfl, c2, s2⟩ := src_of w2 (condE w2) w2.sub r2 ey
      refine ⟨k1, k2, _, _, rfl, g.hK ▸ c1, g.hK ▸ c2, ?_⟩
      rw [g.hK]
      exact Res.here w2 q2 _ (walkZ s1 s2)
    · exact q2.elim
  · unfold evJ at q
    refine tE.bind sl w q fun d1 g1 G1 H1 v1 x1 w1 sl1 r1 q1 => ?_
    refine tE.bind sl1 w1 q1 fun d2 g2 G2 H2 v2 x2 w2 sl2 r2 q2 => ?_
    split at q2
    · rename_i xs ys ex ey
      obtain ⟨k1, rfl, c1, s1⟩ := src_of w2 (cond := fun G H => Same G2 G ∧ Same G H) (fun G H h => h.1.trans h.2) w2.sub (r1.mono x2.gg) ex
      obtain ⟨k2, rfl, c2, s2⟩ := src_of w2 (cond := fun G H => Same G2 G ∧ Same G H) (fun G H h => h.1.trans h.2) w2.sub r2 ey
      refine ⟨k1, k2, _, _, rfl, g.hK ▸ c1, g.hK ▸ c2, ?_⟩
      rw [g.hK]
      exact Res.here w2 q2 _ (walkZ s1 s2)
    · exact q2.elim
theorem snd_ienum (g : GX X c S k) {a : Expr} {ma : E} {p pos : Pos} {tg : Expr} (ht : isTT tg = true) (hg : c.isG "enumerate" = true) (hs : notStar a = true) (ha : PE X a (tE S ma)) :
    PI X tg (.Call (.Name "enumerate" p) [a] [] pos) (tI S (.ienum ma)) ∧ PI X tg (.Call (.Name "enumerate" p) [a] [] pos) (tJ S (.ienum ma)) := by
  obtain ⟨elts, kk, tpos, rfl⟩ := isTT_eq ht
  have base := Zp.pi_n (X := X) (elts := elts) (kk := kk) (tpos := tpos) (p := p) (pos := pos) (g.gl hg) (g.tab.bi _ zip_blt.2.1) (pa_cons ha pa_nil (star_cons hs _ _)) (star_cons hs _ _)
  refine ⟨pi_weak base fun σ H R ⟨ρ, G, gs, sl, w, q⟩ => ?_, pi_weak base fun σ H R ⟨ρ, G, gs, sl, w, q⟩ => ?_⟩
  · unfold evI at q
    refine tE.bind sl w q fun d1 g1 G1 H1 v1 x1 w1 sl1 r1 q1 => ?_
    split at q1
    · rename_i xs ex
      obtain ⟨k1, rfl, c1, s1⟩ := src_of w1 (condE w1) w1.sub r1 ex
      refine ⟨k1, _, rfl, g.hK ▸ c1, ?_⟩
      rw [g.hK]
      exact Res.here w1 q1 _ (walkN s1)
    · exact q1.elim
  · unfold evJ at q
    refine tE.bind sl w q fun d1 g1 G1 H1 v1 x1 w1 sl1 r1 q1 => ?_
    split at q1
    · rename_i xs ex
      obtain ⟨k1, rfl, c1, s1⟩ := src_of w1 (cond := fun G H => Same G1 G ∧ Same G H) (fun G H h => h.1.trans h.2) w1.sub r1 ex
      refine ⟨k1, _, rfl, g.hK ▸ c1, ?_⟩
      rw [g.hK]
      exact Res.here w1 q1 _ (walkN s1)
    · exact q1.elim
theorem sin_all {ns : List Int} {j : Int} : Zp.Sin ns ns.length j = true ↔ j ∈ ns := by
  unfold Zp.Sin
  rw [List.take_length, List.any_eq_true]
  constructor
  · rintro ⟨x, hx, e⟩
    rw [← eq_of_beq e]
    exact hx
  · intro h
    exact ⟨j, h, by simp⟩
theorem snd_sset (g : GX X c S k) (hc : c.hot = false) {a : Expr} {ma : E} {p p2 pos2 pos : Pos} (hg : c.isG "sorted" = true) (hg2 : c.isG "set" = true) (hs : notStar a = true) (ha : PE X a (tE S ma)) :
    PE X (.Call (.Name "sorted" p) [.Call (.Name "set" p2) [a] [] pos2] [] pos) (tF S (.sset ma)) := by
  have inner := pe_callTy (p := p2) (pos := pos2) (Zp.cr_setI (g.calm hc)) (g.gl hg2) (g.tab.bi _ zip_blt.2.2.2) (show bootBuiltins "set" = some (.type "set") by decide +kernel) (pa_cons ha pa_nil (star_cons hs _ _)) (by decide +kernel) (by decide +kernel) (star_cons hs [] X.env) (star_any (es := []) rfl)
  refine pe_weak (pe_callB (p := p) (pos := pos) (cr_sortedSet (g.calm hc)) (g.gl hg) (g.tab.bi _ zip_blt.2.2.1) (show bootBuiltins "sorted" = some (.builtin "sorted") by decide +kernel) (pa_cons inner pa_nil rfl) (by decide +kernel) (by decide +kernel) rfl rfl) fun σ H Q ⟨ρ, G, gs, sl, w, q⟩ => ?_
  unfold ev at q
  refine tE.bind sl w q fun d1 g1 G1 H1 v1 x1 w1 sl1 r1 q1 => ?_
  split at q1
  · rename_i xs
    split at q1
    · rename_i ns en
      split at q1
      · rename_i hl
        unfold Rep at r1
        obtain ⟨l, vs, rfl, hq, rs⟩ := r1
        refine ⟨l, ns, rfl, SqL.of (by rw [← rs.ints en]; exact w1.sub _ _ hq), hl.1, fun b m hb hm => ?_⟩
        refine ⟨b, _, m, rfl, upd_same, Nat.lt_of_le_of_lt (hm _ fun k hk => sset_mem.mpr hk) hl.2, fun ms p3 o1 o2 o3 hp => ?_⟩
        obtain ⟨x2, w2⟩ := Ext.fresh (o := SetO X.w b (Zp.Sin ns ns.length) m) w1 hb
        have e : ms = ssetI ns := lt_one o1 (sset_lt ns) fun j => by rw [o2, sin_all, sset_mem]
        rw [e]
        obtain ⟨x3, w3, f3⟩ := newL w2 hp (Reps.ofInts (ssetI ns))
        exact q1 _ _ (x2.trans x3) w3 _ (f3.back fun b' hb' => x1.dm _ (x2.dm _ hb'))
      · exact q1.elim
    · exact q1.elim
  · exact q1.elim
end
end Mi


set_option Elab.async false
set_option maxRecDepth 100000
set_option maxHeartbeats 4000000
/-! Hc0: a comprehension over a range, where an exception is handled. -/
namespace Mi
open PySem L2
/-- the block's context, what is held stays held -/
abbrev hBlk (X : Cx) (t : Shared) (F : Hp) (sc : Scope) (ce : PySem.Env) (fs : List Addr) : Cx := (X.blk t F sc ce fs).tr X.pn (fun _ _ => False)
abbrev inEnv (X : Cx) (t : Shared) (sc : Scope) : PySem.Env := compEnvC sc (cellsFrom (t.heap.objs.size + 1) sc.names (cloFrom X.env.cells sc.names [])) t.heap.objs.size X.env
section
variable {X : Cx} {pins : List (Addr × Obj)} {σ : St} {F : Hp} {t : Shared} {sc : Scope} {own : List (Str × Nat)} {fs : List Addr}
theorem hBlk_on (I : Inv X pins σ F t) (ok : BlkOk X.N X.env.scope sc own) (nd : X.N.Nodup) (hf : ∀ b ∈ fs, FpOk X pins F b ∧ b < t.heap.objs.size) :
    Inv (hBlk X t F sc (inEnv X t sc) fs) [] (wipe σ (own.map (·.2))) F { t with heap := pushCells (t.heap.push { cls := .type "dict", data := .dict #[] }) sc.names } := by
  have B := block_start I ok nd hf
  refine ⟨⟨B.ok.mod, B.ok.kind, B.ok.glob, B.ok.blt, B.ok.above, B.ok.inj, B.ok.has, B.ok.cab, B.ok.hd, B.ok.frames, B.ok.stk, B.ok.exf, B.ok.bs, B.ok.bsz, B.ok.noex, B.ok.exfs, B.ok.funs, B.ok.frf⟩, B.os, B.bare, B.base, B.loc, B.cell, B.free, B.freeC, fun q hq => ?_, B.hok, B.len⟩
  have hq : q ∈ X.pn := by simpa using hq
  obtain ⟨a1, a2, a3, a4, a5⟩ := I.pin q (List.mem_append_left _ hq)
  refine ⟨pushCells_keeps _ _ _ _ (Heap.get?_push_of_some _ a1), a2, ?_, ?_, a5⟩
  · show q.1 ≠ t.heap.objs.size
    exact Nat.ne_of_lt (Heap.lt_size a1)
  · show q.1 ∉ frs X.stack
    rcases I.ok.stk with e | ⟨e, e2⟩
    · rw [e]; exact a4
    · rw [e]
      intro hm
      obtain ⟨v, hv, hv2⟩ := List.mem_filterMap.mp hm
      rcases List.mem_cons.mp hv with rfl | hv
      · rw [e2] at hv2
        exact a3 (Option.some.inj hv2).symm
      · exact a4 (List.mem_filterMap.mpr ⟨v, hv, hv2⟩)
end
section
variable {X : Cx} {elt tg iter : Expr} {ifs : List Expr} {sc : Scope} {own : List (Str × Nat)} {wi : TI} {g : TG} {tt : TT} {te : TE}
/-- what the block's parts are known to do, wherever it starts -/
structure HParts (X : Cx) (elt tg : Expr) (ifs : List Expr) (sc : Scope) (g : TG) (tt : TT) (te : TE) : Prop where
  tg : ∀ (t : Shared) (F : Hp) (C : Addr) (cl : List (Str × Addr)) (fs : List Addr), PG (hBlk X t F sc (compEnvC sc cl C X.env) fs) tg g
  tst : ∀ (t : Shared) (F : Hp) (C : Addr) (cl : List (Str × Addr)) (fs : List Addr), PTs (hBlk X t F sc (compEnvC sc cl C X.env) fs) ifs tt
  el : ∀ (t : Shared) (F : Hp) (C : Addr) (cl : List (Str × Addr)) (fs : List Addr), PE (hBlk X t F sc (compEnvC sc cl C X.env) fs) elt te
/-- one turn: from the item on -/
theorem h_turn {Y : Cx} {D : Addr} {fs : List Addr} {tn : Nat → Heap → Prop} {σ0 : St} {vs : List Nat} {W : Nat → Nat → Hp → Prop} {Nx : Hp → Prop} {i n : Nat}
    (pg : PG Y tg g) (pt : PTs Y ifs tt) (pe : PE Y elt te) (hxe : Y.xe = fun _ _ => False)
    (keep : ∀ i h h', tn i h → (∀ b ∈ fs, ∀ o, h.get? b = some o → h'.get? b = some o) → tn i h')
    (obj : ∀ i h, tn i h → ∀ b ∈ fs, ∃ o, h.get? b = some o ∧ ∀ v, o.data ≠ .cell v)
    (hN : ∀ H', Nx H' → ∃ m', m' < n ∧ W (i + 1) m' H') {t7 : Shared} {F7 : Hp} {x : V} {u : Value} (I7 : Inv Y [] (wipe σ0 vs) F7 t7) (st7 : tn (i + 1) t7.heap) (fp7 : ∀ b ∈ fs, FpOk Y [] F7 b) (r7 : RelV x u)
    (step : g x (wipe σ0 vs) F7 fun σ2 H2 => wipe σ2 vs = wipe σ0 vs ∧ tt σ2 H2 fun b H3 => if b = true then te σ2 H3 fun y H4 => ∃ acc, H4 D = some (.lst acc) ∧ acc.length < sizeLine ∧ Nx (upd H4 D (.lst (acc ++ [y]))) else Nx H3)
    {E : Value → Shared → Prop} :
    wpAny (model Y.prog Y.w) Y.A (assign tg Y.env u) (fun _ s₂ =>
          wpAny (model Y.prog Y.w) Y.A (forIn ifs true fun c r => if r = true then do let ok ← isTrue c Y.env (eval c Y.env); pure (ForInStep.yield ok) else pure (ForInStep.yield r)) (fun ok s₃ =>
            if ok = true then wpAny (model Y.prog Y.w) Y.A (eval elt Y.env) (fun x s₄ =>
              wpAny (model Y.prog Y.w) Y.A (PySem.call (.builtin "list.append") [.ref D, x]) (fun _ s₅ => ∃ m, m < n ∧ ∃ i' H', Inv Y [] (wipe σ0 vs) H' s₅ ∧ tn i' s₅.heap ∧ (∀ b ∈ fs, H' b = none) ∧ W i' m H') E s₄) E s₃
            else ∃ m, m < n ∧ ∃ i' H', Inv Y [] (wipe σ0 vs) H' s₃ ∧ tn i' s₃.heap ∧ (∀ b ∈ fs, H' b = none) ∧ W i' m H') E s₂) E t7 := by
  have fal : ∀ {v : Value} {s' : Shared}, Y.xe v s' → E v s' := fun {v s'} z => by rw [hxe] at z; exact z.elim
  have J7 := I7.pinned fp7 (obj _ _ st7)
  have last : ∀ {σ8 : St} {s' : Shared} {H' : Hp}, wipe σ8 vs = wipe σ0 vs → Inv Y ([] ++ pinsAt fs t7.heap) σ8 H' s' → Nx H' → ∃ m, m < n ∧ ∃ i' H', Inv Y [] (wipe σ0 vs) H' s' ∧ tn i' s'.heap ∧ (∀ b ∈ fs, H' b = none) ∧ W i' m H' := fun {σ8 s' H'} hw I' nx => by
    obtain ⟨m', hm, w'⟩ := hN H' nx
    have held : ∀ b ∈ fs, ∀ o, t7.heap.get? b = some o → s'.heap.get? b = some o ∧ H' b = none := fun b hb o e => by
      have z := I'.pin (b, o) (List.mem_append_right _ (List.mem_append_right _ (mem_pinsAt hb e)))
      exact ⟨z.1, z.2.1⟩
    have hl : (wipe σ0 vs).length = σ8.length := by rw [← hw, wipe_length]
    refine ⟨m', hm, i + 1, H', (I'.unpinned (pins := [])).weak hl (fun j v e => ?_), keep _ _ _ st7 fun b hb o e => (held b hb o e).1, fun b hb => ?_, w'⟩
    · rw [← hw] at e; exact (wipe_some e).1
    · obtain ⟨o, e, _⟩ := obj _ _ st7 b hb; exact (held b hb o e).2
  refine wpAny_mono (pg.run _ t7 _ F7 x u _ J7 r7 step) (fun _ t8 ⟨σ8, F8, I8, w8, q8⟩ => ?_) fun _ _ z => fal z
  refine wpAny_mono (pt.run _ t8 σ8 F8 _ I8 q8) (fun b t9 ⟨F9, I9, q9⟩ => ?_) fun _ _ z => fal z
  cases b with
  | false =>
    rw [if_neg Bool.false_ne_true] at q9 ⊢
    exact last w8 I9 q9
  | true =>
    rw [if_pos rfl] at q9 ⊢
    refine wpAny_mono (pe.run _ t9 σ8 F9 _ I9 q9) (fun z t10 ⟨y10, F10, I10, r10, acc, d10, l10, nx⟩ => ?_) fun _ _ z => fal z
    exact app_ok (X := Y) I10 d10 l10 r10 fun t11 I11 => last w8 I11 nx
theorem h_core {pins : List (Addr × Obj)} {t0 : Shared} {σ : St} {F : Hp} {Q : VK} {pos cpos : Pos} {use : Option (Value → Sem Unit)} {Z : Value → Shared → Prop}
    (hot : L2H.HotC X) (nd : X.N.Nodup) (I : Inv X pins σ F t0) (hi : L2H.PIH X tg iter wi) (ok : BlkOk X.N X.env.scope sc own) (P : HParts X elt tg ifs sc g tt te) (hs : ∀ x, foldedSetIterable iter X.env x = pure x)
    (h : tLc wi g tt te (own.map (·.2)) σ F Q)
    (fin : ∀ D C t m H', Inv X pins σ H' t → Q (.ref D) H' → t.heap.Ns C m → FpOk X pins H' C → compPost (model X.prog X.w) X.A X.xe use Z (.ref D) C (.ok .next) t) :
    wpAny (model X.prog X.w) X.A (comprehension (.ListComp elt [⟨tg, iter, ifs, 0⟩] sc pos) sc X.env cpos (newList []) false (eval iter X.env) use) Z X.xe t0 := by
  have fr : ∀ y ∈ sc.names, y.2 = .free → ∃ c, X.env.cells.lookup y.1 = some c := fun y hy e => (ok.free y hy e).elim (fun z => I.ok.has _ (.inl z)) fun z => I.ok.has _ (.inr z)
  refine wpAny_comprehension_free (use := use) rfl hs (closure_ok fr) ok.kind (fun y hy e => by rw [ok.uniq y hy, e]) (thn (hi.run pins t0 σ F _ I h) fun _ t1 h1 => thn h1 fun _ t2 h2 => ?_)
  obtain ⟨it, fs, tn, J, F2, rfl, I2, T, st2, f2, q⟩ := h2
  refine wpAny_newObj_type (newEnv_comp ?_) (by show 0 ≤ sizeLine; decide)
  obtain ⟨W, ⟨m0, w0⟩, turn⟩ := q t2.heap.objs.size (I2.hok.fresh (Nat.le_refl _))
  -- the list that is made
  generalize eD : t2.heap.objs.size = D at w0 turn ⊢
  generalize e3 : ({ t2 with heap := t2.heap.push { cls := .type "list", data := .seq ([] : List Value).toArray } } : Shared) = t3
  have he3 : t3.heap = t2.heap.push { cls := .type "list", data := .seq ([] : List Value).toArray } := by rw [← e3]
  have I3 : Inv X pins σ (upd F2 D (.lst [])) t3 := by
    rw [← e3]
    exact I2.laid (t' := t2.toks) (fun b o e => Heap.get?_push_of_some _ e) (Nat.le_of_eq eD) ⟨Nat.zero_le _, [], 0, .nil, by rw [← eD]; exact Heap.get?_push_size _ rfl⟩
  have f3 : ∀ b ∈ fs, FpOk X pins (upd F2 D (.lst [])) b ∧ b < t3.heap.objs.size := fun b hb => by
    have lt : b < t2.heap.objs.size := by
      obtain ⟨o, e, _⟩ := T.obj _ _ st2 b hb
      exact Heap.lt_size e
    refine ⟨⟨by rw [upd_ne (by rw [← eD]; exact Nat.ne_of_lt lt)]; exact (f2 b hb).1, (f2 b hb).2⟩, ?_⟩
    rw [he3, Heap.size_push]
    exact Nat.lt_succ_of_lt lt
  have st3 : tn 0 t3.heap := T.keep _ _ _ st2 fun b _ o e => by rw [he3]; exact Heap.get?_push_of_some _ e
  have I4 := hBlk_on (fs := fs) I3 ok nd f3
  have pg := P.tg t3 (upd F2 D (.lst [])) t3.heap.objs.size (cellsFrom (t3.heap.objs.size + 1) sc.names (cloFrom X.env.cells sc.names [])) fs
  have pt := P.tst t3 (upd F2 D (.lst [])) t3.heap.objs.size (cellsFrom (t3.heap.objs.size + 1) sc.names (cloFrom X.env.cells sc.names [])) fs
  have pe := P.el t3 (upd F2 D (.lst [])) t3.heap.objs.size (cellsFrom (t3.heap.objs.size + 1) sc.names (cloFrom X.env.cells sc.names [])) fs
  show codeAny _ _ (.compStart (.ListComp elt [⟨tg, iter, ifs, 0⟩] sc pos) 0 (.ref it) (.ref D) (inEnv X t3 sc)) (compPost (model X.prog X.w) X.A X.xe use Z (.ref D) t3.heap.objs.size) { t3 with heap := pushCells (t3.heap.push { cls := .type "dict", data := .dict #[] }) sc.names }
  have none3 : ∀ b ∈ fs, (upd F2 D (.lst [])) b = none := fun b hb => (f3 b hb).1.1
  have locE : (inEnv X t3 sc).locals = t3.heap.objs.size := rfl
  change PG (hBlk X t3 (upd F2 D (.lst [])) sc (inEnv X t3 sc) fs) tg g at pg
  change PTs (hBlk X t3 (upd F2 D (.lst [])) sc (inEnv X t3 sc) fs) ifs tt at pt
  change PE (hBlk X t3 (upd F2 D (.lst [])) sc (inEnv X t3 sc) fs) elt te at pe
  generalize inEnv X t3 sc = ce at I4 pg pt pe locE ⊢
  generalize upd F2 D (.lst []) = F3 at I3 I4 pg pt pe w0 none3 f3
  generalize e4 : ({ t3 with heap := pushCells (t3.heap.push { cls := .type "dict", data := .dict #[] }) sc.names } : Shared) = t4 at I4 ⊢
  have st4 : tn 0 t4.heap := T.keep _ _ _ st3 fun b _ o e => by rw [← e4]; exact pushCells_keeps _ _ _ _ (Heap.get?_push_of_some _ e)
  generalize eY : hBlk X t3 F3 sc ce fs = Y at I4 pg pt pe
  have Yp : Y.prog = X.prog := by rw [← eY]
  have Yw : Y.w = X.w := by rw [← eY]
  have YK : Y.K = X.K := by rw [← eY]
  have YA : Y.A = X.A := by rw [← eY]
  have Ye : Y.env = ce := by rw [← eY]
  have Yx : Y.xe = fun _ _ => False := by rw [← eY]
  have Yhot : L2H.HotC Y := by rw [← eY]; exact hot
  have still : ∀ {σ' : St} {H' : Hp} {t' : Shared}, Inv Y [] σ' H' t' → (∀ b ∈ fs, H' b = none) → ∀ b ∈ fs, FpOk Y [] H' b := fun {σ' H' t'} I' hn b hb => by
    subst eY
    exact ⟨hn b hb, (I'.ok.exf b hb).1, I'.ok.exfs b hb, .inl hb, fun x c e => (I'.ok.exf b hb).2 x c e, fun p hp => (f3 b hb).1.2.2.2.2.2 p (List.mem_append_left _ (by simpa using hp))⟩
  have main : codeAny (model X.prog X.w) X.A (.compLoop (.ListComp elt [⟨tg, iter, ifs, 0⟩] sc pos) 0 (.ref it) (.ref D) ce) (compPost (model X.prog X.w) X.A X.xe use Z (.ref D) t3.heap.objs.size) t4 := by
    refine compLoop_any (fun n t' => ∃ i H', Inv Y [] (wipe σ (own.map (·.2))) H' t' ∧ tn i t'.heap ∧ (∀ b ∈ fs, H' b = none) ∧ W i n H') (fun n t5 ⟨i, F5, I5, st5, n5, w5⟩ => ?_) m0 ⟨0, F3, I4, st4, none3, w0⟩
    rcases turn i n F5 w5 with ⟨stop, qq⟩ | ⟨go, Nx, hNx, step⟩
    · have td := T.done Y Yp Yw YK Yhot i [] t5 _ F5 (fun _ _ => False) I5 (still I5 n5) st5 stop
      rw [YA] at td
      refine thnF td fun r t6 ⟨hr, I6⟩ => ?_
      subst hr eY
      have I7 : Inv X pins σ F5 t6 := I3.call' (ch := fs) I6.os I6.base I6.hok I6.bare fun b hb => ⟨(f3 b hb).1.2.2.2.1, (f3 b hb).1.2.1, (f3 b hb).1.2.2.2.2.1, (f3 b hb).1.2.2.2.2.2⟩
      have nC : F5 t3.heap.objs.size = none := by rw [← locE]; exact I6.free
      obtain ⟨m, hn, _⟩ := I6.loc
      have hn : t6.heap.Ns ce.locals m := hn
      rw [locE] at hn
      exact fin D _ t6 m F5 I7 qq hn (I3.fpOk (Nat.le_refl _) nC)
    · have ti := T.item Y Yp Yw YK Yhot i [] t5 _ F5 (fun _ _ => False) I5 (still I5 n5) st5 go
      rw [YA] at ti
      refine thnF ti fun r t6 ⟨u, hr, h6⟩ => ?_
      subst hr
      refine thnF h6 fun _ t7 ⟨x, F7, I7, r7, y7, st7, n7⟩ => ?_
      have z := h_turn (Y := Y) (D := D) (n := n) (i := i) (W := W) (fs := fs) (tn := tn) pg pt pe Yx T.keep T.obj hNx I7 st7 (still I7 n7) r7 (step x F7 y7) (E := notedBy (model X.prog X.w) X.A ce fun e s' => compPost (model X.prog X.w) X.A X.xe use Z (.ref D) t3.heap.objs.size (.error e) s')
      rw [Yp, Yw, YA, Ye] at z
      exact z
  exact codeAny_compStart_list main (T.self X.A 0 _ _ _ st4 main)
theorem pe_lcH {pos : Pos} (hot : L2H.HotC X) (nd : X.N.Nodup) (hi : L2H.PIH X tg iter wi) (ok : BlkOk X.N X.env.scope sc own) (P : HParts X elt tg ifs sc g tt te) (hs : ∀ x, foldedSetIterable iter X.env x = pure x) :
    PE X (.ListComp elt [⟨tg, iter, ifs, 0⟩] sc pos) (tLc wi g tt te (own.map (·.2))) := ⟨fun pins s σ H Q I h => by
  rw [eval_ListComp]
  refine h_core hot nd I hi ok P hs h fun D C t m H' I' q hn ⟨f0, f1, f2, f3, f4, f5⟩ => ⟨m, hn, fun h'' sb => ?_⟩
  exact ⟨.ref D, H', I'.turned (t' := t.toks) (fun b o hb e => (sb.2 b hb).trans e) f0 f1 f3 f4 f5, rfl, q⟩⟩
theorem ps_lcH {i : Nat} {y : Str} {py pos spos : Pos} (hot : L2H.HotC X) (nd : X.N.Nodup) (hy : X.N[i]? = some y) (hyl : X.env.scope.names.lookup y = some .local)
    (hsw : swapsWith (.ListComp elt [⟨tg, iter, ifs, 0⟩] sc pos) (some (.Name y py)) spos.line X.env = pure true) (hi : L2H.PIH X tg iter wi) (ok : BlkOk X.N X.env.scope sc own) (P : HParts X elt tg ifs sc g tt te) (hs : ∀ x, foldedSetIterable iter X.env x = pure x) :
    PS X (.Assign [.Name y py] (.ListComp elt [⟨tg, iter, ifs, 0⟩] sc pos) spos) (tAsg (tLc wi g tt te (own.map (·.2))) (gName i)) := ⟨fun pins s σ H Dn I h => by
  rw [exec_Assign_Name_used _ _ _ _ hsw]
  refine wpAny_bind (wpAny_standAt (wpAny_bind ?_))
  change wpAny _ X.A (do let _ ← comprehension (.ListComp elt [⟨tg, iter, ifs, 0⟩] sc pos) sc X.env (firstIterPos [⟨tg, iter, ifs, 0⟩] pos) (newList []) false (eval iter X.env) (some (assign (.Name y py) X.env))) _ _ s
  change tLc wi g tt te (own.map (·.2)) σ H (fun x H1 => gName i x σ H1 Dn.nx) at h
  refine wpAny_bind (thn (h_core (Z := fun _ s' => SP X pins Dn .next s') hot nd I hi ok P hs h fun D C t m H' I' q hn ⟨f0, f1, f2, f3, f4, f5⟩ => ?_) fun _ s' hq => wpAny_pure (wpAny_pure hq))
  show wpAny _ _ (assign (.Name y py) X.env (.ref D)) _ _ _
  refine wpAny_assign_Name (store_ok2 (v := V.ref D) I' nd hy (.inl hyl) rfl (fun s2 I2 ⟨a, sb, ha⟩ => ⟨m, hn.sameBut sb ?_, fun h3 sb3 => ?_⟩) (.inr hyl))
  · rcases ha with z | z
    · rw [z]; exact f1
    · exact fun e => f4 y a z e.symm
  · exact ⟨_, H', I2.turned (t' := s2.toks) (fun b o hb e => (sb3.2 b hb).trans e) f0 f1 f3 f4 f5, q⟩⟩
end
end Mi


set_option Elab.async false
set_option maxRecDepth 100000
set_option maxHeartbeats 2000000
/-! Mi9: targets, comprehensions. -/
namespace Mi
open PySem L2
/-! ### slots that are set -/
theorem Env.get_set {ρ : Env} {i j : Nat} {x : Option Cell} {q : Cell} (h : Env.get (ρ.set i x) j = some q) : (j = i ∧ x = some q ∧ i < ρ.length) ∨ (j ≠ i ∧ ρ.get j = some q) := by
  unfold Env.get at h ⊢
  by_cases e : j = i
  · subst e
    by_cases hl : j < ρ.length
    · rw [List.getElem?_set_self hl] at h
      cases x with
      | none => cases h
      | some y => exact .inl ⟨rfl, h, hl⟩
    · rw [List.getElem?_eq_none (by simpa using hl)] at h
      cases h
  · rw [List.getElem?_set_ne (Ne.symm e)] at h
    exact .inr ⟨e, h⟩
section
variable {S : Sx} {ρ : Env} {σ : St} {G H : Hp}
theorem Slots.wish {W : WX} (h : Slots S ρ σ G H) : Slots { S with W := W } ρ σ G H := ⟨h.len, h.val, h.own, h.sep⟩
theorem Slots.unwish {W : WX} (h : Slots { S with W := W } ρ σ G H) : Slots S ρ σ G H := ⟨h.len, h.val, h.own, h.sep⟩
/-- a slot gets a known value, or is forgotten -/
theorem Slots.set {i : Nat} {x : Option D} {v : Option V} (h : Slots S ρ σ G H) (r : ∀ d, x = some d → ∃ u, v = some u ∧ Rep S.K S.a G d u) : Slots S (ρ.set i (x.map Cell.val)) (σ.set i v) G H := by
  refine ⟨by rw [List.length_set, List.length_set, h.len], fun j d e => ?_, fun j ds e => ?_, fun j l ds es ne e1 e2 => ?_⟩
  · rcases Env.get_set e with ⟨rfl, e1, hl⟩ | ⟨ne, e1⟩
    · cases x with
      | none => cases e1
      | some d' =>
        cases e1
        obtain ⟨u, rfl, ru⟩ := r d rfl
        exact ⟨u, List.getElem?_set_self (by rw [← h.len]; exact hl), ru⟩
    · obtain ⟨u, e2, ru⟩ := h.val j d e1
      exact ⟨u, by rw [List.getElem?_set_ne (Ne.symm ne)]; exact e2, ru⟩
  · rcases Env.get_set e with ⟨rfl, e1, hl⟩ | ⟨ne, e1⟩
    · cases x <;> cases e1
    · obtain ⟨p, vs, e2, k⟩ := h.own j ds e1
      exact ⟨p, vs, by rw [List.getElem?_set_ne (Ne.symm ne)]; exact e2, k⟩
  · rcases Env.get_set e1 with ⟨rfl, z, _⟩ | ⟨n1, z1⟩
    · cases x <;> cases z
    · rcases Env.get_set e2 with ⟨rfl, z, _⟩ | ⟨n2, z2⟩
      · cases x <;> cases z
      · rw [List.getElem?_set_ne (Ne.symm n1), List.getElem?_set_ne (Ne.symm n2)]
        exact h.sep j l ds es ne z1 z2
theorem Slots.setV {i : Nat} {d : D} {v : V} (h : Slots S ρ σ G H) (r : Rep S.K S.a G d v) : Slots S (ρ.set i (some (.val d))) (σ.set i (some v)) G H :=
  h.set (x := some d) (v := some v) fun d' e => by cases e; exact ⟨v, rfl, r⟩
theorem Slots.setN {i : Nat} (h : Slots S ρ σ G H) : Slots S (ρ.set i none) (σ.set i none) G H :=
  h.set (x := none) (v := none) fun d' e => nomatch e
theorem Slots.wipe (h : Slots S ρ σ G H) : ∀ vs : List Nat, Slots S (wipeE ρ vs) (L2.wipe σ vs) G H
  | [] => h
  | v :: vs => by
    unfold wipeE L2.wipe
    exact (Slots.wipe h vs).setN
end
theorem wipe_get {σ : St} {j : Nat} : ∀ vs : List Nat, (wipe σ vs)[j]? = if j ∈ vs then (σ[j]?).map (fun _ => none) else σ[j]?
  | [] => by simp [wipe]
  | v :: vs => by
    unfold wipe
    by_cases e : j = v
    · subst e
      rw [if_pos List.mem_cons_self]
      by_cases hl : j < σ.length
      · rw [List.getElem?_set_self (by rw [wipe_length]; exact hl), List.getElem?_eq_getElem hl]; rfl
      · rw [List.getElem?_eq_none (by rw [List.length_set, wipe_length]; omega), List.getElem?_eq_none (by omega)]; rfl
    · rw [List.getElem?_set_ne (Ne.symm e), wipe_get vs]
      by_cases hv : j ∈ vs
      · rw [if_pos hv, if_pos (List.mem_cons_of_mem _ hv)]
      · rw [if_neg hv, if_neg (by simp [e, hv])]
theorem wipe_set {σ : St} {i : Nat} {x : Option V} {vs : List Nat} (h : i ∈ vs) : wipe (σ.set i x) vs = wipe σ vs := by
  apply List.ext_getElem?
  intro j
  rw [wipe_get, wipe_get]
  by_cases e : j = i
  · subst e
    rw [if_pos h, if_pos h]
    by_cases hl : j < σ.length
    · rw [List.getElem?_set_self hl, List.getElem?_eq_getElem hl]; rfl
    · rw [List.getElem?_eq_none (by rw [List.length_set]; omega), List.getElem?_eq_none (by omega)]
  · rw [List.getElem?_set_ne (Ne.symm e)]
theorem wipe_wipe {σ : St} {vs : List Nat} : wipe (wipe σ vs) vs = wipe σ vs := by
  apply List.ext_getElem?
  intro j
  rw [wipe_get, wipe_get]
  split
  · cases σ[j]? <;> rfl
  · rfl
/-! ### targets -/
def gNames : List Nat → TGs
  | [] => gNil
  | i :: is => gCons (gName i) (gNames is)
def gTg (K : PySem.W.Frag) : Tg → TG
  | .nm i => gName i
  | .tup is => gTup K is.length (gNames is)
section
variable {X : Cx} {c : TC} {S : Sx} {k : Nat}
theorem TC.tgt_ok {x : Str} {i : Nat} (h : c.tgt x = some i) : (c.nm.lookup x = some .local ∨ (c.nm.lookup x = some .cell ∧ x ∈ c.cel)) ∧ c.N[i]? = some x := by
  have fin : ∀ {i : Nat}, c.N.findIdx? (· == x) = some i → c.N[i]? = some x := fun {i} h => by
    obtain ⟨hi, e, _⟩ := List.findIdx?_eq_some_iff_getElem.mp h
    rw [List.getElem?_eq_getElem hi]
    have : c.N[i] = x := by simpa using e
    rw [this]
  unfold TC.tgt at h
  split at h
  · exact ⟨.inl (by assumption), fin h⟩
  · split at h
    · rename_i hc
      exact ⟨.inr ⟨by assumption, by simpa using hc⟩, fin h⟩
    · cases h
  · cases h
theorem GX.store (g : GX X c S k) {x : Str} {i : Nat} (h : c.tgt x = some i) : X.N.Nodup ∧ X.N[i]? = some x ∧ L2.Loc X.env.scope x ∧ (X.fn x = true ∨ X.env.scope.names.lookup x = some .local) := by
  obtain ⟨h1, h2⟩ := TC.tgt_ok h
  refine ⟨by rw [g.N]; exact g.nd, by rw [g.N]; exact h2, ?_, ?_⟩
  · unfold L2.Loc
    rw [g.nm]
    rcases h1 with z | ⟨z, _⟩
    · exact .inl z
    · exact .inr z
  · rw [g.nm]
    rcases h1 with z | ⟨_, z⟩
    · exact .inr z
    · exact .inl (g.cel x z)
theorem snd_tgN (g : GX X c S k) {x : Str} {i : Nat} {p : Pos} (h : c.tgt x = some i) : PG X (.Name x p) (gName i) := by
  obtain ⟨h1, h2, h3, h4⟩ := g.store h
  exact pg_name h1 h2 h3 h4
theorem each_names {env : PySem.Env} : ∀ {es : List Expr} {is : List Nat}, trTgs c es = some is → (assignEach es env).length = is.length ∧ (assignEach es env).findIdx? (·.1) = none ∧ ∀ x p r, es = .Name x p :: r → (assignEach es env).map (·.2) = assign (.Name x p) env :: (assignEach r env).map (·.2)
  | [], is, h => by
    unfold trTgs at h
    cases h
    exact ⟨rfl, rfl, fun _ _ _ e => nomatch e⟩
  | e :: es, is, h => by
    unfold trTgs at h
    split at h
    · rename_i e1; cases e1
    · rename_i x p r e1
      cases e1
      split at h
      · rename_i i is' h1 h2
        cases h
        obtain ⟨l1, l2, _⟩ := each_names (env := env) h2
        refine ⟨?_, ?_, fun x' p' r' e2 => ?_⟩
        · show (assignEach es env).length + 1 = _
          rw [l1]; rfl
        · show List.findIdx? (·.1) ((false, assign (.Name x p) env) :: assignEach es env) = none
          rw [List.findIdx?_cons, l2]; rfl
        · cases e2; rfl
      · cases h
    · cases h
theorem snd_tgs (g : GX X c S k) : ∀ {es : List Expr} {is : List Nat}, trTgs c es = some is → PGs X es (gNames is)
  | [], is, h => by
    unfold trTgs at h
    cases h
    exact pgs_nil
  | e :: es, is, h => by
    have h0 := h
    unfold trTgs at h
    split at h
    · rename_i e1; cases e1
    · rename_i x p r e1
      cases e1
      split at h
      · rename_i i is' h1 h2
        cases h
        exact pgs_cons (snd_tgN g h1) (snd_tgs g h2) ((each_names h0).2.2 _ _ _ rfl)
      · cases h
    · cases h
theorem snd_tg (g : GX X c S k) {e : Expr} {tg : Tg} (h : trTg c e = some tg) : PG X e (gTg X.K tg) := by
  unfold trTg at h
  split at h
  · obtain ⟨i, h1, rfl⟩ := Option.map_eq_some_iff.mp h
    exact snd_tgN g h1
  · split at h
    · cases h
    rename_i hc
    obtain ⟨is, h1, rfl⟩ := Option.map_eq_some_iff.mp h
    exact pg_tup (g.calm (by simpa using hc)) (snd_tgs g h1) (each_names h1).1 (each_names h1).2.1
  · cases h
theorem gNames_of {ρ1 : Env} : ∀ {is : List Nat} {ds : List D} {vs : List V} {ρ : Env} {σ : St} {G H : Hp} {Q : St → Hp → Prop}, Reps S.K S.a G ds vs → ds.length = is.length → setAll ρ is ds = ρ1 →
    (∀ σ1, (∀ G2 H2, Same G G2 → Slots S ρ σ G2 H2 → Slots S ρ1 σ1 G2 H2) → (∀ own : List Nat, is.all own.contains = true → wipe σ1 own = wipe σ own) → Q σ1 H) → gNames is vs σ H Q
  | [], ds, vs, ρ, σ, G, H, Q, r, hl, e, k => by
    cases ds with
    | nil =>
      unfold Reps at r
      subst r
      unfold setAll at e
      subst e
      exact ⟨rfl, k σ (fun _ _ _ h => h) fun _ _ => rfl⟩
    | cons d ds => simp at hl
  | i :: is, ds, vs, ρ, σ, G, H, Q, r, hl, e, k => by
    cases ds with
    | nil => simp at hl
    | cons d ds =>
      unfold Reps at r
      obtain ⟨v, rr, rfl, q, t⟩ := r
      unfold setAll at e
      refine ⟨v, rr, rfl, ?_⟩
      refine gNames_of t (by simpa using hl) e fun σ1 s1 hw => k σ1 (fun G2 H2 s h => s1 G2 H2 s (h.setV (q.mono s))) fun own ho => ?_
      rw [List.all_cons, Bool.and_eq_true] at ho
      rw [hw own ho.2]
      exact wipe_set (by simpa using ho.1)
theorem gTg_of {ρ ρ1 : Env} {σ : St} {G H : Hp} {d : D} {v : V} {tg : Tg} {Q : St → Hp → Prop} (w : Same G H) (r : Rep S.K S.a G d v) (hb : bindTg ρ tg d = some ρ1)
    (k : ∀ σ1, (∀ G2 H2, Same G G2 → Slots S ρ σ G2 H2 → Slots S ρ1 σ1 G2 H2) → (∀ own, tgIn own tg = true → wipe σ1 own = wipe σ own) → Q σ1 H) : gTg S.K tg v σ H Q := by
  cases tg with
  | nm i =>
    unfold bindTg at hb
    cases hb
    exact k _ (fun G2 H2 s h => h.setV (r.mono s)) fun own ho => wipe_set (by simpa [tgIn] using ho)
  | tup is =>
    unfold bindTg at hb
    split at hb
    · rename_i e; cases e
    · rename_i ds e
      cases e
      split at hb
      · rename_i hl
        cases hb
        unfold Rep at r
        obtain ⟨p, vs, rfl, q, rs⟩ := r
        exact ⟨p, vs, rfl, SqT.mono w q, by rw [rs.length]; exact hl, gNames_of rs hl rfl fun σ1 s1 hw => k σ1 s1 fun own ho => hw own ho⟩
      · cases hb
    · cases hb
/-! ### comprehensions -/
abbrev Sx.nox (S : Sx) : Sx := { S with W := fun _ _ _ _ => False }
theorem blkOk_ok (g : GX X c S k) {sc : Scope} (h : blkOk c sc = true) : BlkOk X.N X.env.scope sc (ownOf c.N sc.names) := by
  refine blkOk_by ?_
  unfold blkOk at h
  unfold blkC at h ⊢
  rw [g.N, g.nm]
  exact h
theorem gx_blk (g : GX X c S k) (hc : c.hot = false) {sc : Scope} (h : blkOk c sc = true) (s : Shared) (H : Hp) (C : Addr) (cl : List (Str × Addr)) (fp : List Addr) : GX (X.blk s H sc (compEnvC sc cl C X.env) fp) (c.blk sc) S.nox k := by
  have b := blkOk_ok g h
  refine ⟨g.N, g.nd, ?_, b.kind, g.calm, g.rm, g.cold, (fun z => absurd (hc.symm.trans z) Bool.false_ne_true), g.hX, g.hK, fun _ _ ⟨_, _, _, _, _, _, _, _, _, _, _, _, _, _, _, _, w⟩ => w.elim, ⟨g.tab.fn, g.tab.fx, g.tab.bi, g.tab.ar, g.tab.con, g.tab.dc, g.tab.df, g.tab.cl⟩, fun x hx => ?_⟩
  · show (relS sc X.env.scope).names = blkN sc c.nm
    unfold relS blkN
    rw [g.fk, g.nm]
    simp
  · have hx : x ∈ (sc.names.filter (·.2 == .cell)).map (·.1) := hx
    obtain ⟨y, hy, rfl⟩ := List.mem_map.mp hx
    obtain ⟨h1, h2⟩ := List.mem_filter.mp hy
    show (sc.names.lookup y.1 == some .cell) = true
    rw [b.uniq y h1]
    have : y.2 = .cell := by simpa using h2
    rw [this]; rfl
theorem gx_hBlk (g : GX X c S k) {sc : Scope} (h : blkOk c sc = true) (s : Shared) (H : Hp) (C : Addr) (cl : List (Str × Addr)) (fp : List Addr) : GX (hBlk X s H sc (compEnvC sc cl C X.env) fp) (c.blk sc) S.nox k := by
  have b := blkOk_ok g h
  refine ⟨g.N, g.nd, ?_, b.kind, g.calm, g.rm, g.cold, g.hand, g.hX, g.hK, fun _ _ ⟨_, _, _, _, _, _, _, _, _, _, _, _, _, _, _, _, w⟩ => w.elim, ⟨g.tab.fn, g.tab.fx, g.tab.bi, g.tab.ar, g.tab.con, g.tab.dc, g.tab.df, g.tab.cl⟩, fun x hx => ?_⟩
  · show (relS sc X.env.scope).names = blkN sc c.nm
    unfold relS blkN
    rw [g.fk, g.nm]
    simp
  · have hx : x ∈ (sc.names.filter (·.2 == .cell)).map (·.1) := hx
    obtain ⟨y, hy, rfl⟩ := List.mem_map.mp hx
    obtain ⟨h1, h2⟩ := List.mem_filter.mp hy
    show (sc.names.lookup y.1 == some .cell) = true
    rw [b.uniq y h1]
    have : y.2 = .cell := by simpa using h2
    rw [this]; rfl
theorem GX.hotC (g : GX X c S k) (h : c.hot = true) : L2H.HotC X := by
  obtain ⟨p, _, _, _, _, q, m⟩ := g.hand h
  exact ⟨p, q, m⟩
def notSet : Expr → Bool
  | .Set _ _ _ => false
  | _ => true
theorem fold_set {e : Expr} (h : notSet e = true) (env : PySem.Env) (x : Value) : foldedSetIterable e env x = pure x := by
  cases e <;> first | rfl | (simp [notSet] at h)
theorem oneOrNone_ok {o : Option Bool} {r : R D} {g g' : Gs} {zs : List D} (h : oneOrNone o r g = .ok zs g') : (o = some true ∧ ∃ d, r = .ok d g' ∧ zs = [d]) ∨ (o = some false ∧ g' = g ∧ zs = []) := by
  cases o with
  | none => cases h
  | some b =>
    cases b with
    | true =>
      cases r with
      | ok d g1 => cases h; exact .inl ⟨rfl, d, rfl, rfl⟩
      | ex e g1 => cases h
      | no => cases h
    | false => cases h; exact .inr ⟨rfl, rfl, rfl⟩
/-- the turns of a comprehension -/
theorem comp_core {tg : Tg} {mi mc me : E} {own : List Nat} (htg : tgIn own tg = true) {σ : St} {H : Hp} {Q : VK} (h : tF S (.comp tg mi mc own me) σ H Q) :
    tLc (tI S mi) (gTg S.K tg) (tT S.nox mc) (tE S.nox me) own σ H Q := by
  obtain ⟨ρ, G, gs, sl, w, q⟩ := h
  unfold ev at q
  refine ⟨ρ, G, gs, sl, w, Res.step q fun xs g1 G1 H1 x1 w1 q1 J hJ Da hD => ?_⟩
  generalize hF : (fun (x : D) (g : Gs) => match bindTg (wipeE ρ own) tg x with
      | some ρ1 => (brw mc ρ1 g (ev S.c mc ρ1 g)).bind fun k g => oneOrNone (truthG g k) (ev S.c me ρ1 g) g
      | none => R.no) = F at q1
  cases hz : compL F xs g1 with
  | no => rw [hz] at q1; exact q1.elim
  | ex e g2 => rw [hz] at q1; exact q1.elim
  | ok zs gz =>
    rw [hz] at q1
    unfold sized at q1
    simp only at q1
    split at q1
    case isFalse => exact q1.elim
    rename_i hsz
    have nD : ¬ S.a.has Da := w1.not hD
    let W : Nat → Hp → Prop := fun i H => i ≤ xs.length ∧ ∃ G g acc accV zr, compL F (xs.drop i) g = .ok zr gz ∧ acc ++ zr = zs ∧ H Da = some (.lst accV) ∧ Reps S.K S.a G acc accV ∧ G Da = none ∧ Ext S.a G1 H1 G H ∧ World S.a g G H
    refine ⟨fun i m H => m = xs.length - i ∧ W i H, ⟨_, rfl, Nat.zero_le _, G1, g1, [], [], zs, hz, rfl, upd_same, Reps.nil, w1.sub.free hD, (Ext.fresh w1 hD).1, (Ext.fresh w1 hD).2⟩, ?_⟩
    rintro i m H ⟨rfl, hi, G, g, acc, accV, zr, e1, e2, e3, rs, gD, x2, w2⟩
    by_cases hlt : i < xs.length
    · refine .inr ⟨hJ.goes i G H hlt x2, W (i + 1), fun H' p' => ⟨xs.length - (i + 1), by omega, rfl, p'⟩, fun x H' y => ?_⟩
      obtain ⟨d, ed, k1⟩ := hJ.yields i H x H' G hlt x2 y
      obtain ⟨G', x3, w3, rd⟩ := k1 G g w2 x2.gg
      have edrop : xs.drop i = d :: xs.drop (i + 1) := by
        have hg : xs[i] = d := by
          rw [List.getElem?_eq_getElem hlt] at ed
          exact Option.some.inj ed
        rw [List.drop_eq_getElem_cons hlt, hg]
      rw [edrop] at e1
      unfold compL at e1
      cases hf : F d g with
      | no => rw [hf] at e1; cases e1
      | ex e g2 => rw [hf] at e1; cases e1
      | ok o g' =>
        rw [hf] at e1
        simp only at e1
        cases hr : compL F (xs.drop (i + 1)) g' with
        | no => rw [hr] at e1; cases e1
        | ex e g2 => rw [hr] at e1; cases e1
        | ok zr' gz' =>
          rw [hr] at e1
          cases e1
          have sl3 : Slots S ρ σ G' H' := sl.ext ((x1.trans x2).trans x3)
          have sl4 := sl3.wipe own
          rw [← hF] at hf
          simp only at hf
          cases hb : bindTg (wipeE ρ own) tg d with
          | none => rw [hb] at hf; cases hf
          | some ρ1 =>
            rw [hb] at hf
            simp only at hf
            refine gTg_of w3.sub rd hb fun σ2 tr hw => ⟨by rw [hw own htg]; exact wipe_wipe, ?_⟩
            have sl5 := tr G' H' (Same.refl G') sl4
            cases hc : brw mc ρ1 g (ev S.c mc ρ1 g) with
            | no => rw [hc] at hf; cases hf
            | ex e g2 => rw [hc] at hf; cases hf
            | ok kk g2 =>
              rw [hc, R.bind_ok] at hf
              refine ⟨ρ1, G', g, sl5.wish, w3, ?_⟩
              show Res S.nox σ2 G' H' (brw mc ρ1 g (ev S.c mc ρ1 g)) _
              rw [hc]
              intro G4 H4 x4 w4
              have keepD : ∀ {G5 H5 : Hp}, Ext S.a G H G5 H5 → H5 Da = some (.lst accV) ∧ G5 Da = none := fun {G5 H5} x5 => by
                refine ⟨x5.kp _ _ e3 nD, ?_⟩
                cases z : G5 Da with
                | none => rfl
                | some o5 =>
                  rcases x5.new _ _ z with z2 | z2
                  · rw [gD] at z2; cases z2
                  · rw [e3] at z2; cases z2
              rcases oneOrNone_ok hf with ⟨et, dy, ey, ez⟩ | ⟨et, eg, ez⟩
              · subst ez
                refine ⟨true, et, iteT ?_⟩
                refine ⟨ρ1, G4, g2, (sl5.ext x4).wish, w4, ?_⟩
                show Res S.nox σ2 G4 H4 (ev S.c me ρ1 g2) _
                rw [ey]
                intro G5 H5 x5 w5 v rv
                have xx : Ext S.a G H G5 H5 := (x3.trans x4).trans x5
                obtain ⟨k5, gD5⟩ := keepD xx
                have rs5 : Reps S.K S.a G5 (acc ++ [dy]) (accV ++ [v]) := (rs.mono xx.gg).append (Reps.cons rv Reps.nil)
                have hlen : accV.length < sizeLine := by
                  have l1 := rs.length
                  have l2 : zs.length = acc.length + ([dy] ++ zr').length := by rw [← e2, List.length_append]
                  rw [List.length_append, List.length_singleton] at l2
                  omega
                refine ⟨accV, k5, hlen, hlt, G5, g', acc ++ [dy], accV ++ [v], zr', hr, by rw [List.append_assoc]; exact e2, upd_same, rs5, gD5, ?_, ?_⟩
                · have x6 : Ext S.a G1 H1 G5 H5 := x2.trans xx
                  exact ⟨x6.gg, x6.new, fun b ob e nb => by rw [upd_ne (ne_of_none e hD)]; exact x6.kp b ob e nb, fun b e => x6.dm b (upd_none e)⟩
                · have up : ∀ b, S.a.has b → b ≠ Da := fun b hb2 z => nD (z ▸ hb2)
                  exact w5.move (fun b q => upd_ne (up b q)) (fun b ob e => by rw [upd_ne (ne_of_none e gD5)]; exact w5.sub b ob e) w5.off
              · subst ez eg
                refine ⟨false, et, iteF ?_⟩
                have xx : Ext S.a G H G4 H4 := x3.trans x4
                obtain ⟨k5, gD5⟩ := keepD xx
                exact ⟨hlt, G4, g', acc, accV, zr', hr, e2, k5, rs.mono xx.gg, gD5, x2.trans xx, w4⟩
    · have ei : i = xs.length := by omega
      subst ei
      rw [List.drop_length] at e1
      unfold compL at e1
      cases e1
      rw [List.append_nil] at e2
      subst e2
      refine .inl ⟨hJ.stops G H x2, q1 G H x2 w2 _ ?_⟩
      exact ⟨Da, accV, rfl, e3, nD, gD, x1.dm _ hD, rs⟩
end
end Mi


set_option Elab.async false
set_option maxRecDepth 100000
set_option maxHeartbeats 2000000
/-! Mi10: comprehensions of two clauses. -/
namespace Mi
open PySem L2
/-- the list that a comprehension fills -/
structure AccAt (S : Sx) (G1 H1 : Hp) (Da : Addr) (acc : List D) (G H : Hp) (g : Gs) : Prop where
  at_ : ∃ accV, H Da = some (.lst accV) ∧ Reps S.K S.a G acc accV
  off : G Da = none
  ext : Ext S.a G1 H1 G H
  wd : World S.a g G H
section
variable {S : Sx} {G1 H1 G H G' H' : Hp} {Da : Addr} {acc : List D} {g g' : Gs}
theorem AccAt.new (w : World S.a g G1 H1) (h : H1 Da = none) : AccAt S G1 H1 Da [] G1 (upd H1 Da (.lst [])) g :=
  ⟨⟨[], upd_same, Reps.nil⟩, w.sub.free h, (Ext.fresh w h).1, (Ext.fresh w h).2⟩
theorem AccAt.on (a : AccAt S G1 H1 Da acc G H g) (n : ¬ S.a.has Da) (x : Ext S.a G H G' H') (w : World S.a g' G' H') : AccAt S G1 H1 Da acc G' H' g' := by
  obtain ⟨accV, e, r⟩ := a.at_
  refine ⟨⟨accV, x.kp _ _ e n, r.mono x.gg⟩, ?_, a.ext.trans x, w⟩
  cases z : G' Da with
  | none => rfl
  | some o =>
    rcases x.new _ _ z with z2 | z2
    · rw [a.off] at z2; cases z2
    · rw [e] at z2; cases z2
theorem AccAt.push (a : AccAt S G1 H1 Da acc G H g) (n : ¬ S.a.has Da) (h : H1 Da = none) {d : D} {v : V} (r : Rep S.K S.a G d v) (hl : acc.length < sizeLine) :
    ∃ accV, H Da = some (.lst accV) ∧ accV.length < sizeLine ∧ AccAt S G1 H1 Da (acc ++ [d]) G (upd H Da (.lst (accV ++ [v]))) g := by
  obtain ⟨accV, e, rs⟩ := a.at_
  have up : ∀ b, S.a.has b → b ≠ Da := fun b hb z => n (z ▸ hb)
  refine ⟨accV, e, by rw [rs.length]; exact hl, ⟨_, upd_same, rs.append (Reps.cons r Reps.nil)⟩, a.off, ?_, ?_⟩
  · exact ⟨a.ext.gg, a.ext.new, fun b ob e2 nb => by rw [upd_ne (ne_of_none e2 h)]; exact a.ext.kp b ob e2 nb, fun b e2 => a.ext.dm b (upd_none e2)⟩
  · exact a.wd.move (fun b q => upd_ne (up b q)) (fun b ob e2 => by rw [upd_ne (ne_of_none e2 a.off)]; exact a.wd.sub b ob e2) a.wd.off
end
/-- one turn of compL -/
theorem compL_cons {α : Type} {f : D → Gs → R (List α)} {x : D} {xs : List D} {g gz : Gs} {zs : List α} (h : compL f (x :: xs) g = .ok zs gz) : ∃ o g1 r, f x g = .ok o g1 ∧ compL f xs g1 = .ok r gz ∧ zs = o ++ r := by
  unfold compL at h
  cases hf : f x g with
  | no => rw [hf] at h; cases h
  | ex e g2 => rw [hf] at h; cases h
  | ok o g1 =>
    rw [hf] at h
    simp only at h
    cases hr : compL f xs g1 with
    | no => rw [hr] at h; cases h
    | ex e g2 => rw [hr] at h; cases h
    | ok r g2 => rw [hr] at h; cases h; exact ⟨o, g1, r, rfl, hr, rfl⟩
theorem drop_at {α : Type} {xs : List α} {i : Nat} {d : α} (h : xs[i]? = some d) : xs.drop i = d :: xs.drop (i + 1) := by
  obtain ⟨hl, e⟩ := List.getElem?_eq_some_iff.mp h
  rw [List.drop_eq_getElem_cons hl, e]
section
variable {X : Cx} {c : TC} {S : Sx} {k : Nat}
theorem yesT {σ : St} {H : Hp} {A B : Hp → Prop} (h : A H) : tYes σ H fun b H3 => if b = true then A H3 else B H3 := by
  show (if true = true then A H else B H)
  rw [if_pos rfl]
  exact h
theorem tgIx_in (tg : Tg) : tgIn (tgIx tg) tg = true := by
  cases tg with
  | nm i => simp [tgIn, tgIx]
  | tup is => simp [tgIn, tgIx]
theorem comp2_core {tg tg2 : Tg} {mi mi2 me : E} {own : List Nat} (htg : tgIn own tg = true) {σ : St} {H : Hp} {Q : VK} (h : tF S (.comp2 tg mi tg2 mi2 own (tgIx tg2) me) σ H Q) :
    tLc2 (tI S mi) (gTg S.K tg) tYes (tJ S.nox mi2) (gTg S.K tg2) tYes (tE S.nox me) own (tgIx tg2) σ H Q := by
  obtain ⟨ρ, G, gs, sl, w, q⟩ := h
  unfold ev at q
  refine ⟨ρ, G, gs, sl, w, Res.step q fun xs g1 G1 H1 x1 w1 q1 J hJ Da hD => ?_⟩
  generalize hF : (fun (x : D) (g : Gs) => match bindTg (wipeE ρ own) tg x with
      | some ρ1 => (evJ S.c mi2 ρ1 g).bind fun ys g => compL (fun y g => match bindTg (wipeE ρ1 (tgIx tg2)) tg2 y with
        | some ρ2 => (ev S.c me ρ2 g).bind fun d g => .ok [d] g
        | none => .no) ys g
      | none => R.no) = F at q1
  cases hz : compL F xs g1 with
  | no => rw [hz] at q1; exact q1.elim
  | ex e g2 => rw [hz] at q1; exact q1.elim
  | ok zs gz =>
    rw [hz] at q1
    unfold sized at q1
    simp only at q1
    split at q1
    case isFalse => exact q1.elim
    rename_i hsz
    have nD : ¬ S.a.has Da := w1.not hD
    let W : Nat → Hp → Prop := fun i H => i ≤ xs.length ∧ ∃ G g acc zr, compL F (xs.drop i) g = .ok zr gz ∧ acc ++ zr = zs ∧ AccAt S G1 H1 Da acc G H g
    refine ⟨fun i m H => m = xs.length - i ∧ W i H, ⟨_, rfl, Nat.zero_le _, G1, g1, [], zs, hz, rfl, AccAt.new w1 hD⟩, ?_⟩
    rintro i m H ⟨rfl, hi, G, g, acc, zr, e1, e2, A⟩
    by_cases hlt : i < xs.length
    · refine .inr ⟨hJ.goes i G H hlt A.ext, W (i + 1), fun H' p' => ⟨xs.length - (i + 1), by omega, rfl, p'⟩, fun x H' y => ?_⟩
      obtain ⟨d, ed, k1⟩ := hJ.yields i H x H' G hlt A.ext y
      obtain ⟨G', x3, w3, rd⟩ := k1 G g A.wd A.ext.gg
      rw [drop_at ed] at e1
      obtain ⟨o, g', zr', hf, hr, ez⟩ := compL_cons e1
      subst ez
      have sl3 : Slots S ρ σ G' H' := sl.ext ((x1.trans A.ext).trans x3)
      have sl4 := sl3.wipe own
      rw [← hF] at hf
      simp only at hf
      cases hb : bindTg (wipeE ρ own) tg d with
      | none => rw [hb] at hf; cases hf
      | some ρ1 =>
        rw [hb] at hf
        simp only at hf
        refine gTg_of w3.sub rd hb fun σ2 tr hw => ⟨by rw [hw own htg]; exact wipe_wipe, ?_⟩
        refine yesT ?_
        have sl5 := tr G' H' (Same.refl G') sl4
        cases hc : evJ S.c mi2 ρ1 g with
        | no => rw [hc] at hf; cases hf
        | ex e g2 => rw [hc] at hf; cases hf
        | ok ys g2 =>
          rw [hc, R.bind_ok] at hf
          refine ⟨ρ1, G', g, sl5.wish, w3, ?_⟩
          show Res S.nox σ2 G' H' (evJ S.c mi2 ρ1 g) _
          rw [hc]
          intro G4 H4 x4 w4 J1 hJ1
          have A4 : AccAt S G1 H1 Da acc G4 H4 g2 := (A.on nD x3 w3).on nD x4 w4
          generalize hF2 : (fun (y : D) (g : Gs) => match bindTg (wipeE ρ1 (tgIx tg2)) tg2 y with
              | some ρ2 => (ev S.c me ρ2 g).bind fun d g => R.ok [d] g
              | none => R.no) = F2 at hf
          let W1 : Nat → Hp → Prop := fun j H => j ≤ ys.length ∧ ∃ G g acc2 o2, compL F2 (ys.drop j) g = .ok o2 g' ∧ acc2 ++ o2 = o ∧ AccAt S G1 H1 Da (acc ++ acc2) G H g ∧ Same G4 G
          refine ⟨fun j m H => m = ys.length - j ∧ W1 j H, ⟨_, rfl, Nat.zero_le _, G4, g2, [], o, hf, rfl, by rw [List.append_nil]; exact A4, Same.refl G4⟩, ?_⟩
          rintro j m H5 ⟨rfl, hj, G5, g5, acc2, o2, f1, f2, A5, s5⟩
          have c5 : Same G4 G5 ∧ Same G5 H5 := ⟨s5, A5.wd.sub⟩
          by_cases hlj : j < ys.length
          · refine .inr ⟨hJ1.goes j G5 H5 hlj c5, W1 (j + 1), fun H' p' => ⟨ys.length - (j + 1), by omega, rfl, p'⟩, fun x2 H6 y2 => ?_⟩
            obtain ⟨d2, ed2, k2⟩ := hJ1.yields j H5 x2 H6 G5 hlj c5 y2
            obtain ⟨G6, x6, w6, rd2⟩ := k2 G5 g5 A5.wd s5
            rw [drop_at ed2] at f1
            obtain ⟨o3, g6, o2', hf3, hr3, ez3⟩ := compL_cons f1
            subst ez3
            rw [← hF2] at hf3
            simp only at hf3
            have A6 := A5.on nD x6 w6
            have sl6 : Slots S ρ1 σ2 G6 H6 := tr G6 H6 ((x4.gg.trans s5).trans x6.gg) ((sl.ext (x1.trans A6.ext)).wipe own)
            cases hb2 : bindTg (wipeE ρ1 (tgIx tg2)) tg2 d2 with
            | none => rw [hb2] at hf3; cases hf3
            | some ρ2 =>
              rw [hb2] at hf3
              simp only at hf3
              refine gTg_of w6.sub rd2 hb2 fun σ3 tr2 hw2 => ⟨by rw [hw2 (tgIx tg2) (tgIx_in tg2)]; exact wipe_wipe, ?_⟩
              refine yesT ?_
              have sl7 := tr2 G6 H6 (Same.refl G6) (sl6.wipe (tgIx tg2))
              refine ⟨ρ2, G6, g5, sl7.wish, w6, ?_⟩
              show Res S.nox σ3 G6 H6 (ev S.c me ρ2 g5) _
              cases he : ev S.c me ρ2 g5 with
              | no => rw [he] at hf3; cases hf3
              | ex e g2 => rw [he] at hf3; cases hf3
              | ok dy gy =>
                rw [he] at hf3
                cases hf3
                intro G7 H7 x7 w7 v rv
                have hlen : (acc ++ acc2).length < sizeLine := by
                  have l2 := congrArg List.length e2
                  have l3 := congrArg List.length f2
                  simp only [List.length_append, List.length_cons, List.length_nil] at l2 l3 ⊢
                  omega
                obtain ⟨accV, k5, k6, A7⟩ := (A6.on nD x7 w7).push nD hD rv hlen
                refine ⟨accV, k5, k6, hlj, G7, g6, acc2 ++ [dy], o2', hr3, by rw [List.append_assoc]; exact f2, by rw [← List.append_assoc]; exact A7, (s5.trans x6.gg).trans x7.gg⟩
          · have ej : j = ys.length := by omega
            subst ej
            rw [List.drop_length] at f1
            unfold compL at f1
            cases f1
            rw [List.append_nil] at f2
            subst f2
            exact .inl ⟨hJ1.stops G5 H5 c5, hlt, G5, g', acc ++ acc2, zr', hr, by rw [List.append_assoc]; exact e2, A5⟩
    · have ei : i = xs.length := by omega
      subst ei
      rw [List.drop_length] at e1
      unfold compL at e1
      cases e1
      rw [List.append_nil] at e2
      subst e2
      obtain ⟨accV, e3, rs⟩ := A.at_
      refine .inl ⟨hJ.stops G H A.ext, q1 G H A.ext A.wd _ ?_⟩
      exact ⟨Da, accV, rfl, e3, nD, A.off, x1.dm _ hD, rs⟩
end
end Mi


set_option Elab.async false
set_option maxRecDepth 100000
set_option maxHeartbeats 4000000
/-! Mi11: what is translated is sound: expressions. -/
namespace Mi
open PySem L2
section
/-- the claims of one depth -/
structure SndE (n : Nat) : Prop where
  e : ∀ {X : Cx} {c : TC} {S : Sx} {k : Nat} {t : Bool} {e : Expr} {m : E}, GX X c S k → trE c t n e = some m →
    notStar e = true ∧ notSet e = true ∧ (t = false → PE X e (tE S m) ∧ PE X e (tB S m) ∧ (isFr m = true → PE X e (tF S m))) ∧ (t = true → PT X e (tT S m))
  l : ∀ {X : Cx} {c : TC} {S : Sx} {k : Nat} {es : List Expr} {ms : List E}, GX X c S k → trL c n es = some ms → es.all notStar = true ∧ PA X es (tL S ms) ∧ PA X es (tLB S ms)
  bo : ∀ {X : Cx} {c : TC} {S : Sx} {k : Nat} {t : Bool} {o : BoolOp} {es : List Expr} {m : E} {pos : Pos}, GX X c S k → trBo c t n o es = some m →
    (t = false → PE X (.BoolOp o es pos) (tE S m) ∧ PE X (.BoolOp o es pos) (tB S m) ∧ (isFr m = true → PE X (.BoolOp o es pos) (tF S m))) ∧ (t = true → PW X (.BoolOp o es pos) (tT S m)) ∧ es ≠ []
  o : ∀ {X : Cx} {c : TC} {S : Sx} {k : Nat} {e : Option Expr} {m : E}, GX X c S k → trO c n e = some m → PO X e (tO S m)
  q : ∀ {X : Cx} {c : TC} {S : Sx} {k : Nat} {es : List Expr} {m : E}, GX X c S k → trIf c n es = some m → PTs X es (tT S m)
  i : ∀ {X : Cx} {c : TC} {S : Sx} {k : Nat} {tg e : Expr} {m : E} {tt : Bool}, GX X c S k → trI c tt n e = some m → (tt = true → isTT tg = true) → notSet e = true ∧ PI X tg e (tI S m) ∧ PI X tg e (tJ S m) ∧ (isRng m = true → PI X tg e (tW S m))
  h : ∀ {X : Cx} {c : TC} {S : Sx} {k : Nat} {tg e : Expr} {m : E} {tt : Bool}, GX X c S k → trI c tt n e = some m → c.isRngE e = true → notSet e = true ∧ L2H.PIH X tg e (tI S m)
theorem brw_nn {m : E} (h : ∀ i, m ≠ .nm i) {X : Cx} {e : Expr} {S : Sx} (p : PE X e (tE S m)) : PE X e (tE S m) ∧ PE X e (tB S m) ∧ (isFr m = true → PE X e (tF S m)) → PE X e (tB S m) := fun q => q.2.1
theorem ofE {X : Cx} {e : Expr} {S : Sx} {m : E} (h : ∀ i, m ≠ .nm i) (f : isFr m = false) (p : PE X e (tE S m)) : PE X e (tE S m) ∧ PE X e (tB S m) ∧ (isFr m = true → PE X e (tF S m)) :=
  ⟨p, pe_toB h p, fun z => by rw [f] at z; cases z⟩
theorem ofF {X : Cx} {e : Expr} {S : Sx} {m : E} (h : ∀ i, m ≠ .nm i) (p : PE X e (tF S m)) : PE X e (tE S m) ∧ PE X e (tB S m) ∧ (isFr m = true → PE X e (tF S m)) :=
  ⟨pe_ofF p, pe_toB h (pe_ofF p), fun _ => p⟩
theorem isNeg1_eq {e : Expr} (h : isNeg1 e = true) : ∃ k p1 p2, e = .UnaryOp .USub (.Constant (.int 1) k p1) p2 := by
  unfold isNeg1 at h
  split at h
  · exact ⟨_, _, _, rfl⟩
  · cases h
theorem snd_const {X : Cx} {S : Sx} {k : Const} {d : D} (h : trK k = some d) (j : Nat) (pos : Pos) : PE X (.Constant k j pos) (tE S (.lit d)) := by
  cases k <;> simp only [trK, Option.some.injEq, reduceCtorEq] at h <;> subst h
  · exact snd_lit pe_non fun G => by unfold Rep; rfl
  · exact snd_lit pe_bl fun G => by unfold Rep; rfl
  · exact snd_lit pe_int fun G => by unfold Rep; rfl
  · exact snd_lit pe_str fun G => by unfold Rep; rfl
theorem plainIx_of {b : Expr} (h : ∀ lo hi st p, b ≠ .Slice lo hi st p) : PlainIx b := by
  intro o i
  cases b <;> first | rfl | exact absurd rfl (h _ _ _ _)
theorem slice_none {c : TC} {t : Bool} {n : Nat} {lo hi st p} : trE c t n (.Slice lo hi st p) = none := by
  cases n with
  | zero => unfold trE; rfl
  | succ n => unfold trE; rfl
theorem pts_tT {X : Cx} {S : Sx} : PTs X [] (tT S (.lit (.bl true))) := ⟨fun pins s σ H Q I ⟨ρ, G, gs, sl, w, q⟩ => by
  rw [brw_of (fun i => by simp)] at q
  unfold ev at q
  obtain ⟨b, e, q1⟩ := Res.here w q
  cases e
  exact pts_nil.run pins s σ H Q I q1⟩
theorem pw_one {X : Cx} {S : Sx} {o : BoolOp} {e : Expr} {m : E} {pos : Pos} (h : PT X e (tT S m)) : PW X (.BoolOp o [e] pos) (tT S m) := by
  cases o with
  | And => exact pw_and1 h
  | Or => exact pw_or1 h
theorem finP {X : Cx} {c : TC} {S : Sx} {k : Nat} {t : Bool} {e : Expr} {m : E} (g : GX X c S k) (h1 : notStar e = true) (h2 : notSet e = true) (q : PE X e (tE S m) ∧ PE X e (tB S m) ∧ (isFr m = true → PE X e (tF S m)))
    (he : ∀ whole, PySem.isTrue e X.env whole = (do let v ← whole; standAt e.pos; holding [v] (truthy v))) :
    notStar e = true ∧ notSet e = true ∧ (t = false → PE X e (tE S m) ∧ PE X e (tB S m) ∧ (isFr m = true → PE X e (tF S m))) ∧ (t = true → PT X e (tT S m)) :=
  ⟨h1, h2, fun _ => q, fun _ => snd_truth g q.2.1 he⟩
theorem trTys_one {c : TC} {x : Str} {p : Pos} {ts : List Ty} (h : trTys c [.Name x p] = some ts) : ∃ t, c.isG x = true ∧ trTy x = some t ∧ ts = [t] := by
  unfold trTys at h
  split at h
  · rename_i hg
    split at h
    · rename_i t ts' h1 h2
      unfold trTys at h2
      cases h2
      cases h
      exact ⟨t, hg, h1, rfl⟩
    · cases h
  · cases h
theorem biOf_hot {c : TC} {f : Str} {n : Nat} {b : BI} (h : c.biOf f n = some b) : Mi.biOf f n = some b ∧ (c.hot = true → biHot b = true) := by
  unfold TC.biOf at h
  split at h
  · rename_i b' e
    split at h
    · cases h
    · rename_i hn
      cases h
      refine ⟨e, fun z => ?_⟩
      cases q : biHot b with
      | true => rfl
      | false => exact absurd ⟨z, q⟩ hn
  · cases h
theorem tgIx_sub {own : List Nat} {tg : Tg} (h : tgIn own tg = true) : ∀ i ∈ tgIx tg, i ∈ own := fun i hi => by
  cases tg with
  | nm j =>
    simp only [tgIx, List.mem_singleton] at hi
    subst hi
    simpa [tgIn] using h
  | tup is =>
    simp only [tgIx] at hi
    simp only [tgIn, List.all_eq_true] at h
    simpa using h i hi
theorem snd_tgB {X : Cx} {c : TC} {S : Sx} {k : Nat} (g : GX X c S k) (hc : c.hot = false) {sc : Scope} (hb : blkOk c sc = true) {e : Expr} {tg : Tg} (h : trTg (c.blk sc) e = some tg) (s : Shared) (H : Hp) (C : Addr) (cl : List (Str × Addr)) (fp : List Addr) :
    PG (X.blk s H sc (compEnvC sc cl C X.env) fp) e (gTg X.K tg) := snd_tg (gx_blk g hc hb s H C cl fp) h
theorem snd_tgH {X : Cx} {c : TC} {S : Sx} {k : Nat} (g : GX X c S k) {sc : Scope} (hb : blkOk c sc = true) {e : Expr} {tg : Tg} (h : trTg (c.blk sc) e = some tg) (s : Shared) (H : Hp) (C : Addr) (cl : List (Str × Addr)) (fp : List Addr) :
    PG (hBlk X s H sc (compEnvC sc cl C X.env) fp) e (gTg X.K tg) := snd_tg (gx_hBlk g hb s H C cl fp) h
end
end Mi
namespace Mi
open PySem L2
theorem snd_zero : SndE 0 := by
  refine ⟨fun _ h => ?_, fun _ h => ?_, fun _ h => ?_, fun _ h => ?_, fun _ h => ?_, fun _ h _ => ?_, fun _ h _ => ?_⟩
  · unfold trE at h; cases h
  · unfold trL at h; cases h
  · unfold trBo at h; cases h
  · unfold trO at h; cases h
  · unfold trIf at h; cases h
  · unfold trI at h; cases h
  · unfold trI at h; cases h
theorem snd_succ {n : Nat} (ih : SndE n) : SndE (n + 1) := by
  refine ⟨fun {X c S k t e m} g h => ?_, fun {X c S k es ms} g h => ?_, fun {X c S k t o es m pos} g h => ?_, fun {X c S k e m} g h => ?_, fun {X c S k es m} g h => ?_, fun {X c S k tg e m tt} g h htt => ?_, fun {X c S k tg e m tt} g h hr => ?_⟩
  · unfold trE at h
    simp only at h
    have E1 : ∀ {a : Expr} {ma : E}, trE c false n a = some ma → notStar a = true ∧ PE X a (tE S ma) ∧ PE X a (tB S ma) := fun ha => ⟨(ih.e g ha).1, ((ih.e g ha).2.2.1 rfl).1, ((ih.e g ha).2.2.1 rfl).2.1⟩
    have T1 : ∀ {a : Expr} {ma : E}, trE c true n a = some ma → PT X a (tT S ma) := fun ha => (ih.e g ha).2.2.2 rfl
    split at h
    · -- a name
      split at h
      · rename_i x p i hi
        cases h
        refine ⟨rfl, rfl, fun _ => ⟨snd_nm g hi, snd_nmB g hi, fun z => by simp [isFr] at z⟩, fun _ => snd_truth g (snd_nmB g hi) fun _ => rfl⟩
      · split at h
        · rename_i x p _ _ hg
          obtain ⟨kk, hk, rfl⟩ := Option.map_eq_some_iff.mp h
          obtain ⟨u, v, ht, ru, rep⟩ := g.tab.con x kk hk
          have pe : PE X (.Name x p) (tE S (.lit kk)) := snd_lit (pe_glob (v := v) (g.gl hg.1) ht ru hg.2) fun G => g.hK ▸ rep S.a G
          exact finP g rfl rfl (ofE (fun i => by simp) rfl pe) fun _ => rfl
        · cases h
    · -- a constant
      obtain ⟨d, hd, rfl⟩ := Option.map_eq_some_iff.mp h
      exact finP g rfl rfl (ofE (fun i => by simp) rfl (snd_const hd _ _)) fun _ => rfl
    · -- a tuple
      obtain ⟨ms, hms, rfl⟩ := Option.map_eq_some_iff.mp h
      exact finP g rfl rfl (ofE (fun i => by simp) rfl (snd_tup (ih.l g hms).2.1)) fun _ => rfl
    · -- a list
      obtain ⟨ms, hms, rfl⟩ := Option.map_eq_some_iff.mp h
      exact finP g rfl rfl (ofF (fun i => by simp) (snd_lst (ih.l g hms).2.1)) fun _ => rfl
    · -- an operator
      split at h
      · rename_i ho ha hb
        cases h
        exact finP g rfl rfl (ofF (fun i => by simp) (snd_op g ho (E1 ha).2.2 (E1 hb).2.2)) fun _ => rfl
      · cases h
    · -- a sign ahead
      obtain ⟨ma, ha, rfl⟩ := Option.map_eq_some_iff.mp h
      exact finP g rfl rfl (ofE (fun i => by simp) rfl (snd_neg (E1 ha).2.1)) fun _ => rfl
    · -- not
      split at h
      · rename_i ht
        obtain ⟨ma, ha, rfl⟩ := Option.map_eq_some_iff.mp h
        exact ⟨rfl, rfl, fun z => absurd (ht.symm.trans z) (by decide), fun _ => snd_tnot (T1 ha)⟩
      · rename_i ht
        obtain ⟨ma, ha, rfl⟩ := Option.map_eq_some_iff.mp h
        exact ⟨rfl, rfl, fun _ => ofE (fun i => by simp) rfl (snd_not (E1 ha).2.1), fun z => absurd z ht⟩
    · -- and, or
      obtain ⟨b1, b2, b3⟩ := ih.bo g h
      exact ⟨rfl, rfl, b1, fun z => (b2 z).pt⟩
    · -- a if q else b
      split at h
      · rename_i hq ha hb
        split at h
        · cases h
        · rename_i ht
          cases h
          exact ⟨rfl, rfl, fun _ => ofE (fun i => by simp) rfl (snd_ite (T1 hq) (E1 ha).2.1 (E1 hb).2.1), fun z => absurd z ht⟩
      · cases h
    · -- in a name
      split at h
      · rename_i hx ha
        cases h
        exact ⟨rfl, rfl, fun _ => ofE (fun i => by simp) rfl (snd_dmem g hx (E1 ha).2.1).1.1, fun _ => (snd_dmem g hx (E1 ha).2.1).1.2⟩
      · rename_i ha
        split at h
        · rename_i hb
          split at h
          · rename_i hm
            cases h
            exact ⟨rfl, rfl, fun _ => ofE (fun i => by simp) rfl (snd_cmp g hm (E1 ha).2.2 (E1 hb).2.2), fun _ => snd_cmpT g hm (E1 ha).2.2 (E1 hb).2.2⟩
          · cases h
        · cases h
      · cases h
    · -- not in a name
      split at h
      · rename_i hx ha
        cases h
        exact ⟨rfl, rfl, fun _ => ofE (fun i => by simp) rfl (snd_dmem g hx (E1 ha).2.1).2.1, fun _ => (snd_dmem g hx (E1 ha).2.1).2.2⟩
      · rename_i ha
        split at h
        · rename_i hb
          split at h
          · rename_i hm
            cases h
            exact ⟨rfl, rfl, fun _ => ofE (fun i => by simp) rfl (snd_cmp g hm (E1 ha).2.2 (E1 hb).2.2), fun _ => snd_cmpT g hm (E1 ha).2.2 (E1 hb).2.2⟩
          · cases h
        · cases h
      · cases h
    · -- a comparison
      split at h
      · rename_i ha hb
        split at h
        · rename_i hm
          cases h
          exact ⟨rfl, rfl, fun _ => ofE (fun i => by simp) rfl (snd_cmp g hm (E1 ha).2.2 (E1 hb).2.2), fun _ => snd_cmpT g hm (E1 ha).2.2 (E1 hb).2.2⟩
        · cases h
      · cases h
    · -- two comparisons
      split at h
      · rename_i ha hb hd
        split at h
        · rename_i hm
          cases h
          exact ⟨rfl, rfl, fun _ => ofE (fun i => by simp) rfl (snd_chain g hm (E1 ha).2.1 (E1 hb).2.1 (E1 hd).2.1), fun _ => snd_chainT g hm (E1 ha).2.1 (E1 hb).2.1 (E1 hd).2.1⟩
        · cases h
      · cases h
    · -- a slice
      split at h
      · split at h
        · rename_i ha hl hh
          cases h
          exact finP g rfl rfl (ofF (fun i => by simp) (snd_sl g (E1 ha).2.2 (ih.o g hl) (ih.o g hh))) fun _ => rfl
        · cases h
      · split at h
        · rename_i lo hi p pos st hc
          obtain ⟨kk, p1, p2, rfl⟩ := isNeg1_eq hc.1
          obtain ⟨ma, ha, rfl⟩ := Option.map_eq_some_iff.mp h
          have e1 := Option.isNone_iff_eq_none.mp hc.2.1
          have e2 := Option.isNone_iff_eq_none.mp hc.2.2
          subst e1 e2
          exact finP g rfl rfl (ofF (fun i => by simp) (snd_rev g (E1 ha).2.2)) fun _ => rfl
        · cases h
    · -- a subscript of a name
      split at h
      · rename_i hns hx hb
        cases h
        exact finP g rfl rfl (ofE (fun i => by simp) rfl (snd_dget g hx (plainIx_of fun lo hi st p e => by subst e; rw [slice_none] at hb; cases hb) (E1 hb).2.1)) fun _ => rfl
      · rename_i hb
        split at h
        · rename_i ha
          cases h
          exact finP g rfl rfl (ofE (fun i => by simp) rfl (snd_ix g (plainIx_of fun lo hi st p e => by subst e; rw [slice_none] at hb; cases hb) (E1 ha).2.2 (E1 hb).2.1)) fun _ => rfl
        · cases h
      · cases h
    · -- a subscript
      split at h
      · rename_i ha hb
        cases h
        exact finP g rfl rfl (ofE (fun i => by simp) rfl (snd_ix g (plainIx_of fun lo hi st p e => by subst e; rw [slice_none] at hb; cases hb) (E1 ha).2.2 (E1 hb).2.1)) fun _ => rfl
      · cases h
    · -- a call
      split at h
      · rename_i f pf es pos hg
        split at h
        · rename_i i hi
          split at h
          · cases h
          · rename_i hne
            have hh : c.hots.contains i = c.hot := by
              by_cases q : c.hots.contains i = c.hot
              · exact q
              · exact absurd (.inr q) hne
            split at h
            · rename_i d ms hd hms
              split at h
              · cases h
              · rename_i hhot
                cases h
                obtain ⟨l1, l2, _⟩ := ih.l g hms
                obtain ⟨n2, hn2⟩ := fnIx hi
                have hd2 : c.dfs.lookup f = some d := by
                  unfold TC.dflt at hd
                  rw [hn2] at hd
                  simp only at hd
                  split at hd
                  · exact hd
                  · cases hd
                cases es with
                | nil => exact absurd (.inl rfl) hne
                | cons a es =>
                  exact finP g rfl rfl (ofE (fun i => by simp) rfl (snd_callD (p := pf) (pos := pos) g hg hn2 hd2 (by simpa using hhot) hh l1 l2)) fun _ => rfl
            · rename_i ms hd hms
              cases h
              obtain ⟨l1, l2, _⟩ := ih.l g hms
              cases es with
              | nil => exact absurd (.inl rfl) hne
              | cons a es =>
                exact finP g rfl rfl (ofE (fun i => by simp) rfl (snd_call (p := pf) (pos := pos) g hg hi hh l1 l2)) fun _ => rfl
            · cases h
        · have bi : ∀ {es : List Expr} {b : BI} {ms : List E} {kk : Nat}, c.biOf f kk = some b → es ≠ [] → trL c n es = some ms → PE X (.Call (.Name f pf) es [] pos) (tF S (.bi b ms)) := fun {es b ms kk} hb hne hms => by
            obtain ⟨l1, _, l3⟩ := ih.l g hms
            cases es with
            | nil => exact absurd rfl hne
            | cons a es => exact snd_bi g hg (biOf_name (biOf_hot hb).1) (biOf_hot hb).2 l1 l3
          split at h
          · rename_i f2 pf2 a pos2
            split at h
            · rename_i hf
              obtain ⟨rfl, rfl, hg2, hhot, _⟩ := hf
              obtain ⟨ma, ha, rfl⟩ := Option.map_eq_some_iff.mp h
              exact finP g rfl rfl (ofF (fun i => by simp) (snd_sset g hhot hg hg2 (E1 ha).1 (E1 ha).2.1)) fun _ => rfl
            · split at h
              · rename_i hb hms
                cases h
                exact finP g rfl rfl (ofF (fun i => by simp) (bi hb (by simp) hms)) fun _ => rfl
              · cases h
          · rename_i a ty pty
            split at h
            · rename_i hf
              subst hf
              split at h
              · rename_i j hj
                obtain ⟨ma, ha, rfl⟩ := Option.map_eq_some_iff.mp h
                unfold TC.clsH at hj
                split at hj
                · rename_i hc
                  exact finP g rfl rfl (ofE (fun i => by simp) rfl (snd_isx g hc hg hj (E1 ha).1 (E1 ha).2.1)) fun _ => rfl
                · cases hj
              · split at h
                · rename_i ma ts ha ht
                  cases h
                  obtain ⟨t1, h1, h2, rfl⟩ := trTys_one ht
                  exact finP g rfl rfl (ofE (fun i => by simp) rfl (snd_isi1 g hg h1 h2 (E1 ha).1 (E1 ha).2.2)) fun _ => rfl
                · cases h
            · split at h
              · rename_i hb hms
                cases h
                exact finP g rfl rfl (ofF (fun i => by simp) (bi hb (by simp) hms)) fun _ => rfl
              · cases h
          · split at h
            · rename_i hf
              subst hf
              split at h
              · rename_i ha ht
                split at h
                · rename_i hl
                  cases h
                  exact finP g rfl rfl (ofE (fun i => by simp) rfl (snd_isiT (p := pf) (pos := pos) g hg ht (Nat.le_trans hl (by decide)) (E1 ha).1 (E1 ha).2.2)) fun _ => rfl
                · cases h
              · cases h
            · cases h
          · split at h
            · rename_i hb hms
              cases h
              exact finP g rfl rfl (ofF (fun i => by simp) (bi hb (fun z => biOf_pos (biOf_hot hb).1 (by rw [z]; rfl)) hms)) fun _ => rfl
            · cases h
      · cases h
    · -- great letters
      split at h
      · rename_i x xp b bp f apos cpos hc
        obtain ⟨rfl, hl⟩ := hc
        obtain ⟨ma, ha, rfl⟩ := Option.map_eq_some_iff.mp h
        exact finP g rfl rfl (ofE (fun i => by simp) rfl (snd_upper (fun _ => rfl) hl (E1 ha).2.1)) fun _ => rfl
      · cases h
    · -- joined
      split at h
      · rename_i s ck cp f apos e cpos hc
        obtain ⟨rfl, hl⟩ := hc
        obtain ⟨ma, ha, rfl⟩ := Option.map_eq_some_iff.mp h
        exact finP g rfl rfl (ofE (fun i => by simp) rfl (snd_join (E1 ha).1 hl (E1 ha).2.1)) fun _ => rfl
      · cases h
    · -- the first one is taken out
      split at h
      · rename_i a f apos kk kp cpos hc
        obtain ⟨rfl, hl, hr⟩ := hc
        split at h
        · rename_i ha _
          cases h
          exact finP g rfl rfl (ofE (fun i => by simp) rfl (snd_pop hr hl (E1 ha).2.1)) fun _ => rfl
        · cases h
      · cases h
    · -- a field
      split at h
      · rename_i hc
        obtain ⟨ma, ha, rfl⟩ := Option.map_eq_some_iff.mp h
        exact finP g rfl rfl (ofE (fun i => by simp) rfl (snd_fld g hc.1 hc.2 (E1 ha).2.1)) fun _ => rfl
      · cases h
    · -- a comprehension
      split at h
      · rename_i elt tg it ifs sc pos hb
        obtain ⟨hb, hc⟩ := hb
        split at h
        · rename_i hi ht hq he
          split at h
          · rename_i hin
            cases h
            have B := blkOk_ok g hb
            cases hh : c.hot with
            | false =>
              refine finP g rfl rfl (ofF (fun i => by simp) (pe_weak (pe_lc (g.calm hh) (by rw [g.N]; exact g.nd) (ih.i g hi id).2.1 B (snd_tgB g hh hb ht) (fun s H C cl fp => ih.q (gx_blk g hh hb s H C cl fp) hq)
                (fun s H C cl fp => ((ih.e (gx_blk g hh hb s H C cl fp) he).2.2.1 rfl).1) (fold_set (ih.i (tg := tg) g hi id).1 _)) fun σ H Q h => ?_)) fun _ => rfl
              have q := comp_core hin h
              rw [← g.hK] at q
              exact q
            | true =>
              have hr : c.isRngE it = true := hc.resolve_left (by rw [hh]; exact fun z => Bool.noConfusion z)
              refine finP g rfl rfl (ofF (fun i => by simp) (pe_weak (pe_lcH (g.hotC hh) (by rw [g.N]; exact g.nd) (ih.h g hi hr).2 B ⟨snd_tgH g hb ht, fun s H C cl fp => ih.q (gx_hBlk g hb s H C cl fp) hq,
                fun s H C cl fp => ((ih.e (gx_hBlk g hb s H C cl fp) he).2.2.1 rfl).1⟩ (fold_set (ih.h (tg := tg) g hi hr).1 _)) fun σ H Q h => ?_)) fun _ => rfl
              have q := comp_core hin h
              rw [← g.hK] at q
              exact q
          · cases h
        · cases h
      · cases h
    · -- a comprehension of two clauses
      split at h
      · rename_i elt tg it tg1 it1 sc pos hb
        obtain ⟨hb, hc⟩ := hb
        split at h
        · rename_i hi ht hi1 ht1 he
          split at h
          · rename_i hin
            cases h
            rw [Bool.and_eq_true] at hin
            have B := blkOk_ok g hb
            refine finP g rfl rfl (ofF (fun i => by simp) (pe_weak (pe_lc2 (g.calm hc) (by rw [g.N]; exact g.nd) (ih.i g hi id).2.1 B (tgIx_sub hin.2) (snd_tgB g hc hb ht) (fun s H C cl fp => pts_nil)
              (fun s H C cl fp => (ih.i (gx_blk g hc hb s H C cl fp) hi1 id).2.2.1) (snd_tgB g hc hb ht1) (fun s H C cl fp => pts_nil) (fun s H C cl fp => ((ih.e (gx_blk g hc hb s H C cl fp) he).2.2.1 rfl).1)
              (fold_set (ih.i (tg := tg) g hi id).1 _) (fun env x => fold_set (ih.i (tg := tg1) (gx_blk g hc hb X.s_0 X.H_0 0 [] []) hi1 id).1 env x)) fun σ H Q h => ?_)) fun _ => rfl
            have q := comp2_core hin.1 h
            rw [← g.hK] at q
            exact q
          · cases h
        · cases h
      · cases h
    · cases h
  · unfold trL at h
    split at h
    · rename_i e1; cases e1
    · cases h
      exact ⟨rfl, snd_nil, snd_nilB⟩
    · split at h
      · rename_i n' e' es' e1 o1 o2 m' ms' he hl
        cases e1
        cases h
        obtain ⟨p1, p2, p3, _⟩ := ih.e g he
        obtain ⟨l1, l2, l3⟩ := ih.l g hl
        exact ⟨by rw [List.all_cons, p1, l1]; rfl, snd_cons p1 (p3 rfl).1 l2, snd_consB p1 (p3 rfl).2.1 l3⟩
      · cases h
  · unfold trBo at h
    split at h
    · rename_i e1; cases e1
    · cases h
    · rename_i e1
      cases e1
      obtain ⟨p1, p2, p3, p4⟩ := ih.e g h
      exact ⟨fun ht => ⟨pe_one (p3 ht).1, pe_one (p3 ht).2.1, fun z => pe_one ((p3 ht).2.2 z)⟩, fun ht => pw_one (p4 ht), by simp⟩
    · split at h
      · rename_i oo n0 o0 es0 n' e' es' hne e1 o1 o2 ma mb he hb
        cases e1
        obtain ⟨p1, p2, p3, p4⟩ := ih.e g he
        obtain ⟨b1, b2, b3⟩ := ih.bo (pos := pos) g hb
        cases es' with
        | nil => exact absurd rfl hne
        | cons e2 es2 =>
          cases oo with
          | And =>
            cases h
            cases t with
            | true => exact ⟨(fun z => Bool.noConfusion z), fun _ => snd_tand (p4 rfl) (b2 rfl), by simp⟩
            | false => exact ⟨fun _ => ofE (fun i => by simp) rfl (snd_and (p3 rfl).1 (b1 rfl).1), (fun z => Bool.noConfusion z), by simp⟩
          | Or =>
            cases h
            cases t with
            | true => exact ⟨(fun z => Bool.noConfusion z), fun _ => snd_tor (p4 rfl) (b2 rfl), by simp⟩
            | false => exact ⟨fun _ => ofE (fun i => by simp) rfl (snd_or (p3 rfl).1 (b1 rfl).1), (fun z => Bool.noConfusion z), by simp⟩
      · cases h
  · unfold trO at h
    split at h
    · rename_i e1; cases e1
    · cases h
      exact snd_po0
    · rename_i n' e' e1
      cases e1
      obtain ⟨m', he, rfl⟩ := Option.map_eq_some_iff.mp h
      exact snd_po1 ((ih.e g he).2.2.1 rfl).1
  · unfold trIf at h
    split at h
    · rename_i e1; cases e1
    · cases h
      exact pts_tT
    · rename_i n' e' e1
      cases e1
      exact pts_one ((ih.e g h).2.2.2 rfl)
    · cases h
  · unfold trI at h
    have E1 : ∀ {a : Expr} {ma : E}, trE c false n a = some ma → notStar a = true ∧ PE X a (tE S ma) ∧ PE X a (tB S ma) ∧ notSet a = true := fun ha => ⟨(ih.e g ha).1, ((ih.e g ha).2.2.1 rfl).1, ((ih.e g ha).2.2.1 rfl).2.1, (ih.e g ha).2.1⟩
    have sq : ∀ {e : Expr} {m : E}, (trE c false n e).map E.iseq = some m → notSet e = true ∧ PI X tg e (tI S m) ∧ PI X tg e (tJ S m) ∧ (isRng m = true → PI X tg e (tW S m)) := fun {e m} h => by
      obtain ⟨m', he, rfl⟩ := Option.map_eq_some_iff.mp h
      obtain ⟨_, h2, h3, h4⟩ := E1 he
      exact ⟨h4, snd_iseq g h3, snd_jseq g h2, fun z => by cases z⟩
    split at h
    · split at h
      · rename_i hc
        obtain ⟨h1, h2, _⟩ := hc
        subst h2
        obtain ⟨m', he, rfl⟩ := Option.map_eq_some_iff.mp h
        obtain ⟨s1, s2, _, _⟩ := E1 he
        exact ⟨rfl, snd_irng1 g h1 s1 s2, snd_jrng1 g h1 s1 s2, fun _ => snd_wrng1 g h1 s1 s2⟩
      · split at h
        · rename_i hc
          obtain ⟨h1, h2, _⟩ := hc
          subst h2
          split at h
          · rename_i htt2
            obtain ⟨m', he, rfl⟩ := Option.map_eq_some_iff.mp h
            obtain ⟨s1, s2, _, _⟩ := E1 he
            obtain ⟨q1, q2⟩ := snd_ienum g (htt htt2) h1 s1 s2
            exact ⟨rfl, q1, q2, fun z => by cases z⟩
          · cases h
        · exact sq h
    · split at h
      · rename_i hc
        obtain ⟨h1, h2, _⟩ := hc
        subst h2
        split at h
        · rename_i ha hb
          cases h
          obtain ⟨s1, s2, _, _⟩ := E1 ha
          obtain ⟨r1, r2, _, _⟩ := E1 hb
          exact ⟨rfl, snd_irng2 g h1 s1 r1 s2 r2, snd_jrng2 g h1 s1 r1 s2 r2, fun _ => snd_wrng2 g h1 s1 r1 s2 r2⟩
        · cases h
      · split at h
        · rename_i hc
          obtain ⟨h1, h2, _⟩ := hc
          subst h2
          split at h
          · rename_i ha hb
            split at h
            · rename_i htt2
              cases h
              obtain ⟨s1, s2, _, _⟩ := E1 ha
              obtain ⟨r1, r2, _, _⟩ := E1 hb
              obtain ⟨q1, q2⟩ := snd_izip g (htt htt2) h1 s1 r1 s2 r2
              exact ⟨rfl, q1, q2, fun z => by cases z⟩
            · cases h
          · cases h
        · exact sq h
    · exact sq h
  · have hc : ∃ f p a ps, e = .Call (.Name f p) [a] [] ps ∧ c.isG f = true ∧ f = "range" ∧ (c.fns.findIdx? (fun r => r.1 == f)).isNone = true := by
      unfold TC.isRngE at hr
      split at hr
      · exact ⟨_, _, _, _, rfl, of_decide_eq_true hr⟩
      · cases hr
    obtain ⟨f, p, a, ps, rfl, h1, h2, h3⟩ := hc
    unfold trI at h
    simp only at h
    rw [if_pos ⟨h1, h2, h3⟩] at h
    subst h2
    obtain ⟨m', he, rfl⟩ := Option.map_eq_some_iff.mp h
    exact ⟨rfl, snd_hrng1 g h1 (ih.e g he).1 ((ih.e g he).2.2.1 rfl).1⟩
theorem snd_all : ∀ n, SndE n
  | 0 => snd_zero
  | n + 1 => snd_succ (snd_all n)
end Mi


set_option Elab.async false
set_option maxRecDepth 100000
set_option maxHeartbeats 4000000
/-! Mi12: statements. -/
namespace Mi
open PySem L2
/-- a statement's answer; Gb: what was known ahead of it -/
def SRes (S : Sx) (Gb : Hp) (r : SR) (Dn : Ends) : Prop := match r with
  | .nx ρ g => ∀ σ G H, Slots S ρ σ G H → World S.a g G H → Ext S.a S.G0 S.H0 G H → Sm S.pr Gb G → Dn.nx σ H
  | .rt d g => ∀ v G H, World S.a g G H → Ext S.a S.G0 S.H0 G H → Rep S.K S.a G d v → Dn.rt v H
  | .bk ρ g => ∀ σ G H, Slots S ρ σ G H → World S.a g G H → Ext S.a S.G0 S.H0 G H → Sm S.pr Gb G → Dn.bk σ H
  | .ct ρ g => ∀ σ G H, Slots S ρ σ G H → World S.a g G H → Ext S.a S.G0 S.H0 G H → Sm S.pr Gb G → Dn.ct σ H
  | .ex e ρ g => ∀ σ G H cls d, Slots S ρ σ G H → World S.a g G H → Ext S.a S.G0 S.H0 G H → Sm S.pr Gb G → ExAt S G e cls d → S.W cls d σ H
  | .no => False
def tS (S : Sx) (m : Mi.S) : TS := fun Dn σ H => ∃ ρ G g, Slots S ρ σ G H ∧ World S.a g G H ∧ Ext S.a S.G0 S.H0 G H ∧ SRes S G (exS S.c m ρ g) Dn
def tSs (S : Sx) (ms : List Mi.S) : TS := fun Dn σ H => ∃ ρ G g, Slots S ρ σ G H ∧ World S.a g G H ∧ Ext S.a S.G0 S.H0 G H ∧ SRes S G (exL S.c ms ρ g) Dn
section
variable {S : Sx} {σ : St} {G H : Hp} {ρ : Env} {g : Gs} {α : Type}
theorem SRes.shift {Gb : Hp} {r : SR} {Dn : Ends} (s : Sm S.pr Gb G) (h : SRes S Gb r Dn) : SRes S G r Dn := by
  cases r with
  | nx ρ g => exact fun σ G' H sl w x s' => h σ G' H sl w x (s.trans s')
  | rt d g => exact h
  | bk ρ g => exact fun σ G' H sl w x s' => h σ G' H sl w x (s.trans s')
  | ct ρ g => exact fun σ G' H sl w x s' => h σ G' H sl w x (s.trans s')
  | ex e ρ g => exact fun σ G' H cls d sl w x s' q => h σ G' H cls d sl w x (s.trans s') q
  | no => exact h
/-- an expression ahead -/
theorem SRes.step {r : R α} {f : α → Gs → SR} {Dn : Ends} {P : α → Gs → Hp → Hp → Prop} (sl : Slots S ρ σ G H) (x0 : Ext S.a S.G0 S.H0 G H) (h : SRes S G (r.st ρ f) Dn)
    (k : ∀ a g' G' H', Ext S.a G H G' H' → World S.a g' G' H' → Slots S ρ σ G' H' → Ext S.a S.G0 S.H0 G' H' → SRes S G' (f a g') Dn → P a g' G' H') : Res S σ G H r P := by
  cases r with
  | ok a g' => exact fun G' H' x w => k a g' G' H' x w (sl.ext x) (x0.trans x) (SRes.shift (Sm.of x.gg) h)
  | ex e g' => exact fun G' H' cls d x w q => h σ G' H' cls d (sl.ext x) w (x0.trans x) (Sm.of x.gg) q
  | no => exact h
/-- where what follows is known to go on -/
abbrev Goes (S : Sx) (Gb : Hp) (P : Env → Gs → Hp → Prop) : St → Hp → Prop := fun σ H => ∃ ρ G g, Slots S ρ σ G H ∧ World S.a g G H ∧ Ext S.a S.G0 S.H0 G H ∧ Sm S.pr Gb G ∧ P ρ g G
theorem SRes.seq {Gb : Hp} {r : SR} {f : Env → Gs → SR} {Dn : Ends} (h : SRes S Gb (r.seq f) Dn) : SRes S Gb r { Dn with nx := Goes S Gb fun ρ g G => SRes S G (f ρ g) Dn } := by
  cases r with
  | nx ρ g => exact fun σ G H sl w x s => ⟨ρ, G, g, sl, w, x, s, SRes.shift s h⟩
  | rt d g => exact h
  | bk ρ g => exact h
  | ct ρ g => exact h
  | ex e ρ g => exact h
  | no => exact h
theorem SRes.turn {Gb : Hp} {r : SR} {f : Env → Gs → SR} {Dn : Ends} (h : SRes S Gb (r.turn f) Dn) :
    SRes S Gb r { nx := Goes S Gb fun ρ g G => SRes S G (f ρ g) Dn, rt := Dn.rt, bk := Dn.nx, ct := Goes S Gb fun ρ g G => SRes S G (f ρ g) Dn } := by
  cases r with
  | nx ρ g => exact fun σ G H sl w x s => ⟨ρ, G, g, sl, w, x, s, SRes.shift s h⟩
  | rt d g => exact h
  | bk ρ g => exact h
  | ct ρ g => exact fun σ G H sl w x s => ⟨ρ, G, g, sl, w, x, s, SRes.shift s h⟩
  | ex e ρ g => exact h
  | no => exact h
theorem SRes.mono {Gb : Hp} {r : SR} {D1 D2 : Ends} (h : SRes S Gb r D1) (k1 : ∀ σ H, D1.nx σ H → D2.nx σ H) (k2 : ∀ v H, D1.rt v H → D2.rt v H) (k3 : ∀ σ H, D1.bk σ H → D2.bk σ H) (k4 : ∀ σ H, D1.ct σ H → D2.ct σ H) : SRes S Gb r D2 := by
  cases r with
  | nx ρ g => exact fun σ G H sl w x s => k1 _ _ (h σ G H sl w x s)
  | rt d g => exact fun v G H w x r => k2 _ _ (h v G H w x r)
  | bk ρ g => exact fun σ G H sl w x s => k3 _ _ (h σ G H sl w x s)
  | ct ρ g => exact fun σ G H sl w x s => k4 _ _ (h σ G H sl w x s)
  | ex e ρ g => exact h
  | no => exact h
/-! ### lists held alone -/
/-- known for good from now on -/
theorem Slots.know {i : Nat} {ds : List D} (sl : Slots S ρ σ G H) (w : World S.a g G H) (x : Ext S.a S.G0 S.H0 G H) (e : ρ.get i = some (.own ds)) :
    ∃ G', Slots S (ρ.set i (some (.val (.lst ds)))) σ G' H ∧ World S.a g G' H ∧ Ext S.a S.G0 S.H0 G' H ∧ Same G G' := by
  obtain ⟨p, vs, e1, e2, n, gp, h0, rs⟩ := sl.own i ds e
  obtain ⟨w2, s2⟩ := Ext.know w e2 gp n
  have hi : i < ρ.length := by
    unfold Env.get at e
    split at e
    · rename_i q; exact (List.getElem?_eq_some_iff.mp q).1
    · cases e
  refine ⟨upd G p (.lst vs), ⟨by rw [List.length_set]; exact sl.len, fun j d q => ?_, fun j es q => ?_, fun j l es fs ne q1 q2 => ?_⟩, w2, ⟨x.gg.trans s2, fun b o q => ?_, x.kp, x.dm⟩, s2⟩
  · rcases Env.get_set q with ⟨rfl, q1, _⟩ | ⟨nj, q1⟩
    · cases q1
      refine ⟨_, e1, ?_⟩
      unfold Rep
      exact ⟨p, vs, rfl, upd_same, rs.mono s2⟩
    · obtain ⟨v, q2, r⟩ := sl.val j d q1
      exact ⟨v, q2, r.mono s2⟩
  · rcases Env.get_set q with ⟨rfl, q1, _⟩ | ⟨nj, q1⟩
    · cases q1
    · obtain ⟨p', vs', f1, f2, f3, f4, f5, f6⟩ := sl.own j es q1
      have np : p' ≠ p := fun z => by
        subst z
        exact sl.sep j i es ds nj q1 e (f1.trans e1.symm)
      exact ⟨p', vs', f1, f2, f3, by rw [upd_ne np]; exact f4, f5, f6.mono s2⟩
  · rcases Env.get_set q1 with ⟨rfl, z, _⟩ | ⟨n1, z1⟩
    · cases z
    · rcases Env.get_set q2 with ⟨rfl, z, _⟩ | ⟨n2, z2⟩
      · cases z
      · exact sl.sep j l es fs ne z1 z2
  · by_cases hb : b = p
    · subst hb; exact .inr h0
    · rw [upd_ne hb] at q; exact x.new b o q
theorem Slots.freeze : ∀ {is : List Nat} {ρ : Env} {G : Hp}, Slots S ρ σ G H → World S.a g G H → Ext S.a S.G0 S.H0 G H → ∃ G', Slots S (freeze ρ is) σ G' H ∧ World S.a g G' H ∧ Ext S.a S.G0 S.H0 G' H ∧ Same G G'
  | [], _, G, sl, w, x => ⟨G, sl, w, x, Same.refl G⟩
  | i :: is, ρ, G, sl, w, x => by
    unfold Mi.freeze
    cases e : ρ.get i with
    | none => exact Slots.freeze sl w x
    | some q =>
      cases q with
      | val d => exact Slots.freeze sl w x
      | own ds =>
        obtain ⟨G', sl', w', x', s'⟩ := sl.know w x e
        obtain ⟨G2, a1, a2, a3, a4⟩ := Slots.freeze (is := is) sl' w' x'
        exact ⟨G2, a1, a2, a3, s'.trans a4⟩
/-- a list held alone is changed -/
theorem Slots.write {i : Nat} {ds es : List D} {p : Addr} {vs us : List V} (sl : Slots S ρ σ G H) (w : World S.a g G H) (x : Ext S.a S.G0 S.H0 G H) (e : ρ.get i = some (.own ds)) (e1 : σ[i]? = some (some (.ref p))) (e2 : H p = some (.lst vs)) (rs : Reps S.K S.a G es us) :
    Slots S (ρ.set i (some (.own es))) σ G (upd H p (.lst us)) ∧ World S.a g G (upd H p (.lst us)) ∧ Ext S.a S.G0 S.H0 G (upd H p (.lst us)) := by
  obtain ⟨p', vs', f1, f2, n, gp, h0, _⟩ := sl.own i ds e
  have ep : p' = p := by
    rw [e1] at f1
    cases f1; rfl
  subst ep
  have hi : i < ρ.length := by
    unfold Env.get at e
    split at e
    · rename_i q; exact (List.getElem?_eq_some_iff.mp q).1
    · cases e
  have up : ∀ b, S.a.has b → b ≠ p' := fun b hb z => n (z ▸ hb)
  refine ⟨⟨by rw [List.length_set]; exact sl.len, fun j d q => ?_, fun j fs q => ?_, fun j l fs ks ne q1 q2 => ?_⟩, w.move (fun b q => upd_ne (up b q)) (fun b o q => ?_) w.off, ⟨x.gg, x.new, fun b o q nb => ?_, fun b q => x.dm b (upd_none q)⟩⟩
  · rcases Env.get_set q with ⟨rfl, q1, _⟩ | ⟨nj, q1⟩
    · cases q1
    · exact sl.val j d q1
  · rcases Env.get_set q with ⟨rfl, q1, _⟩ | ⟨nj, q1⟩
    · cases q1
      exact ⟨p', us, e1, upd_same, n, gp, h0, rs⟩
    · obtain ⟨p2, vs2, g1, g2, g3, g4, g5, g6⟩ := sl.own j fs q1
      have np : p2 ≠ p' := fun z => by
        subst z
        exact sl.sep j i fs ds nj q1 e (g1.trans e1.symm)
      exact ⟨p2, vs2, g1, by rw [upd_ne np]; exact g2, g3, g4, g5, g6⟩
  · rcases Env.get_set q1 with ⟨rfl, z, _⟩ | ⟨n1, z1⟩
    · rcases Env.get_set q2 with ⟨rfl, z', _⟩ | ⟨n2, z2⟩
      · exact absurd rfl ne
      · exact sl.sep j l ds ks ne e z2
    · rcases Env.get_set q2 with ⟨rfl, z, _⟩ | ⟨n2, z2⟩
      · exact sl.sep j l fs ds ne z1 e
      · exact sl.sep j l fs ks ne z1 z2
  · rw [upd_ne (ne_of_none q gp)]; exact w.sub b o q
  · rw [upd_ne (ne_of_none q h0)]; exact x.kp b o q nb
/-- a new list is held alone by a slot -/
theorem Slots.take {i : Nat} {ds : List D} {v : V} {Hb : Hp} (sl : Slots S ρ σ G H) (hb : ∀ b, Hb b = none → S.H0 b = none) (old : ∀ j es, ρ.get j = some (.own es) → ∃ q o, σ[j]? = some (some (.ref q)) ∧ Hb q = some o) (r : RepF S Hb G H (.lst ds) v) :
    Slots S (ρ.set i (some (.own ds))) (σ.set i (some v)) G H := by
  obtain ⟨p, vs, rfl, e2, n, gp, bp, rs⟩ := r
  refine ⟨by rw [List.length_set, List.length_set, sl.len], fun j d q => ?_, fun j fs q => ?_, fun j l fs ks ne q1 q2 => ?_⟩
  · rcases Env.get_set q with ⟨rfl, q1, _⟩ | ⟨nj, q1⟩
    · cases q1
    · obtain ⟨u, e3, r⟩ := sl.val j d q1
      exact ⟨u, by rw [List.getElem?_set_ne (Ne.symm nj)]; exact e3, r⟩
  · rcases Env.get_set q with ⟨rfl, q1, hl⟩ | ⟨nj, q1⟩
    · cases q1
      exact ⟨p, vs, List.getElem?_set_self (by rw [← sl.len]; exact hl), e2, n, gp, hb p bp, rs⟩
    · obtain ⟨p2, vs2, g1, g2⟩ := sl.own j fs q1
      exact ⟨p2, vs2, by rw [List.getElem?_set_ne (Ne.symm nj)]; exact g1, g2⟩
  · have key : ∀ j fs, j ≠ i → ρ.get j = some (.own fs) → σ[j]? ≠ some (some (.ref p)) := fun j fs nj q z => by
      obtain ⟨q1, o, z1, z2⟩ := old j fs q
      rw [z] at z1
      cases z1
      rw [bp] at z2; cases z2
    rcases Env.get_set q1 with ⟨rfl, z, hl⟩ | ⟨n1, z1⟩
    · rcases Env.get_set q2 with ⟨rfl, z', _⟩ | ⟨n2, z2⟩
      · exact absurd rfl ne
      · rw [List.getElem?_set_self (by rw [← sl.len]; exact hl), List.getElem?_set_ne (Ne.symm n2)]
        exact fun z => key l ks n2 z2 z.symm
    · rcases Env.get_set q2 with ⟨rfl, z, hl⟩ | ⟨n2, z2⟩
      · rw [List.getElem?_set_self (by rw [← sl.len]; exact hl), List.getElem?_set_ne (Ne.symm n1)]
        exact key j fs n1 z1
      · rw [List.getElem?_set_ne (Ne.symm n1), List.getElem?_set_ne (Ne.symm n2)]
        exact sl.sep j l fs ks ne z1 z2
end
end Mi


set_option Elab.async false
set_option maxRecDepth 100000
set_option maxHeartbeats 4000000
/-! Mi13: statements: each form's rule. -/
namespace Mi
open PySem L2
structure GS (X : Cx) (c : TC) (S : Sx) (k : Nat) : Prop where
  gx : GX X c S k
  po : PassesOwn (model X.prog X.w) X.A X.env X.xe
  st : X.stack = X.env :: X.outer ∧ X.env.frame = some X.env.locals
  pr : S.pr = !c.o2.isEmpty ∧ (S.pr = true → ∀ b vs, S.G0 b ≠ some (.lst vs))
section
variable {X : Cx} {c : TC} {S : Sx} {k : Nat}
/-! ### lists that are lent -/
theorem Slots.lendL : ∀ {is : List Nat} {ρ : Env} {σ : St} {g : Gs} {G H : Hp}, Slots S ρ σ G H → World S.a g G H → ∃ (G' : Hp) (P : List Addr), Slots S (Mi.freeze ρ is) σ G' H ∧ World S.a g G' H ∧ Same G G' ∧ (∀ p ∈ P, G p = none ∧ ∃ vs, G' p = some (.lst vs)) ∧ ∀ b, b ∉ P → G' b = G b
  | [], ρ, σ, g, G, H, sl, w => ⟨G, [], sl, w, Same.refl G, (fun p h => by cases h), fun _ _ => rfl⟩
  | i :: is, ρ, σ, g, G, H, sl, w => by
    unfold Mi.freeze
    cases e : ρ.get i with
    | none => exact Slots.lendL sl w
    | some q =>
      cases q with
      | val d => exact Slots.lendL sl w
      | own ds =>
        obtain ⟨p, vs, e1, e2, n, gp, h0, rs⟩ := sl.own i ds e
        obtain ⟨w2, s2⟩ := Ext.know w e2 gp n
        have hi : i < ρ.length := by
          unfold Env.get at e
          split at e
          · rename_i q; exact (List.getElem?_eq_some_iff.mp q).1
          · cases e
        have sl2 : Slots S (ρ.set i (some (.val (.lst ds)))) σ (upd G p (.lst vs)) H := by
          refine ⟨by rw [List.length_set]; exact sl.len, fun j d q => ?_, fun j es q => ?_, fun j l es fs ne q1 q2 => ?_⟩
          · rcases Env.get_set q with ⟨rfl, q1, _⟩ | ⟨nj, q1⟩
            · cases q1
              refine ⟨_, e1, ?_⟩
              unfold Rep
              exact ⟨p, vs, rfl, upd_same, rs.mono s2⟩
            · obtain ⟨v, q2, r⟩ := sl.val j d q1
              exact ⟨v, q2, r.mono s2⟩
          · rcases Env.get_set q with ⟨rfl, q1, _⟩ | ⟨nj, q1⟩
            · cases q1
            · obtain ⟨p', vs', f1, f2, f3, f4, f5, f6⟩ := sl.own j es q1
              have np : p' ≠ p := fun z => by
                subst z
                exact sl.sep j i es ds nj q1 e (f1.trans e1.symm)
              exact ⟨p', vs', f1, f2, f3, by rw [upd_ne np]; exact f4, f5, f6.mono s2⟩
          · rcases Env.get_set q1 with ⟨rfl, z, _⟩ | ⟨n1, z1⟩
            · cases z
            · rcases Env.get_set q2 with ⟨rfl, z, _⟩ | ⟨n2, z2⟩
              · cases z
              · exact sl.sep j l es fs ne z1 z2
        obtain ⟨G2, P, a1, a2, a3, a4, a5⟩ := Slots.lendL (is := is) sl2 w2
        refine ⟨G2, p :: P, a1, a2, s2.trans a3, fun b hb => ?_, fun b hb => ?_⟩
        · rcases List.mem_cons.mp hb with rfl | hb
          · exact ⟨gp, vs, a3 _ _ upd_same⟩
          · obtain ⟨b1, b2⟩ := a4 b hb
            refine ⟨?_, b2⟩
            cases z : G b with
            | none => rfl
            | some o =>
              have := s2 b o z
              rw [b1] at this
              cases this
        · have h1 : b ≠ p := fun z => hb (z ▸ List.mem_cons_self)
          have h2 : b ∉ P := fun z => hb (List.mem_cons_of_mem _ z)
          rw [a5 b h2, upd_ne h1]
theorem snd_lend {e : Expr} {is : List Nat} {m : E} (h : PE X e (tE S m)) : PE X e (tE S (.lend is m)) := pe_weak h fun σ H Q ⟨ρ, G, gs, sl, w, q⟩ => by
  unfold ev at q
  obtain ⟨G1, P, sl1, w1, s1, hP, out⟩ := Slots.lendL (is := is) sl w
  refine ⟨_, G1, gs, sl1, w1, ?_⟩
  revert q
  cases ev S.c m (freeze ρ is) gs with
  | no => exact fun q => q.elim
  | ex e g => exact fun q => q.elim
  | ok d g' =>
    intro q
    unfold lent at q
    simp only at q
    split at q
    · rename_i hf
      intro G' H' x w' v rv
      have hl : ∀ p ∈ P, ∃ vs, G' p = some (.lst vs) := fun p hp => by
        obtain ⟨_, vs, e2⟩ := hP p hp
        exact ⟨vs, x.gg _ _ e2⟩
      have notP : ∀ {b : Addr} {o : HO}, G b = some o → b ∉ P := fun {b o} e hp => by
        rw [(hP b hp).1] at e; cases e
      refine q (less G' P) H' ⟨fun b o e => ?_, fun b o e => ?_, x.kp, x.dm⟩ ?_ v (rv.less hl hf)
      · rw [less_out (notP e)]
        exact x.gg _ _ (s1 _ _ e)
      · obtain ⟨n1, e1⟩ := less_some e
        rcases x.new b o e1 with z | z
        · rw [out b n1] at z
          exact .inl z
        · exact .inr z
      · refine w'.move (fun b _ => rfl) (fun b o e => w'.sub b o (less_some e).2) fun b hb => ?_
        by_cases hp : b ∈ P
        · exact less_in hp
        · rw [less_out hp]; exact w'.off b hb
    · exact q.elim
theorem snd_lendT {e : Expr} {is : List Nat} {m : E} (hm : ∀ i, m ≠ .nm i) (h : PT X e (tT S m)) : PT X e (tT S (.lend is m)) := pt_weak h fun σ H Q ⟨ρ, G, gs, sl, w, q⟩ => by
  rw [brw_of (fun i => by simp)] at q
  unfold ev at q
  obtain ⟨G1, P, sl1, w1, s1, hP, out⟩ := Slots.lendL (is := is) sl w
  refine ⟨_, G1, gs, sl1, w1, ?_⟩
  rw [brw_of hm]
  revert q
  cases ev S.c m (freeze ρ is) gs with
  | no => exact fun q => q.elim
  | ex e g => exact fun q => q.elim
  | ok d g' =>
    intro q
    unfold lent at q
    simp only at q
    split at q
    · intro G' H' x w'
      have notP : ∀ {b : Addr} {o : HO}, G b = some o → b ∉ P := fun {b o} e hp => by
        rw [(hP b hp).1] at e; cases e
      refine q (less G' P) H' ⟨fun b o e => ?_, fun b o e => ?_, x.kp, x.dm⟩ ?_
      · rw [less_out (notP e)]
        exact x.gg _ _ (s1 _ _ e)
      · obtain ⟨n1, e1⟩ := less_some e
        rcases x.new b o e1 with z | z
        · rw [out b n1] at z
          exact .inl z
        · exact .inr z
      · refine w'.move (fun b _ => rfl) (fun b o e => w'.sub b o (less_some e).2) fun b hb => ?_
        by_cases hp : b ∈ P
        · exact less_in hp
        · rw [less_out hp]; exact w'.off b hb
    · exact q.elim
theorem sts_fz {st : Stmt} {m : Mi.S} {is : List Nat} (h : PS X st (tS S m)) : PS X st (tS S (.fz is m)) := ps_weak h fun Dn σ H ⟨ρ, G, g, sl, w, x, r⟩ => by
  unfold exS at r
  obtain ⟨G', sl', w', x', s'⟩ := Slots.freeze (is := is) sl w x
  exact ⟨_, G', g, sl', w', x', SRes.shift (Sm.of s') r⟩
/-- slots in the wake of another wish -/
theorem Slots.wishW {ρ : Env} {σ : St} {G H : Hp} {W : WX} (h : Slots S ρ σ G H) : Slots { S with W := W } ρ σ G H := ⟨h.len, h.val, h.own, h.sep⟩
theorem Slots.unwishW {ρ : Env} {σ : St} {G H : Hp} {W : WX} (h : Slots { S with W := W } ρ σ G H) : Slots S ρ σ G H := ⟨h.len, h.val, h.own, h.sep⟩
/-- within an except clause -/
abbrev hotS (S : Sx) (a : Addr) (j : Nat) (dd : Addr) : Sx := { S with a := S.a.hot (some (a, j, dd)), W := fun _ _ _ _ => False }
theorem Slots.toHot {ρ : Env} {σ : St} {G H : Hp} {a : Addr} {j : Nat} {dd : Addr} (n : S.a.er = none) (h : Slots S ρ σ G H) : Slots (hotS S a j dd) ρ σ G H :=
  ⟨h.len, fun i d e => by
    obtain ⟨v, e1, r⟩ := h.val i d e
    exact ⟨v, e1, r.toHot n⟩, fun i ds e => by
    obtain ⟨p, vs, e1, e2, e3, e4, e5, r⟩ := h.own i ds e
    exact ⟨p, vs, e1, e2, e3, e4, e5, r.toHot n⟩, h.sep⟩
theorem all_get {ρ : Env} (h : ρ.all noXc = true) {i : Nat} {q : Cell} (e : ρ.get i = some q) : noXc (some q) = true := by
  unfold Env.get at e
  split at e
  · rename_i z
    cases e
    exact List.all_eq_true.mp h _ (List.mem_of_getElem? z)
  · cases e
theorem Slots.toCold {ρ : Env} {σ : St} {G H : Hp} {a : Addr} {j : Nat} {dd : Addr} (n : ρ.all noXc = true) (h : Slots (hotS S a j dd) ρ σ G H) : Slots S ρ σ G H :=
  ⟨h.len, fun i d e => by
    obtain ⟨v, e1, r⟩ := h.val i d e
    exact ⟨v, e1, r.toCold (all_get n e)⟩, fun i ds e => by
    obtain ⟨p, vs, e1, e2, e3, e4, e5, r⟩ := h.own i ds e
    exact ⟨p, vs, e1, e2, e3, e4, e5, r.toCold (all_get n e)⟩, h.sep⟩
theorem Slots.gone {ρ ρ2 : Env} {σ : St} {G H : Hp} {a : Addr} {j : Nat} {dd : Addr} {i : Nat} (h : Slots (hotS S a j dd) ρ σ G H) (e : Mi.gone ρ i = some ρ2) : Slots S ρ2 (σ.set i none) G H := by
  unfold Mi.gone at e
  split at e
  · rename_i n
    cases e
    exact h.setN.toCold n
  · cases e
theorem sts_wrap {st : Stmt} {m : Mi.S} {is : List Nat} (h : PS X st (tS S m)) : PS X st (tS S (c.wrap is m)) := by
  unfold TC.wrap
  split
  · exact h
  · exact sts_fz h
theorem dm0 {G H : Hp} (x : Ext S.a S.G0 S.H0 G H) : ∀ b, H b = none → S.H0 b = none := x.dm
/-- x = e, the value's reading being tF or tE -/
theorem asg_core {i : Nat} {m : E} {Dn : Ends} {σ : St} {H : Hp} (h : tS S (.asg i m) Dn σ H) : (isFr m = true → tF S m σ H fun x H1 => gName i x σ H1 Dn.nx) ∧ (isFr m = false → tE S m σ H fun x H1 => gName i x σ H1 Dn.nx) := by
  obtain ⟨ρ, G, g, sl, w, x, r⟩ := h
  unfold exS at r
  refine ⟨fun hf => ⟨ρ, G, g, sl, w, SRes.step sl x r fun d g' G' H' x1 w1 sl1 x2 q v rv => ?_⟩, fun hf => ⟨ρ, G, g, sl, w, SRes.step sl x r fun d g' G' H' x1 w1 sl1 x2 q v rv => ?_⟩⟩
  · rw [hf] at q
    cases d with
    | lst ds =>
      refine q _ G' H' (Slots.take (Hb := H) sl1 x.dm (fun j es e => ?_) rv) w1 x2 (Sm.refl _ G')
      obtain ⟨p, vs, e1, e2, _⟩ := sl.own j es e
      exact ⟨p, _, e1, e2⟩
    | _ => exact q _ G' H' (sl1.setV rv) w1 x2 (Sm.refl _ G')
  · rw [hf] at q
    cases d <;> exact q _ G' H' (sl1.setV rv) w1 x2 (Sm.refl _ G')
theorem swaps_no {e : Expr} (h : isComp e = false) (t : Option Expr) (l : Nat) (env : PySem.Env) : swapsWith e t l env = pure false := by
  cases e <;> first | rfl | (simp [isComp] at h)
theorem sts_asg (g : GS X c S k) {x : Str} {i : Nat} {e : Expr} {m : E} {p pos : Pos} (hx : c.tgt x = some i) (hc : isComp e = false) (h1 : PE X e (tE S m)) (h2 : isFr m = true → PE X e (tF S m)) : PS X (.Assign [.Name x p] e pos) (tS S (.asg i m)) := by
  obtain ⟨s1, s2, s3, s4⟩ := g.gx.store hx
  cases hf : isFr m with
  | true => exact ps_weak (ps_set s1 s2 s3 (h2 hf) (swaps_no hc _ _ _) s4) fun Dn σ H h => (asg_core h).1 hf
  | false => exact ps_weak (ps_set s1 s2 s3 h1 (swaps_no hc _ _ _) s4) fun Dn σ H h => (asg_core h).2 hf
/-- x = [..]: either way of storing -/
theorem sts_asgC (g : GS X c S k) {n : Nat} {x : Str} {i : Nat} {e : Expr} {m : E} {p pos : Pos} (hx : c.tgt x = some i) (hc : isComp e = true) (h : trE c false n e = some m) : PS X (.Assign [.Name x p] e pos) (tS S (.asg i m)) := by
  have h0 := h
  obtain ⟨s1, s2, s3, s4⟩ := g.gx.store hx
  have all := (snd_all n).e g.gx h
  have pe := all.2.2.1 rfl
  cases n with
  | zero => unfold trE at h; cases h
  | succ n =>
  have ih := snd_all n
  unfold trE at h
  simp only at h
  cases e <;> first | (simp [isComp] at hc; done) | skip
  case SetComp => cases h
  case DictComp => cases h
  case ListComp elt gens sc lpos =>
  have hsw : swapsWith (.ListComp elt gens sc lpos) (some (.Name x p)) pos.line X.env = pure (X.env.blockKind == .function && X.env.kindOf x == some .local && p.line == lpos.line && !(sc.names.any fun (n, k) => n == x && (k == .local || k == .cell))) := rfl
  have shape : (∃ tg it ifs, gens = [⟨tg, it, ifs, 0⟩]) ∨ (∃ tg it tg1 it1, gens = [⟨tg, it, [], 0⟩, ⟨tg1, it1, [], 0⟩]) := by
    split at h
    all_goals first | (rename_i z; cases z; exact .inl ⟨_, _, _, rfl⟩) | (rename_i z; cases z; exact .inr ⟨_, _, _, _, rfl⟩) | skip
    all_goals first | (rename_i z _ _; cases z; done) | (rename_i z _; cases z; done) | (rename_i z; cases z; done) | (cases h; done) | skip
  have fr : isFr m = true := by
    rcases shape with ⟨tg, it, ifs, rfl⟩ | ⟨tg, it, tg1, it1, rfl⟩
    all_goals
      simp only at h
      split at h
      · split at h
        · split at h
          · cases h; rfl
          · cases h
        · cases h
      · cases h
  generalize hb : (X.env.blockKind == .function && X.env.kindOf x == some .local && p.line == lpos.line && !(sc.names.any fun (n, k) => n == x && (k == .local || k == .cell))) = b at hsw
  cases b with
  | false => exact ps_weak (ps_set s1 s2 s3 (pe.2.2 fr) hsw s4) fun Dn σ H h => (asg_core h).1 fr
  | true =>
    have loc : X.env.scope.names.lookup x = some .local := by
      simp only [Bool.and_eq_true] at hb
      have q := hb.1.1.2
      show X.env.kindOf x = _
      simpa using q
    rcases shape with ⟨tg, it, ifs, rfl⟩ | ⟨tg, it, tg1, it1, rfl⟩
    · simp only at h
      split at h
      · rename_i hbk
        obtain ⟨hbk, hc2⟩ := hbk
        split at h
        · rename_i hi ht hq he
          split at h
          · rename_i hin
            cases h
            have B := blkOk_ok g.gx hbk
            cases hh : c.hot with
            | false =>
              refine ps_weak (ps_setLc (g.gx.calm hh) s1 s2 loc hsw (ih.i g.gx hi id).2.1 B (snd_tgB g.gx hh hbk ht) (fun s H C cl fp => ih.q (gx_blk g.gx hh hbk s H C cl fp) hq)
                (fun s H C cl fp => ((ih.e (gx_blk g.gx hh hbk s H C cl fp) he).2.2.1 rfl).1) (fold_set (ih.i (tg := tg) g.gx hi id).1 _)) fun Dn σ H h => ?_
              have q := comp_core hin ((asg_core h).1 rfl)
              rw [← g.gx.hK] at q
              exact q
            | true =>
              have hr : c.isRngE it = true := hc2.resolve_left (by rw [hh]; exact fun z => Bool.noConfusion z)
              refine ps_weak (ps_lcH (g.gx.hotC hh) s1 s2 loc hsw (ih.h g.gx hi hr).2 B ⟨snd_tgH g.gx hbk ht, fun s H C cl fp => ih.q (gx_hBlk g.gx hbk s H C cl fp) hq,
                fun s H C cl fp => ((ih.e (gx_hBlk g.gx hbk s H C cl fp) he).2.2.1 rfl).1⟩ (fold_set (ih.h (tg := tg) g.gx hi hr).1 _)) fun Dn σ H h => ?_
              have q := comp_core hin ((asg_core h).1 rfl)
              rw [← g.gx.hK] at q
              exact q
          · cases h
        · cases h
      · cases h
    · simp only at h
      split at h
      · rename_i hbk
        obtain ⟨hbk, hc2⟩ := hbk
        split at h
        · rename_i hi ht hi1 ht1 he
          split at h
          · rename_i hin
            cases h
            rw [Bool.and_eq_true] at hin
            have B := blkOk_ok g.gx hbk
            refine ps_weak (ps_setLc2 (g.gx.calm hc2) s1 s2 loc hsw (ih.i g.gx hi id).2.1 B (tgIx_sub hin.2) (snd_tgB g.gx hc2 hbk ht) (fun s H C cl fp => pts_nil)
              (fun s H C cl fp => (ih.i (gx_blk g.gx hc2 hbk s H C cl fp) hi1 id).2.2.1) (snd_tgB g.gx hc2 hbk ht1) (fun s H C cl fp => pts_nil) (fun s H C cl fp => ((ih.e (gx_blk g.gx hc2 hbk s H C cl fp) he).2.2.1 rfl).1)
              (fold_set (ih.i (tg := tg) g.gx hi id).1 _) (fun env y => fold_set (ih.i (tg := tg1) (gx_blk g.gx hc2 hbk X.s_0 X.H_0 0 [] []) hi1 id).1 env y)) fun Dn σ H h => ?_
            have q := comp2_core hin.1 ((asg_core h).1 rfl)
            rw [← g.gx.hK] at q
            exact q
          · cases h
        · cases h
      · cases h
end
end Mi


set_option Elab.async false
set_option maxRecDepth 100000
set_option maxHeartbeats 4000000
/-! Mi20: a list within a list that is held alone is changed. -/
namespace Mi
open PySem L2
section
variable {K : PySem.W.Frag} {z : Fs} {G : Hp}
theorem Reps.of_get : ∀ {ds : List D} {vs : List V}, ds.length = vs.length → (∀ (k : Nat) d v, ds[k]? = some d → vs[k]? = some v → Rep K z G d v) → Reps K z G ds vs
  | [], [], _, _ => Reps.nil
  | [], _ :: _, h, _ => by cases h
  | _ :: _, [], h, _ => by cases h
  | d :: ds, v :: vs, h, k => Reps.cons (k 0 d v rfl rfl) (Reps.of_get (by simpa using h) fun j e u h1 h2 => k (j + 1) e u (by simpa using h1) (by simpa using h2))
theorem flat_fast {d : D} (h : flatD d = true) : d.fast = true := by
  cases d <;> first | rfl | cases h
theorem flats_fast : ∀ {ds : List D}, ds.all flatD = true → D.fasts ds = true
  | [], _ => by unfold D.fasts; rfl
  | d :: ds, h => by
    rw [List.all_cons, Bool.and_eq_true] at h
    unfold D.fasts
    rw [flat_fast h.1, flats_fast h.2]
    rfl
theorem flat_one {d e : D} {v : V} (hd : flatD d = true) (he : flatD e = true) (r : Rep K z G d v) (r2 : Rep K z G e v) : flatEq d e = true := by
  cases d <;> first | (cases hd; done) | skip
  all_goals cases e <;> first | (cases he; done) | skip
  all_goals
    unfold Rep at r r2
    subst r
    first
      | (cases r2; simp [flatEq]; done)
      | cases r2
theorem flats_one : ∀ {ds es : List D} {vs : List V}, ds.all flatD = true → es.all flatD = true → Reps K z G ds vs → Reps K z G es vs → flatsEq ds es = true
  | [], [], _, _, _, _, _ => rfl
  | [], e :: es, _, _, _, r, r2 => by
    have l1 := r.length
    have l2 := r2.length
    exact absurd (l1.symm.trans l2) (by simp)
  | d :: ds, [], _, _, _, r, r2 => by
    have l1 := r.length
    have l2 := r2.length
    exact absurd (l1.symm.trans l2) (by simp)
  | d :: ds, e :: es, vs, h1, h2, r, r2 => by
    rw [List.all_cons, Bool.and_eq_true] at h1 h2
    unfold Reps at r r2
    obtain ⟨v, vs1, rfl, q, t⟩ := r
    obtain ⟨v2, vs2, e2, q2, t2⟩ := r2
    cases e2
    unfold flatsEq
    rw [flat_one h1.1 h2.1 q q2, flats_one h1.2 h2.2 t t2]
    rfl
end
section
variable {S : Sx} {σ : St} {G H : Hp} {ρ : Env} {g : Gs}
theorem at2_eq {ds es : List D} {zz : D} (h : at2 ds zz = some es) : ∃ (i : Int) (a : Nat), zz = .int i ∧ ixN ds.length i = some a ∧ ds[a]? = some (.lst es) := by
  unfold at2 at h
  split at h
  · split at h
    · rename_i i o a h1
      split at h
      · rename_i o2 es2 h2
        cases h
        exact ⟨i, a, rfl, h1, h2⟩
      · cases h
    · cases h
  · cases h
theorem set2_eq {ds ds' : List D} {zz u y : D} (h : set2 ds zz u y = some ds') : ∃ (i j : Int) (a b : Nat) (es : List D), zz = .int i ∧ u = .int j ∧ ixN ds.length i = some a ∧ ds[a]? = some (.lst es) ∧ ixN es.length j = some b ∧ flatD y = true ∧ es.all flatD = true ∧ (ds.set a .non).all (apart es) = true ∧ ds' = ds.set a (.lst (es.set b y)) := by
  unfold set2 at h
  split at h
  · split at h
    · rename_i i j o a h1
      split at h
      · rename_i o2 es h2
        split at h
        · rename_i o3 b h3
          split at h
          · rename_i hc
            cases h
            exact ⟨i, j, a, b, es, rfl, rfl, h1, h2, h3, hc.1, hc.2.1, hc.2.2, rfl⟩
          · cases h
        · cases h
      · cases h
    · cases h
  · cases h
theorem others_get {i j : Nat} {q : Cell} (h : othersFast ρ i = true) (ne : j ≠ i) (e : ρ.get j = some q) : fastC (some q) = true := by
  unfold othersFast at h
  have hj : (ρ.set i none)[j]? = some (some q) := by
    rw [List.getElem?_set_ne (Ne.symm ne)]
    unfold Env.get at e
    split at e
    · rename_i z; cases e; exact z
    · cases e
  exact List.all_eq_true.mp h _ (List.mem_of_getElem? hj)
theorem Slots.write2 (hn : ∀ b vs, S.G0 b ≠ some (.lst vs)) {i a b : Nat} {ds es : List D} {y : D} {yv : V} (sl : Slots S ρ σ G H) (w : World S.a g G H) (x : Ext S.a S.G0 S.H0 G H) (e : ρ.get i = some (.own ds)) (ha : ds[a]? = some (.lst es)) (hy : flatD y = true) (he : es.all flatD = true)
    (hap : (ds.set a .non).all (apart es) = true) (hof : othersFast ρ i = true) (ry : Rep S.K S.a G y yv) :
    ∃ (p q : Addr) (vs us : List V), σ[i]? = some (some (.ref p)) ∧ H p = some (.lst vs) ∧ vs.length = ds.length ∧ vs[a]? = some (.ref q) ∧ H q = some (.lst us) ∧ us.length = es.length ∧
      ∃ G', Slots S (ρ.set i (some (.own (ds.set a (.lst (es.set b y)))))) σ G' (upd H q (.lst (us.set b yv))) ∧ World S.a g G' (upd H q (.lst (us.set b yv))) ∧ Ext S.a S.G0 S.H0 G' (upd H q (.lst (us.set b yv))) ∧ Sm true G G' := by
  obtain ⟨p, vs, f1, f2, n, gp, h0, rs⟩ := sl.own i ds e
  obtain ⟨v1, e1, r1⟩ := rs.get ha
  have r1' := r1
  unfold Rep at r1
  obtain ⟨q, us, rfl, gq, rus⟩ := r1
  have hq := w.sub _ _ gq
  have nq := w.offH gq
  have pq : p ≠ q := fun z => by rw [z, gq] at gp; cases gp
  have h0q : S.H0 q = none := by
    rcases x.new q _ gq with z | z
    · exact absurd z (hn q us)
    · exact z
  have ln : ∀ b ∈ [q], ∃ vs, G b = some (.lst vs) := fun b hb => by
    rw [List.mem_singleton.mp hb]; exact ⟨us, gq⟩
  refine ⟨p, q, vs, us, f1, f2, rs.length, e1, hq, rus.length, upd (less G [q]) q (.lst (us.set b yv)), ?_⟩
  have hi : i < ρ.length := by
    unfold Env.get at e
    split at e
    · rename_i z; exact (List.getElem?_eq_some_iff.mp z).1
    · cases e
  have out : ∀ c, c ≠ q → upd (less G [q]) q (.lst (us.set b yv)) c = G c := fun c hc => by
    rw [upd_ne hc, less_out (by simpa using hc)]
  have ls : Same (less G [q]) (upd (less G [q]) q (.lst (us.set b yv))) := fun c o h => by
    obtain ⟨h1, h2⟩ := less_some h
    rw [out c (by simpa using h1)]
    exact h2
  have mv : ∀ {d : D} {v : V}, d.fast = true → Rep S.K S.a G d v → Rep S.K S.a (upd (less G [q]) q (.lst (us.set b yv))) d v := fun f r => (Rep.less ln f r).mono ls
  have mvs : ∀ {d : List D} {v : List V}, D.fasts d = true → Reps S.K S.a G d v → Reps S.K S.a (upd (less G [q]) q (.lst (us.set b yv))) d v := fun f r => (Reps.less ln f r).mono ls
  have upq : ∀ c, S.a.has c → c ≠ q := fun c hc z => nq (z ▸ hc)
  have sm : Same (upd (less G [q]) q (.lst (us.set b yv))) (upd H q (.lst (us.set b yv))) := fun c o h => by
    by_cases hc : c = q
    · subst hc; rw [upd_same] at h ⊢; exact h
    · rw [out c hc] at h; rw [upd_ne hc]; exact w.sub c o h
  have main : Reps S.K S.a (upd (less G [q]) q (.lst (us.set b yv))) (ds.set a (.lst (es.set b y))) vs := by
    refine Reps.of_get (by rw [List.length_set, rs.length]) fun k d v hd hv => ?_
    by_cases hk : k = a
    · subst hk
      rw [List.getElem?_set_self (List.getElem?_eq_some_iff.mp ha).1] at hd
      cases hd
      rw [e1] at hv
      cases hv
      unfold Rep
      refine ⟨q, us.set b yv, rfl, upd_same, mvs (flats_fast ?_) (rus.set ry)⟩
      rw [List.all_eq_true]
      intro d hd
      rcases List.mem_or_eq_of_mem_set hd with hd | hd
      · exact List.all_eq_true.mp he d hd
      · rw [hd]; exact hy
    · rw [List.getElem?_set_ne (Ne.symm hk)] at hd
      obtain ⟨v', hv', rd⟩ := rs.get hd
      rw [hv] at hv'
      cases hv'
      have ap : apart es d = true := List.all_eq_true.mp hap d (List.mem_of_getElem? (by rw [List.getElem?_set_ne (Ne.symm hk)]; exact hd))
      cases d with
      | lst us2 =>
        unfold apart at ap
        rw [Bool.and_eq_true] at ap
        unfold Rep at rd ⊢
        obtain ⟨r, ws, rfl, gr, rws⟩ := rd
        have hr : r ≠ q := fun z => by
          subst z
          rw [gq] at gr
          cases gr
          have := flats_one he ap.1 rus rws
          rw [this] at ap
          exact absurd ap.2 (by decide)
        exact ⟨r, ws, rfl, by rw [out r hr]; exact gr, mvs (flats_fast ap.1) rws⟩
      | non => exact mv ap rd
      | bl _ => exact mv ap rd
      | int _ => exact mv ap rd
      | str _ => exact mv ap rd
      | tup _ => exact mv ap rd
      | st => exact mv ap rd
      | sub _ => exact mv ap rd
      | scr _ => exact mv ap rd
      | exn _ _ => exact mv ap rd
  refine ⟨⟨by rw [List.length_set]; exact sl.len, fun j d qe => ?_, fun j fs qe => ?_, fun j l fs ks ne q1 q2 => ?_⟩, w.move (fun c hc => upd_ne (upq c hc)) sm (fun c hc => ?_), ⟨fun c o h => ?_, fun c o h => ?_, fun c o h nc => ?_, fun c h => x.dm c (upd_none h)⟩, fun c o h nl => ?_⟩
  · rcases Env.get_set qe with ⟨rfl, q1, _⟩ | ⟨nj, q1⟩
    · cases q1
    · obtain ⟨v, g1, g2⟩ := sl.val j d q1
      exact ⟨v, g1, mv (others_get hof nj q1) g2⟩
  · rcases Env.get_set qe with ⟨rfl, q1, _⟩ | ⟨nj, q1⟩
    · cases q1
      exact ⟨p, vs, f1, by rw [upd_ne pq]; exact f2, n, by rw [out p pq]; exact gp, h0, main⟩
    · obtain ⟨p2, vs2, g1, g2, g3, g4, g5, g6⟩ := sl.own j fs q1
      have np : p2 ≠ q := fun z => by rw [z, gq] at g4; cases g4
      exact ⟨p2, vs2, g1, by rw [upd_ne np]; exact g2, g3, by rw [out p2 np]; exact g4, g5, mvs (others_get hof nj q1) g6⟩
  · rcases Env.get_set q1 with ⟨rfl, z1, _⟩ | ⟨n1, z1⟩
    · rcases Env.get_set q2 with ⟨rfl, z2, _⟩ | ⟨n2, z2⟩
      · exact absurd rfl ne
      · exact sl.sep j l ds ks ne e z2
    · rcases Env.get_set q2 with ⟨rfl, z2, _⟩ | ⟨n2, z2⟩
      · exact sl.sep j l fs ds ne z1 e
      · exact sl.sep j l fs ks ne z1 z2
  · rw [out c (upq c hc)]; exact w.off c hc
  · have hc : c ≠ q := fun z => by
      subst z
      have := x.gg c o h
      rw [gq] at this
      cases this
      exact hn c us h
    rw [out c hc]; exact x.gg c o h
  · by_cases hc : c = q
    · subst hc; exact .inr h0q
    · rw [out c hc] at h; exact x.new c o h
  · have hc : c ≠ q := fun z => by rw [z, h0q] at h; cases h
    rw [upd_ne hc]; exact x.kp c o h nc
  · have hc : c ≠ q := fun z => by
      subst z
      rw [gq] at h
      cases h
      exact nl rfl us rfl
    rw [out c hc]; exact h
end
end Mi


set_option Elab.async false
set_option maxRecDepth 100000
set_option maxHeartbeats 4000000
/-! Mi14: statements: the rest of the forms, and that what is translated is sound. -/
namespace Mi
open PySem L2
section
variable {X : Cx} {c : TC} {S : Sx} {k : Nat}
theorem swapsSole {ts : List Expr} {kk : Nat} {pt : Pos} {e : Expr} {l : Nat} {env : PySem.Env} : swapsWithSole [.Tuple ts kk pt] e l env = pure false := by
  show swapsWith e (some (.Tuple ts kk pt)) l env = pure false
  cases e <;> rfl
theorem noSwapT {ts : List Expr} {kk : Nat} {pt : Pos} {e : Expr} {env : PySem.Env} (h : isTup e = false) : swappedStores [.Tuple ts kk pt] e env = pure none := by
  cases e <;> first | rfl | (simp [isTup] at h)
theorem sts_asgT (g : GS X c S k) {ts : List Expr} {is : List Nat} {e : Expr} {m : E} {kk : Nat} {pt pos : Pos} (ht : isTup e = false) (hc : c.hot = false) (h1 : trTgs c ts = some is) (he : PE X e (tE S m)) : PS X (.Assign [.Tuple ts kk pt] e pos) (tS S (.asgT is m)) := by
  have tg : trTg c (.Tuple ts kk pt) = some (.tup is) := by show (if c.hot = true then none else (trTgs c ts).map Tg.tup) = some (.tup is); rw [if_neg (by rw [hc]; exact Bool.false_ne_true), h1]; rfl
  refine ps_weak (ps_asg he (snd_tg g.gx tg) swapsSole (noSwapT ht) rfl) fun Dn σ H ⟨ρ, G, gs, sl, w, x, r⟩ => ?_
  unfold exS at r
  refine ⟨ρ, G, gs, sl, w, SRes.step sl x r fun d g' G' H' x1 w1 sl1 x2 q v rv => ?_⟩
  cases hb : bindTg ρ (.tup is) d with
  | none => rw [hb] at q; exact q.elim
  | some ρ1 =>
    rw [hb] at q
    rw [g.gx.hK]
    exact gTg_of w1.sub rv hb fun σ1 tr _ => q σ1 G' H' (tr G' H' (Same.refl G') sl1) w1 x2 (Sm.refl _ G')
theorem aug_rule {oo : Operator} {o : Op} (h : trAug oo = some o) : PIp X oo (fun x y H Q => ∃ a b z, x = .int a ∧ y = .int b ∧ opD o (.int a) (.int b) = some (.int z) ∧ Q (.int z) H) := by
  intro pins s σ H x y v u Q I rx ry q
  obtain ⟨a, b, z, rfl, rfl, e, q⟩ := q
  cases oo <;> simp only [trAug, Option.some.injEq, reduceCtorEq] at h <;> subst h
  · unfold opD at e
    cases e
    exact iop_add pins s σ H _ _ v u Q I rx ry ⟨_, _, rfl, rfl, q⟩
  · unfold opD at e
    cases e
    exact iop_sub pins s σ H _ _ v u Q I rx ry ⟨_, _, rfl, rfl, q⟩
  · have e : (if (smallI a || smallI b) = true then some (D.int (a * b)) else none) = some (D.int z) := e
    split at e
    · rename_i hl
      cases e
      have hc : CMul a b := by
        rcases Bool.or_eq_true _ _ ▸ hl with h | h
        · exact .inl (smallI_iff h)
        · exact .inr (smallI_iff h)
      exact iop_mul pins s σ H _ _ v u Q I rx ry ⟨_, _, rfl, rfl, hc, q⟩
    · cases e
theorem opD_int {oo : Operator} {o : Op} (h : trAug oo = some o) {a b : Int} {z : D} (e : opD o (.int a) (.int b) = some z) : ∃ i, z = .int i := by
  cases oo <;> simp only [trAug, Option.some.injEq, reduceCtorEq] at h <;> subst h
  · cases e; exact ⟨_, rfl⟩
  · cases e; exact ⟨_, rfl⟩
  · have e : (if (smallI a || smallI b) = true then some (D.int (a * b)) else none) = some z := e
    split at e
    · cases e; exact ⟨_, rfl⟩
    · cases e
theorem sts_aug (g : GS X c S k) {x : Str} {i : Nat} {oo : Operator} {o : Op} {e : Expr} {m : E} {p pos : Pos} (hx : c.tgt x = some i) (ho : trAug oo = some o) (he : PE X e (tE S m)) : PS X (.AugAssign (.Name x p) oo e pos) (tS S (.aug i o m)) := by
  obtain ⟨s1, s2, s3, s4⟩ := g.gx.store hx
  refine ps_weak (ps_aug s1 s2 s3 he (aug_rule ho) s4) fun Dn σ H ⟨ρ, G, gs, sl, w, x, r⟩ => ?_
  unfold exS at r
  cases e1 : ρ.get i with
  | none => rw [e1] at r; exact r.elim
  | some q0 =>
    cases q0 with
    | own ds => rw [e1] at r; exact r.elim
    | val d =>
      rw [e1] at r
      simp only at r
      obtain ⟨v, e2, rv⟩ := sl.val i d e1
      refine ⟨v, e2, ρ, G, gs, sl, w, SRes.step sl x r fun d2 g' G' H' x1 w1 sl1 x2 q v2 rv2 => ?_⟩
      unfold onInts at q
      cases d with
      | int a =>
        cases d2 with
        | int b =>
          simp only at q
          cases hz : opD o (.int a) (.int b) with
          | none => rw [hz] at q; exact q.elim
          | some z =>
            rw [hz] at q
            obtain ⟨z, rfl⟩ := opD_int ho hz
            cases rv.inj_int
            cases rv2.inj_int
            exact ⟨a, b, z, rfl, rfl, hz, q _ G' H' (sl1.setV (by unfold Rep; rfl)) w1 x2 (Sm.refl _ G')⟩
        | _ => exact q.elim
      | _ => exact q.elim
theorem sts_app (g : GS X c S k) {x : Str} {i : Nat} {e : Expr} {m : E} {p apos cpos pos : Pos} (hx : c.slot x = some i) (hl : (apos.endLine == cpos.line) = true) (hs : notStar e = true) (he : PE X e (tE S m)) :
    PS X (.Expr (.Call (.Attribute (.Name x p) "append" apos) [e] [] cpos) pos) (tS S (.app i m)) := by
  refine ps_weak (ps_expr (pe_bm PySem.F.plainAttrs_list PySem.F.slot_list_append PySem.F.type_list_append mt_append (snd_var g.gx hx) (pa_cons he pa_nil (star_cons hs _ _)) rfl (by rw [star_cons hs]; rfl) hl (star_cons hs _ _) rfl) rfl) fun Dn σ H ⟨ρ, G, gs, sl, w, x, r⟩ => ?_
  unfold exS at r
  cases e1 : ρ.get i with
  | none => rw [e1] at r; exact r.elim
  | some q0 =>
    cases q0 with
    | val ds => rw [e1] at r; exact r.elim
    | own ds =>
      rw [e1] at r
      simp only at r
      obtain ⟨p, vs, f1, f2, n, gp, h0, rs⟩ := sl.own i ds e1
      refine ⟨_, f1, .inl ⟨rfl, vs, SqL.of f2⟩, ρ, G, gs, sl, w, SRes.step sl x r fun d2 g' G' H' x1 w1 sl1 x2 q v2 rv2 => ?_⟩
      split at q
      · rename_i hlen
        have k1 := x1.kp _ _ f2 n
        have r1 := rs.mono x1.gg
        refine ⟨p, vs, v2, rfl, rfl, k1, by rw [rs.length]; exact hlen, ?_⟩
        obtain ⟨a1, a2, a3⟩ := Slots.write sl1 w1 x2 e1 f1 k1 (r1.append (Reps.cons rv2 Reps.nil))
        exact q _ G' _ a1 a2 a3 (Sm.refl _ G')
      · exact q.elim
theorem sts_ext (g : GS X c S k) {x : Str} {i : Nat} {e : Expr} {m : E} {p apos cpos pos : Pos} (hx : c.slot x = some i) (hl : (apos.endLine == cpos.line) = true) (hs : notStar e = true) (he : PE X e (tE S m)) :
    PS X (.Expr (.Call (.Attribute (.Name x p) "extend" apos) [e] [] cpos) pos) (tS S (.ext i m)) := by
  refine ps_weak (ps_expr (pe_bm PySem.F.plainAttrs_list PySem.F.slot_list_extend PySem.F.type_list_extend mt_extend (snd_var g.gx hx) (pa_cons he pa_nil (star_cons hs _ _)) rfl (by rw [star_cons hs]; rfl) hl (star_cons hs _ _) rfl) rfl) fun Dn σ H ⟨ρ, G, gs, sl, w, x, r⟩ => ?_
  unfold exS at r
  cases e1 : ρ.get i with
  | none => rw [e1] at r; exact r.elim
  | some q0 =>
    cases q0 with
    | val ds => rw [e1] at r; exact r.elim
    | own ds =>
      rw [e1] at r
      simp only at r
      obtain ⟨p, vs, f1, f2, n, gp, h0, rs⟩ := sl.own i ds e1
      refine ⟨_, f1, .inl ⟨rfl, vs, SqL.of f2⟩, ρ, G, gs, sl, w, SRes.step sl x r fun d2 g' G' H' x1 w1 sl1 x2 q v2 rv2 => ?_⟩
      split at q
      · rename_i es
        split at q
        · rename_i hlen
          unfold Rep at rv2
          obtain ⟨p2, us, rfl, gq, rus⟩ := rv2
          have k1 := x1.kp _ _ f2 n
          have r1 := rs.mono x1.gg
          refine ⟨p, p2, vs, us, rfl, rfl, k1, w1.sub _ _ gq, by rw [rs.length, rus.length]; exact hlen, ?_⟩
          obtain ⟨a1, a2, a3⟩ := Slots.write sl1 w1 x2 e1 f1 k1 (r1.append rus)
          exact q _ G' _ a1 a2 a3 (Sm.refl _ G')
        · exact q.elim
      · exact q.elim
theorem Reps.last : ∀ {ds : List D} {vs : List V} {G : Hp} {d : D}, Reps S.K S.a G ds vs → ds.getLast? = some d → ∃ v, vs[vs.length - 1]? = some v ∧ Rep S.K S.a G d v ∧ Reps S.K S.a G ds.dropLast vs.dropLast
  | [], _, _, _, _, e => by cases e
  | [x], _, _, _, h, e => by
    cases e
    unfold Reps at h
    obtain ⟨v, r, rfl, q, t⟩ := h
    unfold Reps at t
    subst t
    exact ⟨v, rfl, q, Reps.nil⟩
  | x :: y :: ds, _, _, d, h, e => by
    unfold Reps at h
    obtain ⟨v, r, rfl, q, t⟩ := h
    obtain ⟨v2, e2, q2, t2⟩ := Reps.last t (by rw [List.getLast?_cons_cons] at e; exact e)
    have hl := t.length
    have hr : r ≠ [] := by
      intro z
      subst z
      simp at hl
    refine ⟨v2, ?_, q2, ?_⟩
    · rw [List.length_cons, Nat.add_sub_cancel]
      have hp : 0 < r.length := List.length_pos_iff.mpr hr
      obtain ⟨m, hm⟩ : ∃ m, r.length = m + 1 := ⟨r.length - 1, by omega⟩
      rw [hm] at e2 ⊢
      rw [List.getElem?_cons_succ]
      exact e2
    · rw [List.dropLast_cons_cons, List.dropLast_cons_of_ne_nil hr]
      exact Reps.cons q t2
theorem sts_popT (g : GS X c S k) {ts : List Expr} {is : List Nat} {x : Str} {i : Nat} {p apos cpos pt pos : Pos} {kk : Nat} (hc : c.hot = false) (h1 : trTgs c ts = some is) (hx : c.slot x = some i) (hl : (apos.endLine == cpos.line) = true) :
    PS X (.Assign [.Tuple ts kk pt] (.Call (.Attribute (.Name x p) "pop" apos) [] [] cpos) pos) (tS S (.popT is i)) := by
  have tg : trTg c (.Tuple ts kk pt) = some (.tup is) := by show (if c.hot = true then none else (trTgs c ts).map Tg.tup) = some (.tup is); rw [if_neg (by rw [hc]; exact Bool.false_ne_true), h1]; rfl
  refine ps_weak (ps_asg (pe_bm0 PySem.F.plainAttrs_list PySem.F.slot_list_pop PySem.F.type_list_pop mt_pop (snd_var g.gx hx) rfl hl) (snd_tg g.gx tg) swapsSole (noSwapT rfl) rfl) fun Dn σ H ⟨ρ, G, gs, sl, w, x, r⟩ => ?_
  unfold exS at r
  cases e1 : ρ.get i with
  | none => rw [e1] at r; exact r.elim
  | some q0 =>
    cases q0 with
    | val ds => rw [e1] at r; exact r.elim
    | own ds =>
      rw [e1] at r
      simp only at r
      obtain ⟨p, vs, f1, f2, n, gp, h0, rs⟩ := sl.own i ds e1
      cases e2 : ds.getLast? with
      | none => rw [e2] at r; exact r.elim
      | some d =>
        rw [e2] at r
        simp only at r
        obtain ⟨v, k1, k2, k3⟩ := Reps.last rs e2
        refine ⟨_, f1, .inl ⟨rfl, vs, SqL.of f2⟩, p, vs, v, rfl, rfl, f2, k1, ?_⟩
        obtain ⟨a1, a2, a3⟩ := Slots.write sl w x e1 f1 f2 k3
        cases hb : bindTg (ρ.set i (some (.own ds.dropLast))) (.tup is) d with
        | none => rw [hb] at r; exact r.elim
        | some ρ1 =>
          rw [hb] at r
          rw [g.gx.hK]
          exact gTg_of a2.sub k2 hb fun σ1 tr _ => r σ1 G _ (tr G _ (Same.refl G) a1) a2 a3 (Sm.refl _ G)
theorem sts_setix2 (g : GS X c S k) (ho : c.o2.isEmpty = false) {x : Str} {i : Nat} {be ke e : Expr} {mb mk m : E} {p pb pt pos : Pos} (hx : c.slot x = some i) (hc : isComp e = false) (hn : ∀ lo hi st p, ke ≠ .Slice lo hi st p) (hn2 : ∀ lo hi st p, be ≠ .Slice lo hi st p) (hb : PE X be (tE S mb)) (hk : PE X ke (tE S mk)) (he : PE X e (tE S m)) :
    PS X (.Assign [.Subscript (.Subscript (.Name x p) be pb) ke pt] e pos) (tS S (.setix2 i mb mk m)) := by
  have hpr : S.pr = true := by rw [g.pr.1, ho]; rfl
  have hno := g.pr.2 hpr
  refine ps_weak (ps_asg he (pg_sub (pe_ix ix_list (snd_var g.gx hx) hb (plainIx_of hn2)) hk set_list (by intro _; cases ke <;> first | rfl | exact absurd rfl (hn _ _ _ _))) (show swapsWithSole [.Subscript (.Subscript (.Name x p) be pb) ke pt] e pos.line X.env = pure false from swaps_no hc (some (.Subscript (.Subscript (.Name x p) be pb) ke pt)) pos.line X.env) (by cases e <;> rfl) (by rfl)) fun Dn σ H ⟨ρ, G, gs, sl, w, x, r⟩ => ?_
  unfold exS at r
  refine ⟨ρ, G, gs, sl, w, SRes.step sl x r fun d2 g' G' H' x1 w1 sl1 x2 q v2 rv2 => ?_⟩
  cases e1 : ρ.get i with
  | none => rw [e1] at q; exact q.elim
  | some q0 =>
    cases q0 with
    | val dd => rw [e1] at q; exact q.elim
    | own ds =>
      rw [e1] at q
      simp only at q
      obtain ⟨p0, vs0, f1, _⟩ := sl1.own i ds e1
      refine ⟨_, f1, ρ, G', g', sl1, w1, SRes.step sl1 x2 q fun d3 g3 G3 H3 x3 w3 sl3 x4 q3 v3 rv3 => ?_⟩
      split at q3
      · rename_i es0 hat
        obtain ⟨j, a, hd3, h1, h2⟩ := at2_eq hat
        have look : ∃ (vs : List V) (qa : Addr), H3 p0 = some (.lst vs) ∧ v3 = .int j ∧ atI vs j = some (.ref qa) ∧ ∃ us, G3 qa = some (.lst us) := by
          subst hd3
          obtain ⟨p', vs, k1, k2, k3, k4, k5, k6⟩ := sl3.own i ds e1
          rw [f1] at k1
          cases k1
          obtain ⟨v, ev, rv⟩ := k6.get h2
          unfold Rep at rv
          obtain ⟨qa, us, rfl, gq, _⟩ := rv
          exact ⟨vs, qa, k2, rv3.inj_int, by unfold atI; rw [k6.length, h1]; exact ev, us, gq⟩
        obtain ⟨vs, qa, k1, k2, k3, us, k4⟩ := look
        refine ⟨p0, vs, j, .ref qa, rfl, k2, SqL.of k1, k3, ρ, G3, g3, sl3, w3, SRes.step sl3 x4 q3 fun d4 g4 G4 H4 x5 w4 sl4 x6 q4 v4 rv4 => ?_⟩
        cases hs : set2 ds d3 d4 d2 with
        | none => rw [hs] at q4; exact q4.elim
        | some ds' =>
          rw [hs] at q4
          simp only at q4
          split at q4
          · rename_i hof
            obtain ⟨j1, j2, a', b, es', z1, z2, z3, z4, z5, z6, z7, z8, z9⟩ := set2_eq hs
            rw [hd3] at z1
            cases z1
            rw [h1] at z3
            cases z3
            rw [h2] at z4
            cases z4
            subst z2
            obtain ⟨p, qq, vs', us', y1, y2, y3, y4, y5, y6, G5, y7, y8, y9, y10⟩ := Slots.write2 (b := b) hno sl4 w4 x6 e1 h2 z6 z7 z8 hof ((rv2.mono x3.gg).mono x5.gg)
            rw [f1] at y1
            cases y1
            have : qq = qa := by
              obtain ⟨p', vs2, k1', k2', k3', k4', k5', k6'⟩ := sl3.own i ds e1
              rw [f1] at k1'
              cases k1'
              have hv := x5.kp _ _ k2' k3'
              rw [y2] at hv
              cases hv
              rw [k1] at k2'
              cases k2'
              unfold atI at k3
              rw [k6'.length, h1] at k3
              have k3 : vs[a]? = some (.ref qa) := k3
              rw [y4] at k3
              cases k3
              rfl
            subst this
            exact ⟨qq, us', j2, b, rfl, rv4.inj_int, y5, by rw [y6]; exact z5, (by rw [z9] at q4; exact q4 _ G5 _ y7 y8 y9 (by rw [hpr]; exact y10))⟩
          · exact q4.elim
      · exact q3.elim
theorem sts_setix (g : GS X c S k) {x : Str} {i : Nat} {ke e : Expr} {mk m : E} {p pt pos : Pos} (hx : c.slot x = some i) (hc : isComp e = false) (hn : ∀ lo hi st p, ke ≠ .Slice lo hi st p) (hk : PE X ke (tE S mk)) (he : PE X e (tE S m)) :
    PS X (.Assign [.Subscript (.Name x p) ke pt] e pos) (tS S (.setix i mk m)) := by
  refine ps_weak (ps_asg he (pg_sub (snd_var g.gx hx) hk set_list (by intro _; cases ke <;> first | rfl | exact absurd rfl (hn _ _ _ _))) (show swapsWithSole [.Subscript (.Name x p) ke pt] e pos.line X.env = pure false from swaps_no hc (some (.Subscript (.Name x p) ke pt)) pos.line X.env) (by cases e <;> rfl) (by rfl)) fun Dn σ H ⟨ρ, G, gs, sl, w, x, r⟩ => ?_
  unfold exS at r
  refine ⟨ρ, G, gs, sl, w, SRes.step sl x r fun d2 g' G' H' x1 w1 sl1 x2 q v2 rv2 => ?_⟩
  cases e1 : ρ.get i with
  | none => rw [e1] at q; exact q.elim
  | some q0 =>
    cases q0 with
    | val dd =>
      rw [e1] at q
      simp only at q
      obtain ⟨v, f1, rv⟩ := sl1.val i dd e1
      refine ⟨_, f1, ρ, G', g', sl1, w1, SRes.step sl1 x2 q fun d3 g3 G3 H3 x3 w3 sl3 x4 q3 v3 rv3 => ?_⟩
      cases hj : setG g3 dd d3 d2 with
      | none => rw [hj] at q3; exact q3.elim
      | some g4 =>
        rw [hj] at q3
        obtain ⟨p, xs, j, jj, rfl, rfl, k1, k2, w4, x5⟩ := setG_at w3 (rv.mono x3.gg) rv3 (rv2.mono x3.gg) hj
        exact ⟨p, xs, j, jj, rfl, rfl, k1, k2, q3 _ G3 _ (sl3.ext x5) w4 (x4.trans x5) (Sm.refl _ G3)⟩
    | own ds =>
      rw [e1] at q
      simp only at q
      obtain ⟨p, vs, f1, f2, n, gp, h0, rs⟩ := sl1.own i ds e1
      refine ⟨_, f1, ρ, G', g', sl1, w1, SRes.step sl1 x2 q fun d3 g3 G3 H3 x3 w3 sl3 x4 q3 v3 rv3 => ?_⟩
      cases d3 with
      | int j =>
        simp only at q3
        cases rv3.inj_int
        cases hj : ixN ds.length j with
        | none => rw [hj] at q3; exact q3.elim
        | some jj =>
          rw [hj] at q3
          have k1 := x3.kp _ _ f2 n
          have r1 := rs.mono x3.gg
          obtain ⟨a1, a2, a3⟩ := Slots.write sl3 w3 x4 e1 f1 k1 (r1.set (i := jj) (rv2.mono x3.gg))
          exact ⟨p, vs, j, jj, rfl, rfl, k1, by rw [rs.length]; exact hj, q3 _ G3 _ a1 a2 a3 (Sm.refl _ G3)⟩
      | _ => exact q3.elim
theorem sts_setg (g : GS X c S k) {ae ke e : Expr} {ma mk m : E} {pt pos : Pos} (hc : isComp e = false) (hn : ∀ lo hi st p, ke ≠ .Slice lo hi st p) (ha : PE X ae (tE S ma)) (hk : PE X ke (tE S mk)) (he : PE X e (tE S m)) :
    PS X (.Assign [.Subscript ae ke pt] e pos) (tS S (.setg ma mk m)) := by
  refine ps_weak (ps_asg he (pg_sub ha hk set_list (by intro _; cases ke <;> first | rfl | exact absurd rfl (hn _ _ _ _))) (show swapsWithSole [.Subscript ae ke pt] e pos.line X.env = pure false from swaps_no hc (some (.Subscript ae ke pt)) pos.line X.env) (by cases e <;> rfl) (by rfl)) fun Dn σ H ⟨ρ, G, gs, sl, w, x, r⟩ => ?_
  unfold exS at r
  refine ⟨ρ, G, gs, sl, w, SRes.step sl x r fun d2 g' G' H' x1 w1 sl1 x2 q v2 rv2 => ?_⟩
  refine ⟨ρ, G', g', sl1, w1, SRes.step sl1 x2 q fun dd g2 G2 H2 x3 w2 sl2 x4 q2 v rv => ?_⟩
  refine ⟨ρ, G2, g2, sl2, w2, SRes.step sl2 x4 q2 fun d3 g3 G3 H3 x5 w3 sl3 x6 q3 v3 rv3 => ?_⟩
  cases hj : setG g3 dd d3 d2 with
  | none => rw [hj] at q3; exact q3.elim
  | some g4 =>
    rw [hj] at q3
    obtain ⟨p, xs, j, jj, rfl, rfl, k1, k2, w4, x7⟩ := setG_at w3 (rv.mono x5.gg) rv3 ((rv2.mono x3.gg).mono x5.gg) hj
    exact ⟨p, xs, j, jj, rfl, rfl, k1, k2, q3 _ G3 _ (sl3.ext x7) w4 (x6.trans x7) (Sm.refl _ G3)⟩
theorem sts_appg {a e : Expr} {ma m : E} {apos cpos pos : Pos} (hb : ∀ env, attributeBase a "append" env (eval a env) = eval a env) (hl : (apos.endLine == cpos.line) = true) (hs : notStar e = true) (ha : PE X a (tE S ma)) (he : PE X e (tE S m)) :
    PS X (.Expr (.Call (.Attribute a "append" apos) [e] [] cpos) pos) (tS S (.appg ma m)) := by
  refine ps_weak (ps_expr (pe_bm PySem.F.plainAttrs_list PySem.F.slot_list_append PySem.F.type_list_append mt_append ha (pa_cons he pa_nil (star_cons hs _ _)) (hb _) (by rw [star_cons hs]; rfl) hl (star_cons hs _ _) rfl) rfl) fun Dn σ H ⟨ρ, G, gs, sl, w, x, r⟩ => ?_
  unfold exS at r
  refine ⟨ρ, G, gs, sl, w, SRes.step sl x r fun d g' G' H' x1 w1 sl1 x2 q v rv => ?_⟩
  split at q
  · rename_i hs
    have hv : ∃ p xs, v = .ref p ∧ H' p = some (.lst xs) := by
      cases d with
      | sub j =>
        obtain ⟨p, e2, rfl⟩ := repB_sub (S := S) (H := H') (G := G') rv
        have hj : j < g'.ls.length := of_decide_eq_true hs
        obtain ⟨p', e4, e5⟩ := w1.at_ (List.getElem?_eq_getElem hj)
        rw [e2] at e4
        cases e4
        exact ⟨_, _, rfl, e5⟩
      | _ => cases hs
    obtain ⟨p, xs, rfl, e5⟩ := hv
    refine ⟨.inl ⟨rfl, _, SqL.of e5⟩, ρ, G', g', sl1, w1, SRes.step sl1 x2 q fun d2 g2 G2 H2 x3 w2 sl2 x4 q2 v2 rv2 => ?_⟩
    cases hj : appG g2 d d2 with
    | none => rw [hj] at q2; exact q2.elim
    | some g4 =>
      rw [hj] at q2
      obtain ⟨p', xs', e6, e7, e8, w3, x5⟩ := appG_at w2 (rv.mono x3.gg) rv2 hj
      cases e6
      exact ⟨p, xs', v2, rfl, rfl, e7, e8, q2 _ G2 _ (sl2.ext x5) w3 (x4.trans x5) (Sm.refl _ G2)⟩
  · exact q.elim
theorem sts_expr {e : Expr} {m : E} {pos : Pos} (hc : isComp e = false) (he : PE X e (tE S m)) : PS X (.Expr e pos) (tS S (.expr m)) :=
  ps_weak (ps_expr he (swaps_no hc _ _ _)) fun Dn σ H ⟨ρ, G, gs, sl, w, x, r⟩ => by
  unfold exS at r
  exact ⟨ρ, G, gs, sl, w, SRes.step sl x r fun d2 g' G' H' x1 w1 sl1 x2 q v2 rv2 => q σ G' H' sl1 w1 x2 (Sm.refl _ G')⟩
theorem sts_if {t : Expr} {a b : List Stmt} {mt : E} {ma mb : List Mi.S} {pos : Pos} (ht : PT X t (tT S mt)) (ha : PSs X a (tSs S ma)) (hb : PSs X b (tSs S mb)) : PS X (.If t a b pos) (tS S (.ife mt ma mb)) :=
  ps_weak (ps_if ht ha hb) fun Dn σ H ⟨ρ, G, gs, sl, w, x, r⟩ => by
  unfold exS at r
  refine ⟨ρ, G, gs, sl, w, SRes.step sl x r fun d g' G' H' x1 w1 sl1 x2 q => ?_⟩
  cases e1 : truthG g' d with
  | none => rw [e1] at q; exact q.elim
  | some b =>
    rw [e1] at q
    refine ⟨b, rfl, ?_⟩
    cases b with
    | true => exact iteT ⟨ρ, G', g', sl1, w1, x2, q⟩
    | false => exact iteF ⟨ρ, G', g', sl1, w1, x2, q⟩
theorem sts_ret {e : Expr} {m : E} {pos : Pos} (he : PE X e (tE S m)) : PS X (.Return (some e) pos) (tS S (.ret m)) :=
  ps_weak (ps_ret he) fun Dn σ H ⟨ρ, G, gs, sl, w, x, r⟩ => by
  unfold exS at r
  exact ⟨ρ, G, gs, sl, w, SRes.step sl x r fun d2 g' G' H' x1 w1 sl1 x2 q v2 rv2 => q v2 G' H' w1 x2 rv2⟩
theorem sts_retN {pos : Pos} : PS X (.Return none pos) (tS S .retN) := ps_weak ps_retN fun Dn σ H ⟨ρ, G, gs, sl, w, x, r⟩ => by
  unfold exS at r
  exact r _ G H w x (by unfold Rep; rfl)
theorem sts_brk {pos : Pos} : PS X (.Break pos) (tS S .brk) := ps_weak ps_break fun Dn σ H ⟨ρ, G, gs, sl, w, x, r⟩ => by
  unfold exS at r
  exact r σ G H sl w x (Sm.refl _ G)
theorem sts_cnt {pos : Pos} : PS X (.Continue pos) (tS S .cnt) := ps_weak ps_continue fun Dn σ H ⟨ρ, G, gs, sl, w, x, r⟩ => by
  unfold exS at r
  exact r σ G H sl w x (Sm.refl _ G)
theorem sts_pass {pos : Pos} : PS X (.Pass pos) (tS S .pass) := ps_weak ps_pass fun Dn σ H ⟨ρ, G, gs, sl, w, x, r⟩ => by
  unfold exS at r
  exact r σ G H sl w x (Sm.refl _ G)
theorem stss_nil : PSs X [] (tSs S []) := pss_weak pss_nil fun Dn σ H ⟨ρ, G, gs, sl, w, x, r⟩ => by
  unfold exL at r
  exact r σ G H sl w x (Sm.refl _ G)
theorem stss_cons {s : Stmt} {ss : List Stmt} {m : Mi.S} {ms : List Mi.S} (h1 : PS X s (tS S m)) (h2 : PSs X ss (tSs S ms)) : PSs X (s :: ss) (tSs S (m :: ms)) :=
  pss_weak (pss_cons h1 h2) fun Dn σ H ⟨ρ, G, gs, sl, w, x, r⟩ => by
  unfold exL at r
  exact ⟨ρ, G, gs, sl, w, x, r.seq.mono (fun σ H ⟨ρ, G, g, sl, w, x, _, q⟩ => ⟨ρ, G, g, sl, w, x, q⟩) (fun _ _ h => h) (fun _ _ h => h) (fun _ _ h => h)⟩
theorem sts_for (g : GS X c S k) {tg it : Expr} {body : List Stmt} {mt : Tg} {mi : E} {mb : List Mi.S} {pos : Pos} (ht : trTg c tg = some mt) (hc : c.hot = false) (hn : notSet it = true) (hi : PI X tg it (tW S mi)) (hb : PSs X body (tSs S mb)) :
    PS X (.For tg it body [] pos) (tS S (.forS mt mi mb)) :=
  ps_weak (ps_for g.po (g.gx.calm hc) hi (snd_tg g.gx ht) hb (fold_set hn _)) fun Dn σ H ⟨ρ, G, gs, sl, w, x, r⟩ => by
  unfold exS at r
  refine ⟨ρ, G, gs, sl, w, SRes.step sl x r fun xs g1 G1 H1 x1 w1 sl1 x2 q J hJ => ?_⟩
  generalize hF : (fun (x : D) (ρ : Env) (g : Gs) => match bindTg ρ mt x with
    | some ρ1 => exL S.c mb ρ1 g
    | none => SR.no) = F at q
  let W : Nat → St → Hp → Prop := fun i σ H => i ≤ xs.length ∧ ∃ ρ G g, Slots S ρ σ G H ∧ World S.a g G H ∧ Ext S.a S.G0 S.H0 G H ∧ Sm S.pr G1 G ∧ SRes S G (forL F (xs.drop i) ρ g) Dn
  refine ⟨fun i m σ H => m = xs.length - i ∧ W i σ H, ⟨_, rfl, Nat.zero_le _, ρ, G1, g1, sl1, w1, x2, Sm.refl _ G1, q⟩, ?_⟩
  rintro i m σ H ⟨rfl, hi, ρ, G, g2, sl, w, x, s1, q⟩
  by_cases hlt : i < xs.length
  · refine .inr ⟨hJ.goes i G H hlt s1 w.sub, W (i + 1), fun σ' H' p' => ⟨xs.length - (i + 1), by omega, rfl, p'⟩, fun y H' hy => ?_⟩
    obtain ⟨d, ed, G', x3, w3, rd⟩ := hJ.yields i H y H' G g2 hlt s1 w.sub hy w
    rw [drop_at ed] at q
    unfold forL at q
    rw [← hF] at q
    simp only at q
    cases hbd : bindTg ρ mt d with
    | none => rw [hbd] at q; exact q.elim
    | some ρ1 =>
      rw [hbd] at q
      simp only at q
      rw [g.gx.hK]
      refine gTg_of w3.sub rd hbd fun σ2 tr _ => ⟨ρ1, G', g2, tr G' H' (Same.refl G') (sl.ext x3), w3, x.trans x3, (SRes.shift (Sm.of x3.gg) q).turn.mono (fun σ H ⟨ρ, G2, g, sl, w, x, s2, q⟩ => ⟨hlt, ρ, G2, g, sl, w, x, (s1.trans (Sm.of x3.gg)).trans s2, by rw [← hF]; exact q⟩) (fun _ _ h => h) (fun _ _ h => h) (fun σ H ⟨ρ, G2, g, sl, w, x, s2, q⟩ => ⟨hlt, ρ, G2, g, sl, w, x, (s1.trans (Sm.of x3.gg)).trans s2, by rw [← hF]; exact q⟩)⟩
  · have ei : i = xs.length := by omega
    subst ei
    rw [List.drop_length] at q
    unfold forL at q
    exact .inl ⟨hJ.stops G H s1 w.sub, q σ G H sl w x (Sm.refl _ G)⟩
theorem sts_while (g : GS X c S k) {t : Expr} {body : List Stmt} {mt : E} {mb : List Mi.S} {fz : List Nat} {pos : Pos} (ht : PT X t (tT S mt)) (hb : PSs X body (tSs S mb)) : PS X (.While t body [] pos) (tS S (.whl fz mt mb)) :=
  ps_weak (ps_while g.po ht hb) fun Dn σ H ⟨ρ, G, gs, sl, w, x, r⟩ => by
  unfold exS at r
  generalize hT : (fun (ρ : Env) (g : Gs) => brw mt ρ g (ev S.c mt ρ g)) = T at r
  generalize hB : (fun (ρ : Env) (g : Gs) => exL S.c mb ρ g) = B at r
  let W : Nat → St → Hp → Prop := fun m σ H => ∃ ρ G g, Slots S ρ σ G H ∧ World S.a g G H ∧ Ext S.a S.G0 S.H0 G H ∧ SRes S G (whlL fz T B m ρ g) Dn
  refine ⟨W, ⟨turns, ρ, G, gs, sl, w, x, r⟩, ?_⟩
  rintro m σ H ⟨ρ, G, g2, sl, w, x, q⟩
  cases m with
  | zero => unfold whlL at q; exact q.elim
  | succ m =>
    unfold whlL at q
    obtain ⟨G', sl', w', x', s'⟩ := Slots.freeze (is := fz) sl w x
    have q := SRes.shift (Sm.of s') q
    rw [← hT] at q
    refine ⟨_, G', g2, sl', w', ?_⟩
    refine SRes.step sl' x' q fun d g3 G3 H3 x3 w3 sl3 x4 q3 => ?_
    cases e1 : truthG g3 d with
    | none => rw [e1] at q3; exact q3.elim
    | some b =>
      rw [e1] at q3
      refine ⟨b, rfl, ?_⟩
      cases b with
      | false => exact iteF (q3 σ G3 H3 sl3 w3 x4 (Sm.refl _ G3))
      | true =>
        refine iteT ⟨W m, fun σ' H' p' => ⟨m, Nat.lt_succ_self m, p'⟩, ?_⟩
        rw [← hB] at q3
        refine ⟨_, G3, g3, sl3, w3, x4, q3.turn.mono (fun σ H ⟨ρ, G2, g, sl, w, x, s2, q⟩ => ?_) (fun _ _ h => h) (fun _ _ h => h) (fun σ H ⟨ρ, G2, g, sl, w, x, s2, q⟩ => ?_)⟩
        · exact ⟨ρ, G2, g, sl, w, x, by rw [← hT, ← hB]; exact q⟩
        · exact ⟨ρ, G2, g, sl, w, x, by rw [← hT, ← hB]; exact q⟩
theorem Slots.ofNox {ρ : Env} {σ : St} {G H : Hp} (h : Slots S ρ σ G H) : Slots S.nox ρ σ G H := ⟨h.len, h.val, h.own, h.sep⟩
theorem Slots.unNox {ρ : Env} {σ : St} {G H : Hp} (h : Slots S.nox ρ σ G H) : Slots S ρ σ G H := ⟨h.len, h.val, h.own, h.sep⟩
theorem gs_nox (g : GS X c S k) : GS X.nox c S.nox k :=
  ⟨⟨g.gx.N, g.gx.nd, g.gx.nm, g.gx.fk, g.gx.calm, g.gx.rm, g.gx.cold, g.gx.hand, g.gx.hX, g.gx.hK, fun _ _ ⟨_, _, _, _, _, _, _, _, _, _, _, _, _, _, _, _, w⟩ => w.elim, ⟨g.gx.tab.fn, g.gx.tab.fx, g.gx.tab.bi, g.gx.tab.ar, g.gx.tab.con, g.gx.tab.dc, g.gx.tab.df, g.gx.tab.cl⟩, g.gx.cel⟩, PassesOwn.never, g.st, g.pr⟩
theorem sts_try {body : List Stmt} {h0 : ExceptHandler} {hs : List ExceptHandler} {mb : List Mi.S} {pos : Pos} (hb : PSs X.nox body (tSs S.nox mb)) : PS X (.Try body (h0 :: hs) [] [] pos) (tS S (.tryT mb)) :=
  ps_weak (ps_try_thru0 hb) fun Dn σ H ⟨ρ, G, gs, sl, w, x, r⟩ => by
  unfold exS at r
  refine ⟨ρ, G, gs, sl.ofNox, w, x, ?_⟩
  show SRes S.nox G (exL S.c mb ρ gs) Dn
  revert r
  cases exL S.c mb ρ gs with
  | nx ρ g => exact fun r σ G H sl w x s => r σ G H sl.unNox w x s
  | rt d g => exact fun r => r
  | bk ρ g => exact fun r σ G H sl w x s => r σ G H sl.unNox w x s
  | ct ρ g => exact fun r σ G H sl w x s => r σ G H sl.unNox w x s
  | ex e ρ g => exact fun r => r.elim
  | no => exact fun r => r
end
section
variable {X : Cx} {c : TC} {S : Sx} {k : Nat}
theorem sts_raise (g : GS X c S k) (hc : c.hot = false) {x : Str} {j : Nat} {e : Expr} {es : List Expr} {ms : List E} {p pos pos2 : Pos} (hx : c.cls x = some j) (hl : (e :: es).length = (exFs j).length) (hs : (e :: es).all notStar = true) (ha : PA X (e :: es) (tL S ms)) :
    PS X (.Raise (some (.Call (.Name x p) (e :: es) [] pos)) none pos2) (tS S (.raise j ms)) := by
  obtain ⟨h1, h2, h3⟩ := TC.cls_nm hx
  have n100 : j ≠ 100 := fun z => by subst z; exact absurd hl (by simp [exFs, exCls])
  have n101 : j ≠ 101 := fun z => by subst z; exact absurd hl (by simp [exFs, exCls])
  have hj : j ∈ c.xs := by
    rcases List.mem_cons.mp h3 with z | z
    · exact absurd z n100
    · rcases List.mem_cons.mp z with z | z
      · exact absurd z n101
      · exact z
  have hnm : exNm j = x := by
    unfold clsNm at h2
    rw [if_neg n100, if_neg n101] at h2
    exact h2
  obtain ⟨C, e3, T, _, _, _⟩ := (g.gx.tab.cl.at_ j hj).at_
  rw [hnm] at T
  obtain ⟨_, _, _, hdb⟩ := g.gx.tab.cl.val j h3
  rw [h2] at hdb
  have hs' : notStar e = true ∧ es.all notStar = true := by rw [List.all_cons, Bool.and_eq_true] at hs; exact hs
  refine ps_weak (L2N.ps_raise (g.gx.calm hc) g.gx.tk (L2N.pmk_x T (g.gx.cold hc).1 ha (g.gx.gl h1) hdb (star_cons hs'.1 es X.env) (star_any hs'.2))) fun Dn σ H ⟨ρ, G, gs, sl, w, x, r⟩ => ?_
  unfold exS at r
  refine ⟨ρ, G, gs, sl, w, SRes.step sl x r fun ds g' G' H' x1 w1 sl1 x2 q vs rv => ?_⟩
  split at q
  · rename_i hd
    refine ⟨by rw [rv.length]; exact hd, fun d hp => ?_⟩
    obtain ⟨x3, w3⟩ := Ext.alloc (o := .xd ((exFs j).zip vs)) w1 hp
    exact q σ _ _ _ _ (sl1.ext x3) w3 (x2.trans x3) (Sm.of x3.gg) ⟨C, d, vs, rfl, by rw [g.gx.hX]; exact hj, by rw [← g.gx.hK]; exact e3, rfl, upd_same, by rw [rv.length]; exact hd, rv.mono x3.gg⟩
  · exact q.elim
theorem lendE_fr {c : TC} {m : E} (h : isFr (c.lendE m) = true) : c.lendE m = m := by
  cases m <;> first | rfl | (unfold TC.lendE at h; simp only at h; split at h <;> simp [isFr] at h)
theorem TC.tgl_nm {y : Str} {i : Nat} (h : c.tgl y = some i) : c.nm.lookup y = some .local ∧ c.N[i]? = some y := by
  unfold TC.tgl at h
  split at h
  · rename_i e
    refine ⟨e, ?_⟩
    obtain ⟨hi, e, _⟩ := List.findIdx?_eq_some_iff_getElem.mp h
    rw [List.getElem?_eq_getElem hi]
    have : c.N[i] = y := by simpa using e
    rw [this]
  · cases h
def tsH (S : Sx) (mh : List Mi.S) : Addr → Value → Option Addr → TS := fun a cls d D σ H => ∃ (j : Nat) (dd C : Addr), cls = .ref C ∧ d = some dd ∧ j ∈ S.xs ∧ clsA S.K j = some C ∧ tSs (hotS S a j dd) mh D σ H
theorem SRes.wish {W : WX} {G : Hp} {r : SR} {Dn : Ends} {j : Nat} {f : Exn → Env → Gs → SR} (h : SRes S G (r.caught j f) Dn)
    (k : ∀ e ρ g, SRes S G (if isSub e.cls j = true then f e ρ g else .ex e ρ g) Dn → ∀ σ G' H cls d, Slots S ρ σ G' H → World S.a g G' H → Ext S.a S.G0 S.H0 G' H → Sm S.pr G G' → ExAt S G' e cls d → W cls d σ H) : SRes { S with W := W } G r Dn := by
  cases r with
  | nx ρ g => exact fun σ G H sl w x s => h σ G H sl.unwishW w x s
  | rt d g => exact h
  | bk ρ g => exact fun σ G H sl w x s => h σ G H sl.unwishW w x s
  | ct ρ g => exact fun σ G H sl w x s => h σ G H sl.unwishW w x s
  | ex e ρ g => exact fun σ G' H cls d sl w x s q => k e ρ g h σ G' H cls d sl.unwishW w x s q
  | no => exact h
theorem SRes.hot {G : Hp} {r : SR} {Dn : Ends} {a : Addr} {j : Nat} {dd : Addr} {i : Nat} (h : SRes S G (r.out i) Dn) :
    SRes (hotS S a j dd) G r { nx := fun σ H => Dn.nx (σ.set i none) H, rt := Dn.rt, bk := fun σ H => Dn.bk (σ.set i none) H, ct := fun σ H => Dn.ct (σ.set i none) H } := by
  have one : ∀ {ρ : Env} {f : Env → SR} {P : Prop}, SRes S G (match Mi.gone ρ i with | some ρ => f ρ | none => .no) Dn → (∀ ρ2, Mi.gone ρ i = some ρ2 → SRes S G (f ρ2) Dn → P) → P := fun {ρ f P} h k => by
    cases e : Mi.gone ρ i with
    | none => rw [e] at h; exact h.elim
    | some ρ2 => rw [e] at h; exact k ρ2 e h
  cases r with
  | nx ρ g =>
    unfold SR.out at h
    exact one (f := fun ρ => .nx ρ g) h fun ρ2 e h σ G' H sl w x s => h _ G' H (sl.gone e) w.toCold x.toCold s
  | rt d g =>
    unfold SR.out at h
    simp only at h
    split at h
    · rename_i n
      exact fun v G' H w x r => h v G' H w.toCold x.toCold (r.toCold n)
    · exact h.elim
  | bk ρ g =>
    unfold SR.out at h
    exact one (f := fun ρ => .bk ρ g) h fun ρ2 e h σ G' H sl w x s => h _ G' H (sl.gone e) w.toCold x.toCold s
  | ct ρ g =>
    unfold SR.out at h
    exact one (f := fun ρ => .ct ρ g) h fun ρ2 e h σ G' H sl w x s => h _ G' H (sl.gone e) w.toCold x.toCold s
  | ex e ρ g => exact h.elim
  | no => exact h.elim
theorem sts_tryX (g : GS X c S k) (hc : c.hot = false) {x y : Str} {j i : Nat} {body r : List Stmt} {b : Stmt} {mb mh : List Mi.S} {p p' pos : Pos} (hx : c.cls x = some j) (hy : c.tgl y = some i)
    (hb : ∀ {X' : Cx} {S' : Sx}, GS X' c S' k → PSs X' body (tSs S' mb)) (hh : ∀ {X' : Cx} {S' : Sx}, GS X' { c with hot := true } S' k → PSs X' (b :: r) (tSs S' mh)) :
    PS X (.Try body [.ExceptHandler (some (.Name x p)) (some y) (b :: r) p'] [] [] pos) (tS S (.tryX mb j i mh)) := by
  obtain ⟨h1, h2, h3⟩ := TC.cls_nm hx
  obtain ⟨y1, y2⟩ := TC.tgl_nm hy
  obtain ⟨cv, q1, q2, q3⟩ := g.gx.tab.cl.val j h3
  rw [h2] at q2 q3
  have nms : Names X x cv := ⟨g.gx.gl h1, q3, by
    rcases q2 with ⟨C, rfl, q2⟩ | ⟨rfl, q2, rfl⟩
    · exact .inl q2
    · refine .inr ⟨?_, ?_, ?_⟩
      · rw [← h2]; exact q2
      · rw [← h2]; decide +kernel
      · rw [← h2]; decide +kernel⟩
  refine ps_weak (L2N.ps_try_as (c := cv) (i := i) (n := y) (tb := fun W => tSs { S with W := W } mb) (ts := tsH S mh) g.st.1 g.st.2 (by rw [g.gx.N]; exact g.gx.nd) (by rw [g.gx.N]; exact y2) (by show X.env.scope.names.lookup y = _; rw [g.gx.nm]; exact y1) nms g.gx.tk (fun W pn xe tk po => ?_) (fun a oe cls d pn hz hf => ?_)) fun Dn σ H ⟨ρ, G, gs, sl, w, x, rr⟩ => ?_
  · exact hb ⟨⟨g.gx.N, g.gx.nd, g.gx.nm, g.gx.fk, g.gx.calm, g.gx.rm, g.gx.cold, (fun z => absurd (hc.symm.trans z) Bool.false_ne_true), g.gx.hX, g.gx.hK, tk, ⟨g.gx.tab.fn, g.gx.tab.fx, g.gx.tab.bi, g.gx.tab.ar, g.gx.tab.con, g.gx.tab.dc, g.gx.tab.df, g.gx.tab.cl⟩, g.gx.cel⟩, po, g.st, g.pr⟩
  · refine ⟨fun pins s σ H D I ⟨j', dd, C, e1, e2, m, e3, q⟩ => ?_⟩
    subst e1 e2
    have gs : GS (X.suite a ((a, oe) :: pn)) { c with hot := true } (hotS S a j' dd) k := by
      obtain ⟨vs, hd⟩ := hf
      refine ⟨⟨g.gx.N, g.gx.nd, g.gx.nm, g.gx.fk, (fun z => Bool.noConfusion z), ⟨g.gx.rm.dp, g.gx.rm.un⟩, (fun z => Bool.noConfusion z), fun _ => ⟨(a, oe), j', dd, rfl, ⟨m, ⟨C, e3, hz⟩, ⟨vs, hd⟩⟩, ⟨rfl, vs, hd, hz.2.2 vs hd⟩, List.mem_cons_self⟩, g.gx.hX, g.gx.hK,
        fun _ _ ⟨_, _, _, _, _, _, _, _, _, _, _, _, _, _, _, _, w⟩ => w.elim, ⟨g.gx.tab.fn, g.gx.tab.fx, g.gx.tab.bi, g.gx.tab.ar, g.gx.tab.con, g.gx.tab.dc, g.gx.tab.df, g.gx.tab.cl⟩, g.gx.cel⟩, PassesOwn.never, g.st, g.pr⟩
    exact (hh gs).run pins s σ H D I q
  · unfold exS at rr
    refine ⟨ρ, G, gs, sl.wishW, w, x, SRes.wish rr fun e ρ2 g2 h σ2 G2 H2 cls d sl2 w2 x2 s2 ea => ?_⟩
    obtain ⟨C, dd, vs, rfl, m, e3, rfl, gd, lv, rs⟩ := ea
    have mm : e.cls ∈ c.xs := by rw [← g.gx.hX]; exact m
    have rel := (g.gx.tab.cl.rel e.cls mm j h3 C cv (by rw [g.gx.hK]; exact e3) q1).2
    refine ⟨isSub e.cls j, rel, fun hyes a na => ?_, fun hno => ?_⟩
    · rw [if_pos hyes] at h
      have er := (g.gx.cold hc).2
      refine ⟨e.cls, dd, C, rfl, rfl, m, e3, ρ2.set i (some (.val (.exn e.cls e.fs))), G2, g2, ?_, w2.toHot, x2.toHot, SRes.hot (SRes.shift s2 h)⟩
      refine (sl2.toHot er).setV ?_
      show Rep S.K (S.a.hot (some (a, e.cls, dd))) G2 (.exn e.cls e.fs) (.ref a)
      unfold Rep
      exact ⟨a, dd, vs, rfl, rfl, gd, lv, rs.toHot er⟩
    · rw [if_neg (by rw [hno]; exact Bool.false_ne_true)] at h
      exact h σ2 G2 H2 _ _ sl2 w2 x2 s2 ⟨C, dd, vs, rfl, m, e3, rfl, gd, lv, rs⟩
end
/-! ### the translation of statements is sound -/
theorem lendT_ok {X : Cx} {c : TC} {S : Sx} {e : Expr} {m : E} (h : PT X e (tT S m)) : PT X e (tT S (c.lendT m)) := by
  unfold TC.lendT
  split
  · exact h
  · rename_i m hn
    split
    · exact h
    · exact snd_lendT (fun i e => hn i e) h
structure SndS (n : Nat) : Prop where
  s : ∀ {X : Cx} {c : TC} {S : Sx} {k : Nat} {st : Stmt} {m : Mi.S}, GS X c S k → trS c n st = some m → PS X st (tS S m)
  s1 : ∀ {X : Cx} {c : TC} {S : Sx} {k : Nat} {st : Stmt} {m : Mi.S}, GS X c S k → trS1 c n st = some m → PS X st (tS S m)
  l : ∀ {X : Cx} {c : TC} {S : Sx} {k : Nat} {st : List Stmt} {ms : List Mi.S}, GS X c S k → trSs c n st = some ms → PSs X st (tSs S ms)
theorem ne_cons {l : List Expr} (h : l.isEmpty = false) : ∃ e es, l = e :: es := by
  cases l with
  | nil => cases h
  | cons e es => exact ⟨e, es, rfl⟩
theorem sts_zero : SndS 0 := by
  refine ⟨fun _ h => ?_, fun _ h => ?_, fun _ h => ?_⟩
  · unfold trS at h; cases h
  · unfold trS1 at h; cases h
  · unfold trSs at h; cases h
theorem sts_succ {n : Nat} (ih : SndS n) : SndS (n + 1) := by
  refine ⟨fun {X c S k st m} g h => ?_, fun {X c S k st m} g h => ?_, fun {X c S k st ms} g h => ?_⟩
  · unfold trS at h
    cases q : trS1 c n st with
    | none =>
      rw [q] at h
      cases h
      exact ps_weak ps_never fun _ _ _ ⟨_, _, _, _, _, _, r⟩ => r.elim
    | some m' =>
      rw [q] at h
      cases h
      exact ih.s1 g q
  · have E1 : ∀ {e : Expr} {m : E}, trE c false n e = some m → PE X e (tE S m) ∧ (isFr m = true → PE X e (tF S m)) ∧ notStar e = true := fun h => by
      have q := (snd_all n).e g.gx h
      exact ⟨(q.2.2.1 rfl).1, (q.2.2.1 rfl).2.2, q.1⟩
    have T1 : ∀ {e : Expr} {m : E}, trE c true n e = some m → PT X e (tT S m) := fun h => ((snd_all n).e g.gx h).2.2.2 rfl
    unfold trS1 at h
    simp only at h
    split at h
    · split at h
      · rename_i hx he
        cases h
        split
        · rename_i hc
          exact sts_wrap (sts_asgC g hx hc he)
        · rename_i hc
          refine sts_wrap (sts_asg g hx (by simpa using hc) ?_ fun hf => ?_)
          · unfold TC.lendE
            split
            · split
              · exact (E1 he).1
              · exact snd_lend (E1 he).1
            · exact (E1 he).1
          · have e := lendE_fr hf
            rw [e] at hf ⊢
            exact (E1 he).2.1 hf
      · cases h
    · split at h
      · rename_i hq
        obtain ⟨q1, q2, q3⟩ := hq
        subst q1
        split at h
        · rename_i h1 h2
          cases h
          exact sts_popT g q3 h1 h2 q2
        · cases h
      · cases h
    · split at h
      · cases h
      · rename_i ht
        split at h
        · rename_i h1 he
          cases h
          exact sts_wrap (sts_asgT g (by
            cases q : isTup _ with
            | false => rfl
            | true => exact absurd (.inl q) ht) (by
            cases q : c.hot with
            | false => rfl
            | true => exact absurd (.inr q) ht) h1 (E1 he).1)
        · cases h
    · split at h
      · cases h
      · rename_i hc
        split at h
        · rename_i hx hk he
          cases h
          exact sts_wrap (sts_setix g hx (by simpa using hc) (fun lo hi st p e => by subst e; rw [slice_none] at hk; cases hk) (E1 hk).1 (E1 he).1)
        · cases h
    · split at h
      · cases h
      · rename_i hc
        split at h
        · rename_i hx hb hk he
          split at h
          · rename_i ho
            split at h
            · cases h
            · cases h
              have ho2 : c.o2.isEmpty = false := by
                cases q : c.o2 with
                | nil => rw [q] at ho; simp at ho
                | cons _ _ => rfl
              exact sts_setix2 g ho2 hx (by simpa using hc) (fun lo hi st p e => by subst e; rw [slice_none] at hk; cases hk) (fun lo hi st p e => by subst e; rw [slice_none] at hb; cases hb) (E1 hb).1 (E1 hk).1 (E1 he).1
          · split at h
            · rename_i ha
              cases h
              exact sts_wrap (sts_setg g (by simpa using hc) (fun lo hi st p e => by subst e; rw [slice_none] at hk; cases hk) (E1 ha).1 (E1 hk).1 (E1 he).1)
            · cases h
        · cases h
    · split at h
      · cases h
      · rename_i hc
        split at h
        · rename_i ha hk he
          cases h
          exact sts_wrap (sts_setg g (by simpa using hc) (fun lo hi st p e => by subst e; rw [slice_none] at hk; cases hk) (E1 ha).1 (E1 hk).1 (E1 he).1)
        · cases h
    · split at h
      · rename_i hc
        obtain ⟨rfl, hl⟩ := hc
        split at h
        · rename_i ha he
          cases h
          exact sts_wrap (sts_appg (fun _ => rfl) hl (E1 he).2.2 (E1 ha).1 (E1 he).1)
        · cases h
      · split at h
        · split at h
          · rename_i he
            cases h
            exact sts_wrap (sts_expr rfl (E1 he).1)
          · cases h
        · cases h
    · split at h
      · rename_i hx ho he
        cases h
        exact sts_wrap (sts_aug g hx ho (E1 he).1)
      · cases h
    · split at h
      · rename_i hc
        split at h
        · rename_i hx he
          cases h
          obtain ⟨h1, h2⟩ := hc
          subst h1
          exact sts_wrap (sts_app g hx h2 (E1 he).2.2 (E1 he).1)
        · cases h
      · split at h
        · rename_i hc
          split at h
          · rename_i hx he
            cases h
            obtain ⟨h1, h2⟩ := hc
            subst h1
            exact sts_wrap (sts_ext g hx h2 (E1 he).2.2 (E1 he).1)
          · cases h
        · cases h
    · split at h
      · rename_i he
        cases h
        exact sts_wrap (sts_expr rfl (E1 he).1)
      · cases h
    · split at h
      · rename_i ht ha hb
        cases h
        exact sts_wrap (sts_if (lendT_ok (T1 ht)) (ih.l g ha) (ih.l g hb))
      · cases h
    · split at h
      · cases h
      · rename_i hc
        split at h
        · rename_i ht hi hb
          split at h
          · rename_i ho
            cases h
            obtain ⟨i1, _, i3, i4⟩ := (snd_all n).i g.gx hi id
            refine sts_wrap (sts_for g ht (by simpa using hc) i1 ?_ (ih.l g hb))
            rcases ho with ho | ho
            · exact tw_of (by rw [g.pr.1, ho]; rfl) i3
            · exact i4 ho
          · cases h
        · cases h
    · split at h
      · rename_i ht hb
        cases h
        exact sts_while g (T1 ht) (ih.l g hb)
      · cases h
    · split at h
      · rename_i he
        cases h
        exact sts_wrap (sts_ret (E1 he).1)
      · cases h
    · cases h; exact sts_retN
    · cases h; exact sts_brk
    · cases h; exact sts_cnt
    · cases h; exact sts_pass
    · have never : ∀ {e : Option Expr} {pos : Pos}, PS X (.Raise e none pos) (tS S .stuck) := ps_weak ps_never fun _ _ _ ⟨_, _, _, _, _, _, r⟩ => r.elim
      split at h
      · cases h; exact never
      · rename_i hc
        split at h
        · rename_i hx hes
          split at h
          · rename_i hl
            cases h
            obtain ⟨l1, l2, _⟩ := (snd_all n).l g.gx hes
            obtain ⟨e, es, rfl⟩ := ne_cons hl.1
            exact sts_wrap (sts_raise g (by simpa using hc) hx hl.2 l1 l2)
          · cases h; exact never
        · cases h; exact never
    · cases h; exact ps_weak ps_never fun _ _ _ ⟨_, _, _, _, _, _, r⟩ => r.elim
    · split at h
      · cases h
      · rename_i hc
        split at h
        · rename_i hx hy hb hh
          cases h
          exact sts_tryX g (by simpa using hc) hx hy (fun g' => ih.l g' hb) (fun g' => ih.l g' hh)
        · rename_i hb _
          cases h
          exact sts_try (ih.l (gs_nox g) hb)
        · cases h
    · obtain ⟨mb, hb, rfl⟩ := Option.map_eq_some_iff.mp h
      exact sts_try (ih.l (gs_nox g) hb)
    · cases h
  · unfold trSs at h
    split at h
    · rename_i e1; cases e1
    · cases h
      exact stss_nil
    · split at h
      · rename_i n' e' es' e1 o1 o2 m' ms' he hl
        cases e1
        cases h
        exact stss_cons (ih.s g he) (ih.l g hl)
      · cases h
theorem sts_all : ∀ n, SndS n
  | 0 => sts_zero
  | n + 1 => sts_succ (sts_all n)
end Mi


set_option Elab.async false
set_option maxRecDepth 100000
set_option maxHeartbeats 4000000
/-! Mi15: defs: by the evaluator, at every depth. -/
namespace Mi
open PySem L2
theorem envOf_get {ds : List D} {n i : Nat} {q : Cell} (h : (envOf ds n).get i = some q) : ∃ d, ds[i]? = some d ∧ q = .val d := by
  unfold Env.get envOf at h
  by_cases hi : i < ds.length
  · rw [List.getElem?_append_left (by simpa using hi), List.getElem?_map, List.getElem?_eq_getElem hi] at h
    cases h
    exact ⟨_, List.getElem?_eq_getElem hi, rfl⟩
  · rw [List.getElem?_append_right (by simpa using hi), List.getElem?_replicate] at h
    split at h
    · rename_i e
      split at e <;> cases e
    · cases h
theorem slots_start {S : Sx} {G H : Hp} {N : List Str} {ds : List D} {vs : List V} (r : Reps S.K S.a G ds vs) (hl : ds.length ≤ N.length) : Slots S (envOf ds N.length) (L2.start N vs) G H := by
  have l1 := r.length
  refine ⟨?_, fun i d e => ?_, fun i ds' e => ?_, fun i j ds' es ne e1 e2 => ?_⟩
  · unfold envOf L2.start
    simp only [List.length_append, List.length_map, List.length_replicate]
    omega
  · obtain ⟨d', e1, e2⟩ := envOf_get e
    cases e2
    obtain ⟨v, e3, rv⟩ := r.get e1
    refine ⟨v, ?_, rv⟩
    unfold L2.start
    have hi : i < vs.length := (List.getElem?_eq_some_iff.mp e3).1
    rw [List.getElem?_append_left (by simpa using hi), List.getElem?_map, e3]
    rfl
  · obtain ⟨d', _, e2⟩ := envOf_get e
    cases e2
  · obtain ⟨d', _, e3⟩ := envOf_get e1
    cases e3
/-- a def as it stands in the program, whatever its defaults -/
structure FunA (K : PySem.W.Frag) (x qual : Str) (st : Stmt) (f : Addr) (fd : FuncData) : Prop where
  ex : ∃ (oc : Value) (od : Option Addr) (dV kV doc pm : Value) (an : Option Addr) (cdv ct : Value) (osl : Array (Option Value)),
    fd = PySem.W.fnOf x qual (defArgs st) (defBody st) (defScope st) dV kV doc pm an cdv ct ∧ K.lookup f = some ⟨oc, od, .func fd, osl⟩ ∧ PySem.W.codeIn K cdv qual = true
  kp : PySem.W.keepIn K (.ref f) = true
theorem funA {K : PySem.W.Frag} {x qual : Str} {st : Stmt} {f : Addr} {fd : FuncData} (F : Fun K x qual st f fd) : FunA K x qual st f fd := by
  obtain ⟨oc, od, kV, doc, pm, an, cdv, ct, osl, e, lk, hcd⟩ := F.ex
  exact ⟨⟨oc, od, _, kV, doc, pm, an, cdv, ct, osl, e, lk, hcd⟩, F.kp⟩
theorem okN {P : Program} {w : PySem.World} {K : PySem.W.Frag} {mg : Str → Option Value} {base : Heap} {x qual : Str} {st : Stmt} {f : Addr} {fd : FuncData} {N ps : List Str} {k : Nat} {sp : Sp} (F : FunA K x qual st f fd) (S : FnScope N ps (defScope st)) (len : ∀ vs H Q E, sp vs H Q E → vs.length = ps.length)
    (hb : ∀ (cdv : Value) (A : Around) (outer : List PySem.Env) (s : Shared) (H : Hp) (vs : List V) (Q : VK) (E : XK), Room k (A.deeper (PyProof.Rows.envOfC qual (defScope st) s.heap.objs.size f cdv)) → sp vs H Q E →
      ∃ t, PSs (cxOf (L2N.CX P w) P w K mg base N qual (defScope st) f cdv A outer s H E) (defBody st) t ∧ t { nx := fun _ H' => Q .non H', rt := Q } (L2.start N vs) H) : FnOk P w K mg base (L2N.CX P w) (k + 1) f fd ps sp := by
  obtain ⟨_, _, _, _, _, _, _, cdv, _, _, rfl, lk, hcd⟩ := F.ex
  exact fn_of lk hcd S len fun A outer s H vs Q E hr hsp => hb cdv A outer s H vs Q E hr hsp
theorem okX {P : Program} {w : PySem.World} {K : PySem.W.Frag} {mg : Str → Option Value} {base : Heap} {x qual : Str} {st : Stmt} {f : Addr} {fd : FuncData} {N ps : List Str} {k : Nat} {sp : Sp} {p : Addr × Obj} (F : FunA K x qual st f fd) (S : FnScope N ps (defScope st)) (len : ∀ vs H Q E, sp vs H Q E → vs.length = ps.length)
    (hb : ∀ (cdv : Value) (A : Around) (outer : List PySem.Env) (s : Shared) (H : Hp) (vs : List V) (Q : VK) (E : XK), L2H.Hot1 A p → L2H.RoomH k (A.deeper (PyProof.Rows.envOfC qual (defScope st) s.heap.objs.size f cdv)) → sp vs H Q E →
      ∃ t, PSs (L2H.cxH (L2N.CX P w) P w K mg base N qual (defScope st) f cdv A outer s H E p) (defBody st) t ∧ t { nx := fun _ H' => Q .non H', rt := Q } (L2.start N vs) H) : L2N.FnX P w K mg base (L2N.CX P w) p (k + 1) f fd ps sp := by
  obtain ⟨_, _, _, _, _, _, _, cdv, _, _, rfl, lk, hcd⟩ := F.ex
  exact L2N.fn_ofX lk hcd S len fun A outer s H vs Q E hot hr hsp => hb cdv A outer s H vs Q E hot hr hsp
/-- what a law's table is read by: numbers, classes of errors, the defs that except clauses call -/
structure Tp where
  fns : List (Str × Nat)
  con : List (Str × D)
  hots : List Nat
  xs : List Nat
  dcs : List (Str × List (Str × Str))
  dfs : List (Str × D)
/-- one def of the table as it stands in the program -/
structure DefAt (K : PySem.W.Frag) (mg : Str → Option Value) (tp : Tp) (hot : Bool) (x : Str) (np n : Nat) (body : List Mi.S) : Prop where
  at_ : ∃ (st : Stmt) (f : Addr) (fd : FuncData) (N ps : List Str) (fr ln o2 : List Nat) (cel : List Str) (fuel : Nat), mg x = some (.ref f) ∧ FunA K x x st f fd ∧ Binds K fd ps [] ∧ ps.length = np ∧ N.length = n ∧ np ≤ n ∧ FnScope N ps (defScope st) ∧
    trB ⟨N, (defScope st).names, cel, tp.fns, tp.con, fr, ln, hot, tp.hots, tp.xs, tp.dcs, tp.dfs, o2⟩ fuel (defBody st) = some body ∧ ∀ d, tp.dfs.lookup x = some d → ∃ (u : Value) (v : V), Binds K fd ps [u] ∧ RelV v u ∧ ∀ (a : Fs) G, Rep K a G d v
structure PrmAt (P : Program) (w : PySem.World) (K : PySem.W.Frag) (mg : Str → Option Value) (base : Heap) (L : Nat) (xs : List Nat) (x : Str) (np : Nat) (h : List D → Gs → R D) : Prop where
  at_ : ∃ (f : Addr) (fd : FuncData) (ps : List Str), mg x = some (.ref f) ∧ PySem.W.keepIn K (.ref f) = true ∧ Binds K fd ps [] ∧ ps.length = np ∧ FnOk P w K mg base (L2N.CX P w) L f fd ps (spF K xs np h)
/-- the whole table -/
structure TabAt (P : Program) (w : PySem.World) (K : PySem.W.Frag) (mg : Str → Option Value) (base : Heap) (T : List Fn) (tp : Tp) (L : Nat) : Prop where
  len : ∀ (i : Nat) (x : Str) (n : Nat), tp.fns[i]? = some (x, n) → (∃ fn : Fn, T[i]? = some fn ∧ fn.ps = n) ∧ (x == ("__debug__" : Str)) = false
  dfn : ∀ (i : Nat) (x : Str) (n np sl : Nat) (body : List Mi.S), tp.fns[i]? = some (x, n) → T[i]? = some (Fn.dfn np sl body) → DefAt K mg tp (tp.hots.contains i) x np sl body
  prm : ∀ (i : Nat) (x : Str) (n np : Nat) (h : List D → Gs → R D), tp.fns[i]? = some (x, n) → T[i]? = some (Fn.prm np h) → tp.hots.contains i = false ∧ tp.dfs.lookup x = none ∧ PrmAt P w K mg base L tp.xs x np h
  bi : ∀ x ∈ blts, mg x = none
  con : ∀ x d, tp.con.lookup x = some d → ∃ (u : Value) (v : V), mg x = some u ∧ RelV v u ∧ ∀ (a : Fs) G, Rep K a G d v
  dc : ∀ x kvs, tp.dcs.lookup x = some kvs → ∃ (p : Addr) (es : Array DictEntry) (n : Nat), mg x = some (.ref p) ∧ KDict K w p es n ∧ ∀ z, (∀ v, kvs.lookup z = some v → ∃ t, PySem.W.nsIn K p z = some (some (.str v t))) ∧ (kvs.lookup z = none → PySem.W.nsIn K p z = some none)
  cl : ClsAll P K mg tp.xs
theorem call_ar {T : List Fn} {k i n : Nat} {fn : Fn} (h : T[i]? = some fn) (hn : fn.ps = n) {ds : List D} {g : Gs} (hl : ds.length ≠ n) : call T k i ds g = .no := by
  cases k with
  | zero => rfl
  | succ k =>
    unfold call
    rw [h]
    subst hn
    cases fn with
    | dfn ps m body => exact if_neg hl
    | prm ps f => exact if_neg hl
theorem spF_len {K : PySem.W.Frag} {xs : List Nat} {n : Nat} {h : List D → Gs → R D} {vs : List V} {H : Hp} {Q : VK} {Ex : XK} (q : spF K xs n h vs H Q Ex) : vs.length = n := q.1
theorem spX_len {K : PySem.W.Frag} {xs : List Nat} {p : Addr × Obj} {n : Nat} {h : List D → Gs → R D} {vs : List V} {H : Hp} {Q : VK} {Ex : XK} (q : spX K xs p n h vs H Q Ex) : vs.length = n := q.1
theorem fin_out {S : Sx} {H G : Hp} {r : SR} {Q : VK} {Ex : XK} (hW : S.W = fun cls d _ H' => Ex cls d H') (h0 : S.H0 = H) (g0 : S.G0 = G) (h : Out S.K S.xs S.a H G (fin r) Q Ex) : SRes S G r { nx := fun _ H' => Q .non H', rt := Q } := by
  revert h
  show Res _ _ _ _ (fin r) _ → SRes S G r _
  subst h0 g0
  cases r with
  | nx ρ g' => exact fun out σ G' H' _ w' x' _ => out G' H' x' w' _ (by unfold Rep; rfl)
  | rt d g' => exact fun out v G' H' w' x' r => out G' H' x' w' v r
  | ex e ρ g' => exact fun out σ G' H' cls d _ w' x' _ q => (by rw [hW]; exact out G' H' cls d x' w' q)
  | bk ρ g' => exact fun out => out.elim
  | ct ρ g' => exact fun out => out.elim
  | no => exact fun out => out.elim
/-- less all lists -/
def noL (G : Hp) : Hp := fun b => match G b with
  | some (.lst _) => none
  | o => o
theorem noL_some {G : Hp} {b : Addr} {o : HO} (h : noL G b = some o) : G b = some o ∧ ∀ vs, o ≠ .lst vs := by
  unfold noL at h
  split at h
  · cases h
  · rename_i o2 hn
    exact ⟨h, fun vs z => by subst z; exact hn vs h⟩
theorem noL_of {G : Hp} {b : Addr} {o : HO} (h : G b = some o) (n : ∀ vs, o ≠ .lst vs) : noL G b = some o := by
  unfold noL
  split
  · rename_i vs e
    rw [h] at e
    cases e
    exact absurd rfl (n vs)
  · exact h
mutual
theorem Rep.noL {K : PySem.W.Frag} {a : Fs} {G : Hp} : ∀ {d : D} {v : V}, d.fast = true → Rep K a G d v → Rep K a (noL G) d v
  | .non, _, _, h => by unfold Rep at h ⊢; exact h
  | .bl _, _, _, h => by unfold Rep at h ⊢; exact h
  | .int _, _, _, h => by unfold Rep at h ⊢; exact h
  | .str _, _, _, h => by unfold Rep at h ⊢; exact h
  | .st, _, _, h => by unfold Rep at h ⊢; exact h
  | .sub _, _, _, h => by unfold Rep at h ⊢; exact h
  | .scr _, _, n, h => by unfold D.fast at n; cases n
  | .exn _ _, _, n, h => by unfold D.fast at n; cases n
  | .lst _, _, n, h => by unfold D.fast at n; cases n
  | .tup ds, _, n, h => by
    unfold Rep at h ⊢
    unfold D.fast at n
    obtain ⟨p, vs, e, q, r⟩ := h
    refine ⟨p, vs, e, ?_, Reps.noL n r⟩
    rcases q with (q | ⟨o, q⟩) | q
    · exact .inl (.inl (noL_of q fun vs z => by cases z))
    · exact .inl (.inr ⟨o, noL_of q fun vs z => by cases z⟩)
    · exact .inr q
theorem Reps.noL {K : PySem.W.Frag} {a : Fs} {G : Hp} : ∀ {ds : List D} {vs : List V}, D.fasts ds = true → Reps K a G ds vs → Reps K a (noL G) ds vs
  | [], _, _, h => by unfold Reps at h ⊢; exact h
  | d :: ds, _, n, h => by
    unfold Reps at h ⊢
    unfold D.fasts at n
    rw [Bool.and_eq_true] at n
    obtain ⟨v, r, e, q, t⟩ := h
    exact ⟨v, r, e, Rep.noL n.1 q, Reps.noL n.2 t⟩
end
theorem World.noL {a : Fs} {g : Gs} {G H : Hp} (w : World a g G H) : World a g (Mi.noL G) H := w.move (fun _ _ => rfl) (fun b o e => w.sub b o (noL_some e).1) fun b q => by
  cases e : Mi.noL G b with
  | none => rfl
  | some o =>
    have := (noL_some e).1
    rw [w.off b q] at this
    cases this
/-- what is promised from G on is promised with fewer things known, too -/
theorem out_noL {K : PySem.W.Frag} {xs : List Nat} {a : Fs} {g0 : Gs} {G H : Hp} {r : R D} {Q : VK} {Ex : XK} (w0 : World a g0 G H) (h : Out K xs a H G r Q Ex) : Out K xs a H (noL G) r Q Ex := by
  have back : ∀ {G1 H1 : Hp} {g : Gs}, Ext a (noL G) H G1 H1 → World a g G1 H1 → ∃ G2, Same G1 G2 ∧ Ext a G H G2 H1 ∧ World a g G2 H1 := fun {G1 H1 g} x w => by
    have up : ∀ b o, G b = some o → H1 b = some o := fun b o e => x.kp b o (w0.sub b o e) (w0.offH e)
    refine ⟨fun b => match G b with | some o => some o | none => G1 b, fun b o e => ?_, ⟨fun b o e => ?_, fun b o e => ?_, x.kp, x.dm⟩, w.move (fun _ _ => rfl) (fun b o e => ?_) fun b q => ?_⟩
    · cases q : G b with
      | none => simp only [q]; exact e
      | some o2 =>
        simp only [q]
        have h1 := up b o2 q
        rw [w.sub b o e] at h1
        exact h1.symm
    · simp only [e]
    · cases q : G b with
      | none =>
        simp only [q] at e
        rcases x.new b o e with z | z
        · have := (noL_some z).1
          rw [q] at this
          cases this
        · exact .inr z
      | some o2 =>
        simp only [q] at e
        cases e
        exact .inl rfl
    · cases q : G b with
      | none => simp only [q] at e; exact w.sub b o e
      | some o2 =>
        simp only [q] at e
        cases e
        exact up b _ q
    · have h1 := w0.off b q
      simp only [h1]
      exact w.off b q
  unfold Out at h ⊢
  cases r with
  | no => exact h
  | ok d g =>
    intro G1 H1 x w v rv
    obtain ⟨G2, s, x2, w2⟩ := back x w
    exact h G2 H1 x2 w2 v (rv.mono s)
  | ex e g =>
    intro G1 H1 cls d x w ea
    obtain ⟨G2, s, x2, w2⟩ := back x w
    obtain ⟨C, dd, vs, e1, e2, e3, e4, e5, e6, e7⟩ := ea
    exact h G2 H1 cls d x2 w2 ⟨C, dd, vs, e1, e2, e3, e4, s _ _ e5, e6, Reps.mono s e7⟩
theorem fasts_of : ∀ {ds : List D} {n : Nat}, (envOf ds n).all fastC = true → D.fasts ds = true
  | [], _, _ => by unfold D.fasts; rfl
  | d :: ds, n, h => by
    unfold envOf at h
    rw [List.all_append, Bool.and_eq_true, List.map_cons, List.all_cons, Bool.and_eq_true] at h
    unfold D.fasts
    rw [Bool.and_eq_true]
    refine ⟨h.1.1, fasts_of (n := n) ?_⟩
    unfold envOf
    rw [List.all_append, Bool.and_eq_true]
    refine ⟨h.1.2, ?_⟩
    rw [List.all_eq_true]
    intro q hq
    rw [(List.mem_replicate.mp hq).2]
    rfl
/-- a def's body, from its entry on -/
theorem run_body {X : Cx} {c : TC} {k sl : Nat} {K : PySem.W.Frag} {a : Fs} {cf : CallF} {E : XK} {xs : List Nat} {g : Gs} {G H : Hp} {ds : List D} {vs : List V} {Q : VK} {fuel : Nat} {bd : List Stmt} {body : List Mi.S}
    (gs : ∀ (pr : Bool) (G0 : Hp), pr = !c.o2.isEmpty → (pr = true → ∀ b vs, G0 b ≠ some (.lst vs)) → GS X c ⟨K, a, cf, fun cls d _ H' => E cls d H', H, G0, xs, pr⟩ k)
    (ht : trB c fuel bd = some body) (wd : World a g G H) (rs : Reps K a G ds vs) (hN : c.N.length = sl) (hl : ds.length ≤ sl) (out : Out K xs a H G (fin (exL cf body (envOf ds sl) g)) Q E) :
    ∃ t, PSs X bd t ∧ t { nx := fun _ H' => Q .non H', rt := Q } (L2.start c.N vs) H := by
  subst hN
  unfold trB at ht
  cases ho : c.o2.isEmpty with
  | true =>
    rw [ho] at ht
    let S0 : Sx := ⟨K, a, cf, fun cls d _ H' => E cls d H', H, G, xs, false⟩
    exact ⟨tSs S0 body, (sts_all fuel).l (gs false G (by rw [ho]; rfl) fun z => Bool.noConfusion z) ht, envOf ds c.N.length, G, g, slots_start rs hl, wd, Ext.refl, fin_out (S := S0) rfl rfl rfl out⟩
  | false =>
    rw [ho] at ht
    obtain ⟨rest, hr, rfl⟩ := Option.map_eq_some_iff.mp ht
    have e1 : exL cf (.fastS :: rest) (envOf ds c.N.length) g = if (envOf ds c.N.length).all fastC = true then exL cf rest (envOf ds c.N.length) g else .no := by
      rw [exL]
      rw [exS]
      split <;> rfl
    rw [e1] at out
    by_cases hf : (envOf ds c.N.length).all fastC = true
    · rw [if_pos hf] at out
      let S0 : Sx := ⟨K, a, cf, fun cls d _ H' => E cls d H', H, noL G, xs, true⟩
      exact ⟨tSs S0 rest, (sts_all fuel).l (gs true (noL G) (by rw [ho]; rfl) fun _ b vs e => (noL_some e).2 vs rfl) hr, envOf ds c.N.length, noL G, g, slots_start (Reps.noL (fasts_of hf) rs) hl, wd.noL, Ext.refl, fin_out (S := S0) rfl rfl rfl (out_noL wd out)⟩
    · rw [if_neg hf] at out
      exact out.elim
theorem tab_all {P : Program} {w : PySem.World} {K : PySem.W.Frag} {mg : Str → Option Value} {base : Heap} {T : List Fn} {tp : Tp} {L : Nat} (A : TabAt P w K mg base T tp L) :
    ∀ (k : Nat) (c : TC), c.fns = tp.fns → c.con = tp.con → c.hots = tp.hots → c.xs = tp.xs → c.dcs = tp.dcs → c.dfs = tp.dfs → Tab P w K mg base c (call T k) (k + L)
  | 0, c, h1, h2, h3, h4, h5, h6 => by
    refine ⟨fun i x n hi hh => ?_, fun p i x n hi hh => ?_, A.bi, fun i x n ds g hi hl => rfl, (by rw [h2]; exact A.con), (by rw [h5]; exact A.dc), fun i x n d hi hdf hh => ?_, (by rw [h4]; exact A.cl)⟩
    · rw [h1] at hi
      rw [h3] at hh
      obtain ⟨⟨fn, e1, e2⟩, e3⟩ := A.len i x n hi
      cases fn with
      | dfn np sl body =>
        obtain ⟨st, f, fd, N, ps, fr, ln, o2, cel, fuel, q1, q2, q3, q4, q5, q6, q7, q8, q9⟩ := (A.dfn i x n np sl body hi e1).at_
        cases e2
        exact ⟨f, fd, ps, q1, q2.kp, q3, q4, e3, ⟨fun vs H Q E h => (spF_len h).trans q4.symm, fun _ _ _ _ _ _ _ _ _ _ _ _ _ h => by
          obtain ⟨_, _, _, _, _, _, _, _, z⟩ := h
          exact z.elim⟩⟩
      | prm np h =>
        obtain ⟨f, fd, ps, q1, q2, q3, q4, q5⟩ := (A.prm i x n np h hi e1).2.2.at_
        cases e2
        exact ⟨f, fd, ps, q1, q2, q3, q4, e3, ⟨fun vs H Q E h => (spF_len h).trans q4.symm, fun _ _ _ _ _ _ _ _ _ _ _ _ _ h => by
          obtain ⟨_, _, _, _, _, _, _, _, z⟩ := h
          exact z.elim⟩⟩
    · rw [h1] at hi
      rw [h3] at hh
      obtain ⟨⟨fn, e1, e2⟩, e3⟩ := A.len i x n hi
      cases fn with
      | dfn np sl body =>
        obtain ⟨st, f, fd, N, ps, fr, ln, o2, cel, fuel, q1, q2, q3, q4, q5, q6, q7, q8, q9⟩ := (A.dfn i x n np sl body hi e1).at_
        cases e2
        exact ⟨f, fd, ps, q1, q2.kp, q3, q4, e3, ⟨fun vs H Q E h => (spX_len h).trans q4.symm, fun _ _ _ _ _ _ _ _ _ _ _ _ _ _ _ h => by
          obtain ⟨_, _, _, _, _, _, _, _, _, _, _, z⟩ := h
          exact z.elim⟩⟩
      | prm np h => exact absurd ((A.prm i x n np h hi e1).1.symm.trans hh) Bool.false_ne_true
    · rw [h1] at hi
      rw [h6] at hdf
      rw [h3] at hh
      obtain ⟨⟨fn, e1, e2⟩, e3⟩ := A.len i x n hi
      cases fn with
      | dfn np sl body =>
        obtain ⟨st, f, fd, N, ps, fr, ln, o2, cel, fuel, q1, q2, q3, q4, q5, q6, q7, q8, q9⟩ := (A.dfn i x n np sl body hi e1).at_
        cases e2
        obtain ⟨u, v, b1, b2, b3⟩ := q9 d hdf
        exact ⟨f, fd, ps, u, v, q1, q2.kp, b1, b2, b3, q4, e3, ⟨fun vs H Q E h => (spF_len h).trans q4.symm, fun _ _ _ _ _ _ _ _ _ _ _ _ _ h => by
          obtain ⟨_, _, _, _, _, _, _, _, z⟩ := h
          exact z.elim⟩⟩
      | prm np h =>
        have z := (A.prm i x n np h hi e1).2.1
        rw [z] at hdf
        cases hdf
  | k + 1, c, h1, h2, h3, h4, h5, h6 => by
    have ih := tab_all A k
    have okD : ∀ (i : Nat) (x : Str) (np sl : Nat) (body : List Mi.S), tp.fns[i]? = some (x, np) → T[i]? = some (Fn.dfn np sl body) → tp.hots.contains i = false → ∃ (f : Addr) (fd : FuncData) (ps : List Str), mg x = some (.ref f) ∧ PySem.W.keepIn K (.ref f) = true ∧ Binds K fd ps [] ∧ ps.length = np ∧
        (∀ d, tp.dfs.lookup x = some d → ∃ (u : Value) (v : V), Binds K fd ps [u] ∧ RelV v u ∧ ∀ (a : Fs) G, Rep K a G d v) ∧ FnOk P w K mg base (L2N.CX P w) (k + 1 + L) f fd ps (spF K tp.xs np (call T (k + 1) i)) := fun i x np sl body hi e1 hh => by
      obtain ⟨st, f, fd, N, ps, fr, ln, o2, cel, fuel, q1, q2, q3, q4, q5, q6, q7, q8, q9⟩ := (A.dfn i x np np sl body hi e1).at_
      rw [hh] at q8
      refine ⟨f, fd, ps, q1, q2.kp, q3, q4, q9, ?_⟩
      have e : k + 1 + L = k + L + 1 := by omega
      rw [e]
      refine okN q2 q7 (fun vs H Q E h => (spF_len h).trans q4.symm) fun cdv Ar outer s H vs Q E hr h => ?_
      obtain ⟨hl, a, G, g, ds, er, wd, rs, out⟩ := h
      have hds : ds.length = np := by rw [← rs.length]; exact hl
      unfold call at out
      rw [e1] at out
      simp only at out
      rw [if_pos hds] at out
      exact run_body (c := ⟨N, (defScope st).names, cel, tp.fns, tp.con, fr, ln, false, tp.hots, tp.xs, tp.dcs, tp.dfs, o2⟩) (k := k + L)
        (fun pr G0 p1 p2 => ⟨⟨rfl, q7.nd, rfl, q7.kind, fun _ => rfl, ⟨hr.dp, hr.un⟩, fun _ => ⟨hr, er⟩, (fun z => Bool.noConfusion z), rfl, rfl, L2N.takes_of rfl rfl rfl rfl, ih ⟨N, (defScope st).names, cel, tp.fns, tp.con, fr, ln, false, tp.hots, tp.xs, tp.dcs, tp.dfs, o2⟩ rfl rfl rfl rfl rfl rfl, fun _ _ => rfl⟩, passes_of rfl, ⟨rfl, rfl⟩, p1, p2⟩)
        q8 wd rs q5 (by omega) out
    have okP : ∀ (i : Nat) (x : Str) (np : Nat) (h : List D → Gs → R D), tp.fns[i]? = some (x, np) → T[i]? = some (Fn.prm np h) → ∃ (f : Addr) (fd : FuncData) (ps : List Str), mg x = some (.ref f) ∧ PySem.W.keepIn K (.ref f) = true ∧ Binds K fd ps [] ∧ ps.length = np ∧
        FnOk P w K mg base (L2N.CX P w) (k + 1 + L) f fd ps (spF K tp.xs np (call T (k + 1) i)) := fun i x np h hi e1 => by
      obtain ⟨f, fd, ps, q1, q2, q3, q4, q5⟩ := (A.prm i x np np h hi e1).2.2.at_
      refine ⟨f, fd, ps, q1, q2, q3, q4, (q5.mono (by omega)).imp fun vs H Q E hh => ?_⟩
      obtain ⟨hl, a, G, g, ds, er, wd, rs, out⟩ := hh
      have hds : ds.length = np := by rw [← rs.length]; exact hl
      unfold call at out
      rw [e1] at out
      simp only at out
      rw [if_pos hds] at out
      exact ⟨hl, a, G, g, ds, er, wd, rs, out⟩
    refine ⟨fun i x n hi hh => ?_, fun p i x n hi hh => ?_, A.bi, fun i x n ds g hi hl => ?_, (by rw [h2]; exact A.con), (by rw [h5]; exact A.dc), fun i x n d hi hdf hh => ?_, (by rw [h4]; exact A.cl)⟩
    · rw [h1] at hi
      rw [h3] at hh
      rw [h4]
      obtain ⟨⟨fn, e1, e2⟩, e3⟩ := A.len i x n hi
      cases fn with
      | dfn np sl body =>
        cases e2
        obtain ⟨f, fd, ps, q1, q2, q3, q4, _, q5⟩ := okD i x _ sl body hi e1 hh
        exact ⟨f, fd, ps, q1, q2, q3, q4, e3, q5⟩
      | prm np h =>
        cases e2
        obtain ⟨f, fd, ps, q1, q2, q3, q4, q5⟩ := okP i x _ h hi e1
        exact ⟨f, fd, ps, q1, q2, q3, q4, e3, q5⟩
    · rw [h1] at hi
      rw [h3] at hh
      rw [h4]
      obtain ⟨⟨fn, e1, e2⟩, e3⟩ := A.len i x n hi
      cases fn with
      | dfn np sl body =>
        obtain ⟨st, f, fd, N, ps, fr, ln, o2, cel, fuel, q1, q2, q3, q4, q5, q6, q7, q8, q9⟩ := (A.dfn i x n np sl body hi e1).at_
        rw [hh] at q8
        cases e2
        refine ⟨f, fd, ps, q1, q2.kp, q3, q4, e3, ?_⟩
        have e : k + 1 + L = k + L + 1 := by omega
        rw [e]
        refine okX q2 q7 (fun vs H Q E h => (spX_len h).trans q4.symm) fun cdv Ar outer s H vs Q E hot hr h => ?_
        obtain ⟨hl, a, G, g, ds, j, dd, er, ea, wd, rs, out⟩ := h
        have hds : ds.length = np := by rw [← rs.length]; exact hl
        unfold call at out
        rw [e1] at out
        simp only at out
        rw [if_pos hds] at out
        exact run_body (c := ⟨N, (defScope st).names, cel, tp.fns, tp.con, fr, ln, true, tp.hots, tp.xs, tp.dcs, tp.dfs, o2⟩) (k := k + L)
          (fun pr G0 p1 p2 => ⟨⟨rfl, q7.nd, rfl, q7.kind, (fun z => Bool.noConfusion z), hr, (fun z => Bool.noConfusion z), fun _ => ⟨p, j, dd, er, ea, hot, List.mem_cons_self⟩, rfl, rfl, L2N.takes_of rfl rfl rfl rfl, ih ⟨N, (defScope st).names, cel, tp.fns, tp.con, fr, ln, true, tp.hots, tp.xs, tp.dcs, tp.dfs, o2⟩ rfl rfl rfl rfl rfl rfl, fun _ _ => rfl⟩, passes_of rfl, ⟨rfl, rfl⟩, p1, p2⟩)
          q8 wd rs q5 (by omega) out
      | prm np h => exact absurd ((A.prm i x n np h hi e1).1.symm.trans hh) Bool.false_ne_true
    · rw [h1] at hi
      obtain ⟨⟨fn, e1, e2⟩, _⟩ := A.len i x n hi
      exact call_ar e1 e2 hl
    · rw [h1] at hi
      rw [h6] at hdf
      rw [h3] at hh
      rw [h4]
      obtain ⟨⟨fn, e1, e2⟩, e3⟩ := A.len i x n hi
      cases fn with
      | dfn np sl body =>
        cases e2
        obtain ⟨f, fd, ps, q1, q2, q3, q4, q9, q5⟩ := okD i x _ sl body hi e1 hh
        obtain ⟨u, v, b1, b2, b3⟩ := q9 d hdf
        exact ⟨f, fd, ps, u, v, q1, q2, b1, b2, b3, q4, e3, q5⟩
      | prm np h =>
        have z := (A.prm i x n np h hi e1).2.1
        rw [z] at hdf
        cases hdf
end Mi


set_option Elab.async false
set_option maxRecDepth 100000
set_option maxHeartbeats 4000000
/-! Mi16: the law: its draws' list is made, then the rest by the evaluator. -/
namespace Mi
open PySem L2
/-- nothing known yet -/
def noG : Hp := fun _ => none
def offF : Fs := ⟨0, [], false, none⟩
def offS : Gs := ⟨[], []⟩
theorem off_world {H : Hp} : World offF offS noG H :=
  ⟨(fun b o e => by cases e), (fun q => by cases q), fun _ => ⟨rfl, rfl⟩, (fun k p xs e => by cases e), rfl, fun b q => rfl, List.not_mem_nil, List.nodup_nil⟩
/-- what a list holds as the draws' list: numbers, and lists of numbers -/
def rowOf : Nat → List D → Option (List Gc × List (List Int))
  | _, [] => some ([], [])
  | n, .int i :: r => match rowOf n r with
    | some (a, b) => some (.num i :: a, b)
    | none => none
  | n, .lst xs :: r => match intsD xs, rowOf (n + 1) r with
    | some l, some (a, b) => some (.at_ n :: a, l :: b)
    | _, _ => none
  | _, _ => none
theorem row_at {K : PySem.W.Frag} {z : Fs} {G : Hp} (s : Addr) : ∀ {xs : List D} {vs : List V} {pre : List Addr} {row : List Gc} {ls : List (List Int)}, Reps K z G xs vs → rowOf pre.length xs = some (row, ls) →
    ∃ ps : List Addr, ps.length = ls.length ∧ vs = row.map (gcV ⟨s, pre ++ ps, true, none⟩) ∧ (∀ (k : Nat) p l, ps[k]? = some p → ls[k]? = some l → G p = some (.lst (l.map V.int))) ∧ (ls ≠ [] → ∃ p, V.ref p ∈ vs)
  | [], _, pre, row, ls, h, e => by
    unfold Reps at h
    subst h
    unfold rowOf at e
    cases e
    exact ⟨[], rfl, rfl, (fun k p l e => by cases e), fun z => absurd rfl z⟩
  | d :: xs, _, pre, row, ls, h, e => by
    unfold Reps at h
    obtain ⟨v, r, rfl, q, t⟩ := h
    unfold rowOf at e
    split at e
    · rename_i e0; cases e0
    · rename_i i r2 e0
      cases e0
      split at e
      · rename_i a b e1
        cases e
        obtain ⟨ps, h1, h2, h3, h4⟩ := row_at s t e1
        refine ⟨ps, h1, ?_, h3, fun z => ?_⟩
        · rw [List.map_cons, ← h2, q.inj_int]
          rfl
        · obtain ⟨p, hp⟩ := h4 z
          exact ⟨p, List.mem_cons_of_mem _ hp⟩
      · cases e
    · rename_i ys r2 e0
      cases e0
      split at e
      · rename_i l a b e1 e2
        cases e
        unfold Rep at q
        obtain ⟨p, us, rfl, hp, hr⟩ := q
        have e2' : rowOf (pre ++ [p]).length xs = some (a, b) := by rw [List.length_append]; exact e2
        obtain ⟨ps, h1, h2, h3, h4⟩ := row_at s t e2'
        refine ⟨p :: ps, by simp [h1], ?_, fun k p' l' e3 e4 => ?_, fun _ => ⟨p, List.mem_cons_self⟩⟩
        · rw [List.append_assoc] at h2
          rw [List.map_cons]
          have e5 : gcV ⟨s, pre ++ p :: ps, true, none⟩ (.at_ pre.length) = .ref p := gcV_at (by simp)
          rw [e5, h2]
          rfl
        · cases k with
          | zero =>
            cases e3
            cases e4
            rw [hp, hr.ints e1]
          | succ k => exact h3 k p' l' e3 e4
      · cases e
    · cases e
/-- the list that is made becomes the draws' list -/
theorem birth {K : PySem.W.Frag} {z : Fs} {G H : Hp} {v : V} {xs : List D} {row : List Gc} {ls : List (List Int)} (s : Same G H) (h : Rep K z G (.lst xs) v) (e : rowOf 0 xs = some (row, ls)) (nd : ls.Nodup) :
    ∃ a : Fs, v = .ref a.s ∧ a.er = none ∧ World a ⟨row, ls⟩ noG H := by
  unfold Rep at h
  obtain ⟨p, vs, rfl, hp, hr⟩ := h
  obtain ⟨ps, h1, h2, h3, h4⟩ := row_at p (pre := []) hr e
  refine ⟨⟨p, [] ++ ps, true, none⟩, rfl, rfl, ⟨(fun b o e => by cases e), (fun _ => by show H p = some (.lst (row.map (gcV ⟨p, [] ++ ps, true, none⟩))); rw [← h2]; exact s _ _ hp), (fun q => by cases q), fun k q l e1 e2 => s _ _ (h3 k q l e1 e2), h1, fun b q => rfl, fun hm => ?_, ?_⟩⟩
  · obtain ⟨k, hk, e1⟩ := List.getElem_of_mem (show p ∈ ps from hm)
    have hk2 : k < ls.length := by rw [← h1]; exact hk
    have e2 := h3 k p _ (by rw [List.getElem?_eq_getElem hk, e1]) (List.getElem?_eq_getElem hk2)
    rw [hp] at e2
    have e3 : vs = (ls[k]).map V.int := by
      injection e2 with e2
      injection e2
    obtain ⟨q, hq⟩ := h4 (fun z => by rw [z] at hk2; cases hk2)
    rw [e3] at hq
    obtain ⟨i, _, hi⟩ := List.mem_map.mp hq
    cases hi
  · show ps.Nodup
    refine List.pairwise_iff_getElem.mpr fun i j hi hj hij ne => ?_
    have e1 := h3 i _ _ (List.getElem?_eq_getElem hi) (List.getElem?_eq_getElem (h1 ▸ hi))
    have e2 := h3 j _ _ (List.getElem?_eq_getElem hj) (List.getElem?_eq_getElem (h1 ▸ hj))
    rw [ne, e2] at e1
    have e3 : (ls[j]'(h1 ▸ hj)).map V.int = (ls[i]'(h1 ▸ hi)).map V.int := by
      injection e1 with e1
      injection e1
    have inj : ∀ {a b : List Int}, a.map V.int = b.map V.int → a = b := fun {a b} h => by
      exact (List.map_inj_right (fun x y e => by cases e; rfl)).mp h
    exact absurd ((List.getElem_inj nd).mp (inj e3)).symm (Nat.ne_of_lt hij)
theorem get_set_self {ρ : Env} {i : Nat} {q : Cell} (h : i < ρ.length) : Env.get (ρ.set i (some q)) i = some q := by
  unfold Env.get
  rw [List.getElem?_set_self h]
theorem none_get {n j : Nat} {q : Cell} (h : Env.get (List.replicate n none) j = some q) : False := by
  unfold Env.get at h
  rw [List.getElem?_replicate] at h
  split at h
  · rename_i e
    split at e <;> cases e
  · cases h
def spLaw (K : PySem.W.Frag) : Sp := fun vs H Q _ => ∃ (a : Addr) (ns : List Int), vs = [.ref a] ∧ SqL K H a (ns.map V.int) ∧ ns.length ≤ 63 ∧ ∀ H', Q (.bl true) H'
/-- what is to be shown of the law in plain Lean -/
def Plain (T : List Fn) (k n i : Nat) (st : List D → List D) (f : Nat) (ms : List Mi.S) : Prop :=
  ∀ ns : List Int, ns.length ≤ 63 → ∃ xs row ls g, call T k f (st [.scr ns]) offS = .ok (.lst xs) offS ∧ rowOf 0 xs = some (row, ls) ∧ ls.Nodup ∧
    exL (call T k) ms ((List.replicate n none).set i (some (.val .st))) ⟨row, ls⟩ = .rt (.bl true) g
section
variable {P : Program} {w : PySem.World} {K : PySem.W.Frag} {mg : Str → Option Value} {base : Heap}
theorem law_ok {T : List Fn} {tp : Tp} {L k : Nat} {st s0 : Stmt} {rest : List Stmt} {f : Addr} {fd : FuncData} {N : List Str} {fr ln : List Nat} {cel : List Str} {fuel i fi : Nat} {es : List E} {ms : List Mi.S} {ex : List D}
    (A : TabAt P w K mg base T tp L) (F : Fun K "law" "law" st f fd) (sc : FnScope N ["script"] (defScope st)) (hb : defBody st = s0 :: rest)
    (h0 : trS ⟨N, (defScope st).names, cel, tp.fns, tp.con, [], [], false, tp.hots, tp.xs, tp.dcs, tp.dfs, []⟩ fuel s0 = some (.asg i (.call fi (.nm 0 :: es)))) (h1 : trSs ⟨N, (defScope st).names, cel, tp.fns, tp.con, fr, ln, false, tp.hots, tp.xs, tp.dcs, tp.dfs, []⟩ fuel rest = some ms)
    (hN : 0 < N.length) (hi : i < N.length) (hes : ∀ (c : CallF) (ρ : Env) (g : Gs), evL c es ρ g = .ok ex g) (pl : Plain T k N.length i (fun ds => ds ++ ex) fi ms) : FnOk P w K mg base (L2N.CX P w) (k + L + 1) f fd ["script"] (spLaw K) := by
  refine okN (funA F) sc (fun vs H Q E h => ?_) fun cdv Ar outer s H vs Q E hr h => ?_
  · obtain ⟨a, ns, rfl, _⟩ := h
    rfl
  · obtain ⟨a, ns, rfl, hS, hlen, out⟩ := h
    obtain ⟨xs, row, ls, g', c1, c2, c3, c4⟩ := pl ns hlen
    let mk : Fs → Hp → Hp → Sx := fun a H0 G0 => ⟨K, a, call T k, fun cls d _ H' => E cls d H', H0, G0, tp.xs, false⟩
    have gs : ∀ (fr ln : List Nat) (a : Fs) (H0 G0 : Hp), a.er = none → GS (cxOf (L2N.CX P w) P w K mg base N "law" (defScope st) f cdv Ar outer s H E) ⟨N, (defScope st).names, cel, tp.fns, tp.con, fr, ln, false, tp.hots, tp.xs, tp.dcs, tp.dfs, []⟩ (mk a H0 G0) (k + L) := fun fr ln a H0 G0 er => by
      refine ⟨⟨rfl, sc.nd, rfl, sc.kind, fun _ => rfl, ⟨hr.dp, hr.un⟩, fun _ => ⟨hr, er⟩, (fun z => Bool.noConfusion z), rfl, rfl, L2N.takes_of rfl rfl rfl rfl, ?_, fun _ _ => rfl⟩, passes_of rfl, ⟨rfl, rfl⟩, rfl, fun z => Bool.noConfusion z⟩
      exact tab_all A k ⟨N, (defScope st).names, cel, tp.fns, tp.con, fr, ln, false, tp.hots, tp.xs, tp.dcs, tp.dfs, []⟩ rfl rfl rfl rfl rfl rfl
    -- what is known at the entry: the script
    obtain ⟨G0, hG, hScr⟩ : ∃ G0 : Hp, Same G0 H ∧ SqL K G0 a (ns.map V.int) := ⟨H, Same.refl H, hS⟩
    have w0 : World offF offS G0 H := ⟨hG, (fun q => by cases q), fun _ => ⟨rfl, rfl⟩, (fun k p xs e => by cases e), rfl, (fun b q => by cases q.1), List.not_mem_nil, List.nodup_nil⟩
    have second : PSs (cxOf (L2N.CX P w) P w K mg base N "law" (defScope st) f cdv Ar outer s H E) rest (fun Dn σ H' => ∃ a H0 G0, a.er = none ∧ tSs (mk a H0 G0) ms Dn σ H') := ⟨fun pins s' σ H' Q' I ⟨a, H0, G0, er, q⟩ => ((sts_all fuel).l (gs fr ln a H0 G0 er) h1).run pins s' σ H' Q' I q⟩
    rw [hb]
    refine ⟨_, pss_cons ((sts_all fuel).s (gs [] [] offF H G0 rfl) h0) second, envOf [.scr ns] N.length, G0, offS, ?_, w0, Ext.refl, ?_⟩
    · exact slots_start (N := N) (Reps.cons (by unfold Rep; exact ⟨a, rfl, hScr⟩) Reps.nil) hN
    · have ev0 : ev (call T k) (.call fi (.nm 0 :: es)) (envOf [.scr ns] N.length) offS = .ok (.lst xs) offS := by
        unfold ev evL
        have e1 : (envOf [.scr ns] N.length).get 0 = some (.val (.scr ns)) := rfl
        unfold ev
        rw [e1]
        simp only [R.bind_ok, hes]
        exact c1
      unfold exS
      show SRes _ _ ((ev (call T k) (.call fi (.nm 0 :: es)) (envOf [.scr ns] N.length) offS).st _ _) _
      rw [ev0]
      intro σ G1 H1 sl w1 x1 s1
      have e2 : (mkCell (isFr (.call fi (.nm 0 :: es))) (.lst xs)) = .val (.lst xs) := rfl
      rw [e2] at sl
      obtain ⟨v, e3, rv⟩ := sl.val i _ (get_set_self (by unfold envOf; simp; omega))
      obtain ⟨b, rfl, eb, wb⟩ := birth w1.sub rv c2 c3
      refine ⟨b, H1, noG, eb, (List.replicate N.length none).set i (some (.val .st)), noG, ⟨row, ls⟩, ?_, wb, Ext.refl, ?_⟩
      · refine ⟨?_, fun j d e => ?_, fun j ds e => ?_, fun j l ds es' ne e e' => ?_⟩
        · have hl := sl.len
          unfold envOf at hl
          simp at hl ⊢
          omega
        · rcases Env.get_set e with ⟨rfl, z, _⟩ | ⟨_, z⟩
          · cases z
            exact ⟨_, e3, by unfold Rep; rfl⟩
          · exact (none_get z).elim
        · rcases Env.get_set e with ⟨rfl, z, _⟩ | ⟨_, z⟩
          · cases z
          · exact (none_get z).elim
        · rcases Env.get_set e with ⟨rfl, z, _⟩ | ⟨_, z⟩
          · cases z
          · exact (none_get z).elim
      · show SRes _ _ (exL (call T k) ms _ _) _
        rw [c4]
        intro v G2 H2 _ _ r
        unfold Rep at r
        subst r
        exact out H2
end
end Mi


set_option maxRecDepth 100000
set_option Elab.async false
/-! Xc3: what is told of __init__ by its text alone. -/
namespace Xc
open PySem PySem.W PySem.Calls PyProof.Rows PySem.HandSPX
theorem hev1 (f : Str) {p0 p1 p2 p3 e1 : Pos} (hl : (p2.endLine == p3.line) = true) (env : PySem.Env) : ∃ pl : Sem Bool, eval (.Call (.Attribute (.Call (.Name "super" p0) [] [] p1) "__init__" p2) [.Name f e1] [] p3) env = (do
      let ov ← attributeBase (.Call (.Name "super" p0) [] [] p1) "__init__" env (eval (.Call (.Name "super" p0) [] [] p1) env)
      standAt p2.atName
      let (fv, first) ← holding [ov] (getMethod ov "__init__" pl)
      callWith p3 fv first (backTo p3 (starEach [.Name f e1] env)) []) := by
  refine ⟨(do return (← importBound (.Call (.Name "super" p0) [] [] p1) env).getD true), ?_⟩
  rw [eval]
  unfold methodCall methodCallPos
  rw [hl]
  rfl
theorem hev2 (f g : Str) {p0 p1 p2 p3 e1 e2 : Pos} (hl : (p2.endLine == p3.line) = true) (env : PySem.Env) : ∃ pl : Sem Bool, eval (.Call (.Attribute (.Call (.Name "super" p0) [] [] p1) "__init__" p2) [.Name f e1, .Name g e2] [] p3) env = (do
      let ov ← attributeBase (.Call (.Name "super" p0) [] [] p1) "__init__" env (eval (.Call (.Name "super" p0) [] [] p1) env)
      standAt p2.atName
      let (fv, first) ← holding [ov] (getMethod ov "__init__" pl)
      callWith p3 fv first (backTo p3 (starEach [.Name f e1, .Name g e2] env)) []) := by
  refine ⟨(do return (← importBound (.Call (.Name "super" p0) [] [] p1) env).getD true), ?_⟩
  rw [eval]
  unfold methodCall methodCallPos
  rw [hl]
  rfl
theorem hbd1 {f : Str} (hf : f ∈ (["shape", "packet", "number", "value", "place", "what"] : List Str)) (qual : Str) (b : List Stmt) (p q : Pos) (doc pm ct : Value) (an : Option Addr) (cda cc : Addr) (u v : Value) : bindArgs (ksFn "__init__" qual (ia1 f p q) b (is1 f) .none .none doc pm an (.ref cda) ct cc) ⟨[u, v], []⟩ = pure [(("self" : Str), u), (f, v)] := by
  simp at hf
  rcases hf with rfl | rfl | rfl | rfl | rfl | rfl <;> rfl
theorem hbd2 (qual : Str) (b : List Stmt) (p q r : Pos) (doc pm ct : Value) (an : Option Addr) (cda cc : Addr) (u v z : Value) : bindArgs (ksFn "__init__" qual (ia2 "what" "packet" p q r) b (is2 "what" "packet") .none .none doc pm an (.ref cda) ct cc) ⟨[u, v, z], []⟩ = pure [(("self" : Str), u), ("what", v), ("packet", z)] := rfl
end Xc


set_option Elab.async false
set_option maxRecDepth 100000
set_option maxHeartbeats 4000000
/-! Mi17: the table out of the written part; the walk of the law. -/
namespace Mi
open PySem L2
/-- what of a def is to be seen from its text alone -/
structure DefTx (tp : Tp) (hot : Bool) (x : Str) (st : Stmt) (ps : List Str) (n : Nat) (body : List Mi.S) : Prop where
  bd : ∀ (kV doc pm : Value) (an : Option Addr) (cdv ct : Value) (us : List Value), us.length = ps.length → bindArgs (PySem.W.fnOf x x (defArgs st) (defBody st) (defScope st) .none kV doc pm an cdv ct) ⟨us, []⟩ = pure (ps.zip us)
  tr : ∃ (N cel : List Str) (fr ln o2 : List Nat) (fuel : Nat), N.length = n ∧ ps.length ≤ n ∧ FnScope N ps (defScope st) ∧ trB ⟨N, (defScope st).names, cel, tp.fns, tp.con, fr, ln, hot, tp.hots, tp.xs, tp.dcs, tp.dfs, o2⟩ fuel (defBody st) = some body
  df : tp.dfs.lookup x = none
/-- the same of a def with one default -/
structure DefTxD (tp : Tp) (hot : Bool) (x : Str) (st : Stmt) (ps : List Str) (n : Nat) (body : List Mi.S) (d : D) : Prop where
  bd : ∀ (T : Addr) (kV doc pm : Value) (an : Option Addr) (cdv ct : Value) (us its : List Value), us.length = ps.length → its.length = 1 →
    ∃ k, bindArgs (PySem.W.fnOf x x (defArgs st) (defBody st) (defScope st) (.ref T) kV doc pm an cdv ct) ⟨us, []⟩ = seqItems? (.ref T) >>= k ∧ k (some its.toArray) = pure (ps.zip (us ++ its.drop 1))
  bd1 : ∀ (T : Addr) (kV doc pm : Value) (an : Option Addr) (cdv ct : Value) (us its : List Value), us.length = ps.length - 1 → its.length = 1 →
    ∃ k, bindArgs (PySem.W.fnOf x x (defArgs st) (defBody st) (defScope st) (.ref T) kV doc pm an cdv ct) ⟨us, []⟩ = seqItems? (.ref T) >>= k ∧ k (some its.toArray) = pure (ps.zip (us ++ its.drop 0))
  one : 1 ≤ ps.length
  tr : ∃ (N cel : List Str) (fr ln o2 : List Nat) (fuel : Nat), N.length = n ∧ ps.length ≤ n ∧ FnScope N ps (defScope st) ∧ trB ⟨N, (defScope st).names, cel, tp.fns, tp.con, fr, ln, hot, tp.hots, tp.xs, tp.dcs, tp.dfs, o2⟩ fuel (defBody st) = some body
  df : tp.dfs.lookup x = some d
/-- a value of the written part, as data -/
def flatB : D → Value → Bool
  | .non, .none => true
  | .bl a, .bool b => a == b
  | .int a, .int b _ => a == b
  | .str a, .str b _ => a == b
  | _, _ => false
def flatBs : List D → List Value → Bool
  | [], [] => true
  | d :: ds, u :: us => flatB d u && flatBs ds us
  | _, _ => false
def constB (K : PySem.W.Frag) : D → Value → Bool
  | .tup ds, .ref p => match K.lookup p with
    | some ⟨.type "tuple", _, .seq its _, _⟩ => decide (its.size ≤ sizeLine) && flatBs ds its.toList
    | _ => false
  | d, u => flatB d u
theorem flatB_at {K : PySem.W.Frag} {d : D} {u : Value} (h : flatB d u = true) : ∃ v, RelV v u ∧ ∀ (a : Fs) G, Rep K a G d v := by
  unfold flatB at h
  split at h
  · exact ⟨.non, rfl, fun a G => by unfold Rep; rfl⟩
  · rename_i x y
    have e : x = y := by simpa using h
    subst e
    exact ⟨.bl x, rfl, fun a G => by unfold Rep; rfl⟩
  · rename_i x y t
    have e : x = y := by simpa using h
    subst e
    exact ⟨.int x, ⟨t, rfl⟩, fun a G => by unfold Rep; rfl⟩
  · rename_i x y t
    have e : x = y := by simpa using h
    subst e
    exact ⟨.str x, ⟨t, rfl⟩, fun a G => by unfold Rep; rfl⟩
  · cases h
theorem flatBs_at {K : PySem.W.Frag} : ∀ {ds : List D} {us : List Value}, flatBs ds us = true → ∃ vs, Vals vs us ∧ ∀ (a : Fs) G, Reps K a G ds vs
  | [], [], _ => ⟨[], .nil, fun a G => Reps.nil⟩
  | d :: ds, u :: us, h => by
    unfold flatBs at h
    rw [Bool.and_eq_true] at h
    obtain ⟨v, r, k⟩ := flatB_at (K := K) h.1
    obtain ⟨vs, rs, ks⟩ := flatBs_at (K := K) h.2
    exact ⟨v :: vs, .cons r rs, fun a G => Reps.cons (k a G) (ks a G)⟩
  | [], _ :: _, h => by cases h
  | _ :: _, [], h => by cases h
theorem constB_at {K : PySem.W.Frag} {d : D} {u : Value} (h : constB K d u = true) : ∃ v, RelV v u ∧ ∀ (a : Fs) G, Rep K a G d v := by
  unfold constB at h
  split at h
  · rename_i ds p
    split at h
    · rename_i od its n sl e
      rw [Bool.and_eq_true, decide_eq_true_eq] at h
      obtain ⟨vs, rv, ks⟩ := flatBs_at (K := K) h.2
      refine ⟨.ref p, rfl, fun a G => ?_⟩
      unfold Rep
      exact ⟨p, vs, rfl, .inr ⟨_, its, n, e, rfl, rfl, h.1, rv⟩, ks a G⟩
    · cases h
  · exact flatB_at h
theorem funA_mk {K : PySem.W.Frag} {x qual : Str} {st : Stmt} {f : Addr} {oc : Value} {od an : Option Addr} {osl : Array (Option Value)} {dV kV doc pm cdv ct : Value} (l : K.lookup f = some ⟨oc, od, .func (PySem.W.fnOf x qual (defArgs st) (defBody st) (defScope st) dV kV doc pm an cdv ct), osl⟩)
    (c : PySem.W.codeIn K cdv qual = true) (k : PySem.W.keepIn K (.ref f) = true) : FunA K x qual st f (PySem.W.fnOf x qual (defArgs st) (defBody st) (defScope st) dV kV doc pm an cdv ct) := ⟨⟨oc, od, dV, kV, doc, pm, an, cdv, ct, osl, rfl, l, c⟩, k⟩
theorem defAt_mkD {K : PySem.W.Frag} {h : Heap} {mg : Str → Option Value} {tp : Tp} {hot : Bool} {x : Str} {st : Stmt} {ps : List Str} {n : Nat} {body : List Mi.S} {d : D} (X : K.In h) (G : h.Ns mainGlobals mg)
    {f T : Addr} {od an td : Option Addr} {sl tsl : Array (Option Value)} {oc kV dc pm cd ct tc u : Value} {m : Nat} (a : PySem.W.nsIn K mainGlobals x = some (some (.ref f)))
    (l : K.lookup f = some ⟨oc, od, .func (PySem.W.fnOf x x (defArgs st) (defBody st) (defScope st) (.ref T) kV dc pm an cd ct), sl⟩) (lT : K.lookup T = some ⟨tc, td, .seq #[u] m, tsl⟩) (cu : flatB d u = true) (c : PySem.W.codeIn K cd x = true) (k : PySem.W.keepIn K (.ref f) = true) (t : DefTxD tp hot x st ps n body d) : DefAt K mg tp hot x ps.length n body := by
  obtain ⟨N, cel, fr, ln, o2, fuel, h1, h2, h3, h4⟩ := t.tr
  obtain ⟨v, rv, kv⟩ := flatB_at (K := K) cu
  have F : FunD K x x (defArgs st) (defBody st) (defScope st) [v] [] f (PySem.W.fnOf x x (defArgs st) (defBody st) (defScope st) (.ref T) kV dc pm an cd ct) := ⟨⟨oc, od, .ref T, kV, dc, pm, an, cd, ct, sl, rfl, l, c, .inr ⟨by simp, T, _, [u], m, rfl, lT, rfl, .cons rv .nil⟩, .inl rfl⟩, k⟩
  obtain ⟨d0, r0, b0⟩ := F.binds1 ps.length 1 (by simp) (by simp) fun T kV doc pm an cdv ct us its q1 q2 => t.bd T kV doc pm an cdv ct us its q1 q2
  obtain ⟨d1, r1, b1⟩ := F.binds1 (ps.length - 1) 0 (by simp) (by have := t.one; simp; omega) fun T kV doc pm an cdv ct us its q1 q2 => t.bd1 T kV doc pm an cdv ct us its q1 q2
  refine ⟨st, f, _, N, ps, fr, ln, o2, cel, fuel, PySem.W.mg_of X G a, funA_mk l c k, ?_, rfl, h1, h2, h3, h4, fun d' hd => ?_⟩
  · cases r0
    exact b0
  · rw [t.df] at hd
    cases hd
    cases r1 with
    | cons q qs =>
      cases qs
      exact ⟨_, v, b1, q, kv⟩
theorem defAt_mk {K : PySem.W.Frag} {h : Heap} {mg : Str → Option Value} {tp : Tp} {hot : Bool} {x : Str} {st : Stmt} {ps : List Str} {n : Nat} {body : List Mi.S} (X : K.In h) (G : h.Ns mainGlobals mg)
    {f : Addr} {od an : Option Addr} {sl : Array (Option Value)} {oc kV dc pm cd ct : Value} (a : PySem.W.nsIn K mainGlobals x = some (some (.ref f)))
    (l : K.lookup f = some ⟨oc, od, .func (PySem.W.fnOf x x (defArgs st) (defBody st) (defScope st) .none kV dc pm an cd ct), sl⟩) (c : PySem.W.codeIn K cd x = true) (k : PySem.W.keepIn K (.ref f) = true) (t : DefTx tp hot x st ps n body) : DefAt K mg tp hot x ps.length n body := by
  obtain ⟨N, cel, fr, ln, o2, fuel, h1, h2, h3, h4⟩ := t.tr
  exact ⟨st, f, _, N, ps, fr, ln, o2, cel, fuel, PySem.W.mg_of X G a, funA (fun_mk (st := st) l c k), (fun_mk (st := st) l c k).binds t.bd, rfl, h1, h2, h3, h4, fun d hd => by rw [t.df] at hd; cases hd⟩
/-- the defs, one by one, from the i-th on -/
inductive DefsAt (K : PySem.W.Frag) (mg : Str → Option Value) (tp : Tp) : Nat → List (Str × Nat) → List Fn → Prop
  | nil {i : Nat} : DefsAt K mg tp i [] []
  | cons {i : Nat} {x : Str} {n np sl : Nat} {body : List Mi.S} {fs : List (Str × Nat)} {ts : List Fn} : DefAt K mg tp (tp.hots.contains i) x np sl body → DefsAt K mg tp (i + 1) fs ts → DefsAt K mg tp i ((x, n) :: fs) (.dfn np sl body :: ts)
theorem DefsAt.dfn {K : PySem.W.Frag} {mg : Str → Option Value} {tp : Tp} : ∀ {k : Nat} {fs : List (Str × Nat)} {ts : List Fn}, DefsAt K mg tp k fs ts → ∀ (i : Nat) (x : Str) (n np sl : Nat) (body : List Mi.S), fs[i]? = some (x, n) → ts[i]? = some (Fn.dfn np sl body) → DefAt K mg tp (tp.hots.contains (k + i)) x np sl body
  | _, _, _, .nil, _, _, _, _, _, _, e, _ => by cases e
  | _, _, _, .cons h t, 0, _, _, _, _, _, e1, e2 => by
    cases e1
    cases e2
    exact h
  | k, _, _, .cons h t, i + 1, _, _, _, _, _, e1, e2 => by
    have q := t.dfn i _ _ _ _ _ e1 e2
    rw [show k + (i + 1) = k + 1 + i by omega]
    exact q
theorem DefsAt.prm {K : PySem.W.Frag} {mg : Str → Option Value} {tp : Tp} : ∀ {k : Nat} {fs : List (Str × Nat)} {ts : List Fn}, DefsAt K mg tp k fs ts → ∀ (i np : Nat) (h : List D → Gs → R D), ts[i]? ≠ some (Fn.prm np h)
  | _, _, _, .nil, _, _, _, e => by cases e
  | _, _, _, .cons h t, 0, _, _, e => by cases e
  | _, _, _, .cons h t, i + 1, _, _, e => t.prm i _ _ e
def okTab (fns : List (Str × Nat)) (T : List Fn) : Bool := match fns, T with
  | [], _ => true
  | (x, n) :: fs, fn :: ts => fn.ps == n && !(x == ("__debug__" : Str)) && okTab fs ts
  | _, _ => false
theorem okTab_at : ∀ {fns : List (Str × Nat)} {T : List Fn}, okTab fns T = true → ∀ (i : Nat) (x : Str) (n : Nat), fns[i]? = some (x, n) → (∃ fn : Fn, T[i]? = some fn ∧ fn.ps = n) ∧ (x == ("__debug__" : Str)) = false
  | [], _, _, _, _, _, e => by cases e
  | (y, m) :: fs, [], h, _, _, _, _ => by cases h
  | (y, m) :: fs, fn :: ts, h, i, x, n, e => by
    unfold okTab at h
    rw [Bool.and_eq_true, Bool.and_eq_true] at h
    obtain ⟨⟨h1, h2⟩, h3⟩ := h
    cases i with
    | zero =>
      cases e
      exact ⟨⟨fn, rfl, by simpa using h1⟩, by simpa using h2⟩
    | succ i => exact okTab_at h3 i x n e
/-- the built-ins stand under their names, the module's numbers under theirs -/
inductive NoneAt (mg : Str → Option Value) : List Str → Prop
  | nil : NoneAt mg []
  | cons {x : Str} {xs : List Str} : mg x = none → NoneAt mg xs → NoneAt mg (x :: xs)
theorem NoneAt.at_ {mg : Str → Option Value} : ∀ {xs : List Str}, NoneAt mg xs → ∀ x ∈ xs, mg x = none
  | _, .nil, x, h => by cases h
  | _, .cons h t, x, hx => by
    rcases List.mem_cons.mp hx with e | e
    · exact e ▸ h
    · exact t.at_ x e
inductive ConAt (K : PySem.W.Frag) (mg : Str → Option Value) : List (Str × D) → Prop
  | nil : ConAt K mg []
  | cons {x : Str} {d : D} {u : Value} {xs : List (Str × D)} : mg x = some u → constB K d u = true → ConAt K mg xs → ConAt K mg ((x, d) :: xs)
theorem ConAt.at_ {K : PySem.W.Frag} {mg : Str → Option Value} : ∀ {xs : List (Str × D)}, ConAt K mg xs → ∀ x d, xs.lookup x = some d → ∃ (u : Value) (v : V), mg x = some u ∧ RelV v u ∧ ∀ (a : Fs) G, Rep K a G d v
  | _, .nil, x, n, h => by cases h
  | _, .cons (x := y) (u := u) h b r, x, n, hx => by
    rw [List.lookup_cons] at hx
    split at hx
    · rename_i e
      cases hx
      obtain ⟨v, rv, kv⟩ := constB_at b
      exact ⟨u, v, (by simpa using e : x = y) ▸ h, rv, kv⟩
    · exact r.at_ x n hx
/-- a dict of texts, as it stands in the written part -/
def kvOf (e : DictEntry) : Option (Str × Str) := match e.key, e.val with
  | .str x _, .str v _ => some (x, v)
  | _, _ => none
def kvsOf : List DictEntry → Option (List (Str × Str))
  | [] => some []
  | e :: r => match kvOf e, kvsOf r with
    | some p, some ps => some (p :: ps)
    | _, _ => none
def dcOf (K : PySem.W.Frag) (p : Addr) : Option (List (Str × Str)) := match K.lookup p with
  | some ⟨_, _, .dict es _, _⟩ => kvsOf es.toList
  | _ => none
theorem kvs_find : ∀ {es : List DictEntry} {kvs : List (Str × Str)} (z : Str), kvsOf es = some kvs →
    (∀ v, kvs.lookup z = some v → ∃ e t, es.find? (·.key.isStr z) = some e ∧ e.val = .str v t) ∧ (kvs.lookup z = none → es.find? (·.key.isStr z) = none) ∧ es.any (·.refKey) = false
  | [], kvs, z, h => by
    cases h
    exact ⟨(fun v e => by cases e), fun _ => rfl, rfl⟩
  | e :: r, kvs, z, h => by
    unfold kvsOf at h
    split at h
    · rename_i p ps h1 h2
      cases h
      obtain ⟨i1, i2, i3⟩ := kvs_find z h2
      unfold kvOf at h1
      split at h1
      · rename_i x tx v tv q1 q2
        cases h1
        have ek : e.key.isStr z = (z == x) := by
          rw [q1, PySem.W.isStr_of]
          show (x == z) = (z == x)
          by_cases q : x = z
          · subst q; rfl
          · have q' : ¬ z = x := fun w => q w.symm
            rw [beq_eq_false_iff_ne.mpr q, beq_eq_false_iff_ne.mpr q']
        refine ⟨fun v' hv => ?_, fun hn => ?_, ?_⟩
        · rw [List.lookup_cons] at hv
          rw [List.find?_cons, ek]
          cases qz : (z == x) with
          | true =>
            rw [qz] at hv
            cases hv
            exact ⟨e, tv, rfl, q2⟩
          | false =>
            rw [qz] at hv
            exact i1 v' hv
        · rw [List.lookup_cons] at hn
          rw [List.find?_cons, ek]
          cases qz : (z == x) with
          | true => rw [qz] at hn; cases hn
          | false =>
            rw [qz] at hn
            exact i2 hn
        · rw [List.any_cons, i3]
          have : e.refKey = false := by
            unfold DictEntry.refKey
            rw [q1]
          rw [this]
          rfl
      · cases h1
    · cases h
theorem dc_look {K : PySem.W.Frag} {p : Addr} {kvs : List (Str × Str)} (h : dcOf K p = some kvs) (z : Str) : (∀ v, kvs.lookup z = some v → ∃ t, PySem.W.nsIn K p z = some (some (.str v t))) ∧ (kvs.lookup z = none → PySem.W.nsIn K p z = some none) := by
  unfold dcOf at h
  split at h
  · rename_i oc od es n sl e
    obtain ⟨i1, i2, i3⟩ := kvs_find z h
    refine ⟨fun v hv => ?_, fun hn => ?_⟩
    · obtain ⟨en, t, h1, h2⟩ := i1 v hv
      refine ⟨t, ?_⟩
      unfold PySem.W.nsIn
      rw [e]
      simp only [h1, h2]
    · unfold PySem.W.nsIn
      rw [e]
      simp only [i2 hn, i3]
      rfl
  · cases h
inductive DcsAt (K : PySem.W.Frag) (w : PySem.World) (mg : Str → Option Value) : List (Str × List (Str × Str)) → Prop
  | nil : DcsAt K w mg []
  | cons {x : Str} {kvs : List (Str × Str)} {p : Addr} {xs : List (Str × List (Str × Str))} : mg x = some (.ref p) → He.dicW K p = some (He.keysIn w.params (kvs.map (·.1))) → dcOf K p = some kvs → DcsAt K w mg xs → DcsAt K w mg ((x, kvs) :: xs)
theorem DcsAt.at_ {K : PySem.W.Frag} {w : PySem.World} {mg : Str → Option Value} : ∀ {xs : List (Str × List (Str × Str))}, DcsAt K w mg xs → ∀ x kvs, xs.lookup x = some kvs →
    ∃ (p : Addr) (es : Array DictEntry) (n : Nat), mg x = some (.ref p) ∧ KDict K w p es n ∧ ∀ z, (∀ v, kvs.lookup z = some v → ∃ t, PySem.W.nsIn K p z = some (some (.str v t))) ∧ (kvs.lookup z = none → PySem.W.nsIn K p z = some none)
  | _, .nil, x, n, h => by cases h
  | _, .cons (x := y) (p := p) h b c r, x, n, hx => by
    rw [List.lookup_cons] at hx
    split at hx
    · rename_i e
      cases hx
      obtain ⟨es, m, kd⟩ := He.dicW_ok b
      exact ⟨p, es, m, (by simpa using e : x = y) ▸ h, kd, dc_look c⟩
    · exact r.at_ x n hx
/-! ### the classes of errors, out of the written part -/
open PySem.W PySem.HandSPX in
def clsB (K : PySem.W.Frag) (C : Addr) (fs : List Str) : Bool :=
  decide (findIn K (.ref C) "__setattr__" = some (some (.builtin "object.__setattr__"))) && decide (findIn K (.ref C) "__getattribute__" = some (some (.builtin "BaseException.__getattribute__"))) && decide (findIn K (.ref C) "__getattr__" = some none) &&
  fs.all (fun f => decide (findIn K (.ref C) f = some none)) && decide (findIn K (.ref C) "__class__" = some (some (.builtin "object.__class__"))) && decide (mroIn K C (.ref C) = some true) && decide (mroIn K C (.type "object") = some true) &&
  decide (subIn K (.ref C) (.type "ValueError") = some true) && decide (subIn K (.ref C) (.type "BaseException") = some true) && hasDictIn K C && decide (typeIn K (.ref C) = some (.type "type")) && keepIn K (.ref C) &&
  decide (ks_superIn K C C "__init__" = some (some (.builtin "ValueError.__init__"))) && excInitIn K C ([.type "ValueError", .type "Exception", .type "BaseException", .type "object"]) "ValueError.__new__" && (match clsIn K C with
    | some cd => refsVE cd.mro && cd.hasDict
    | none => false)
open PySem.W in
/-- what is asked of the built-in part -/
def statB (K : PySem.W.Frag) : Bool := decide (specialIn K (.builtin "object.__class__") "__get__" = some (some (.builtin "getset_descriptor.__get__"))) && decide (takesIn K (.builtin "object.__class__") = some true) && decide (nsIn K cStatics "thirdparty.any" = some none)
def relB (K : PySem.W.Frag) (xs : List Nat) : Bool := xs.all fun i => (100 :: 101 :: xs).all fun j => match clsA K i, clsV K j with
  | some C, some u => decide (PySem.W.kitOne K (.ref C) u = some (isSub i j)) && decide (PySem.W.exmOne K (.ref C) u = some (isSub i j))
  | _, _ => true
theorem clsA_of {K : PySem.W.Frag} {j : Nat} {x : Str} {C : Addr} (hx : exNm j = x) (a : PySem.W.nsIn K mainGlobals x = some (some (.ref C))) : clsA K j = some C := by
  unfold clsA
  rw [hx, a]
structure ClsFacts (P : Program) (K : PySem.W.Frag) (C : Addr) (fs : List Str) : Prop where
  own : Xc.Own K P C C
  kC : PySem.W.keepIn K (.ref C) = true
  exC : PySem.W.subIn K (.ref C) (.type "BaseException") = some true
  tyC : PySem.W.typeIn K (.ref C) = some (.type "type")
  xf : XfC K C
  ec : ExcC K C
  no : ∀ f ∈ fs, PySem.W.findIn K (.ref C) f = some none
theorem clsFacts {P : Program} {K : PySem.W.Frag} {C : Addr} {fs : List Str} (b : clsB K C fs = true) (s : statB K = true) (t : (P.main.scope.names.lookup ("super" : Str)).isSome = false) : ClsFacts P K C fs := by
  unfold clsB at b
  unfold statB at s
  simp only [Bool.and_eq_true, decide_eq_true_eq, List.all_eq_true] at b s
  obtain ⟨⟨⟨⟨⟨⟨⟨⟨⟨⟨⟨⟨⟨⟨b1, b2⟩, b3⟩, b4⟩, b5⟩, b6⟩, b7⟩, b8⟩, b9⟩, b10⟩, b11⟩, b12⟩, b13⟩, b14⟩, b15⟩ := b
  obtain ⟨⟨s1, s2⟩, s3⟩ := s
  split at b15
  · rename_i cd hcd
    simp only [Bool.and_eq_true] at b15
    exact ⟨⟨⟨cd, hcd, b15.1, b15.2⟩, b6, b8, b1, s3, b13, b14, t⟩, b12, b9, b11, ⟨b2, b3, b9, b10⟩, ⟨b2, b3, b9, b10, b5, s1, s2, b7⟩, b4⟩
  · cases b15
section
open PySem.W Xc
variable {P : Program} {K : PySem.W.Frag} {h : Heap} {mg : Str → Option Value} {x qual f g : Str} {C fI cda cc B : Addr} {j : Nat}
theorem clsAt1 {oc doc pm ct ccl cl : Value} {od an cdd cld : Option Addr} {osl ccs csl : Array (Option Value)} {p1 p2 q0 q1 q2 q3 q4 e1 a b c d : Pos} {vs : Array Value} {file : Str} {tf : Tok} (X : K.In h) (G : h.Ns mainGlobals mg)
    (sup : nsIn K mainGlobals "super" = some none) (st : statB K = true) (top : (P.main.scope.names.lookup ("super" : Str)).isSome = false) (hx : exNm j = x) (hf : exFs j = [f]) (hm : f ∈ (["shape", "packet", "number", "value", "place", "what"] : List Str))
    (aC : nsIn K mainGlobals x = some (some (.ref C))) (aB : clsB K C [f] = true) (aI : findIn K (.ref C) "__init__" = some (some (.ref fI))) (aT : typeIn K (.ref fI) = some (.type "function"))
    (aF : K.lookup fI = some ⟨oc, od, .func (ksFn "__init__" qual (ia1 f p1 p2) (ib1 f q0 q1 q2 q3 q4 e1 a b c d) (is1 f) .none .none doc pm an (.ref cda) ct cc), osl⟩) (aK : codeIn K (.ref cda) qual = true)
    (aD : K.lookup cda = some ⟨ccl, cdd, .fields vs, ccs⟩) (aV : vs[2]? = some (.str file tf)) (aP : ((P.main.file : Str) == file) = true) (aE : K.lookup cc = some ⟨cl, cld, .cell (some (.ref C)), csl⟩) (aL : (q2.endLine == q3.line) = true) : ClsAt P K mg j := by
  have F := clsFacts aB st top
  have gC := mg_of X G aC
  have hms := mg_none_of X G sup
  have ne : f ≠ "self" ∧ f ≠ "super" ∧ f ≠ "__class__" ∧ (f == ("__debug__" : Str)) = false := by
    simp at hm
    rcases hm with rfl | rfl | rfl | rfl | rfl | rfl <;> exact ⟨by decide, by decide, by decide, by decide⟩
  have O : ∀ y, Own K P C y := fun y => ⟨F.own.cls, F.own.sub, F.own.ve, F.own.sa, F.own.opq, F.own.sup, F.own.ini, F.own.top⟩
  refine ⟨C, clsA_of hx aC, ?_, F.xf, F.ec, ?_⟩
  · rw [hx, hf]
    exact mkC1 gC hms F.kC F.exC F.tyC ⟨F.own.ini, aI, aT⟩ ⟨O fI, F.no f List.mem_cons_self, ⟨ne.2.2.2, ne.1, ne.2.1, ne.2.2.1⟩, ⟨oc, doc, pm, ct, od, an, osl, cda, cc, p1, p2, q0, q1, q2, q3, q4, e1, a, b, c, d, vs, file, tf, ccl, cl, cdd, cld, ccs, csl, aF, aK, aD, aV, aP, aE, hbd1 hm qual _ p1 p2 doc pm ct an cda cc, hev1 f aL⟩⟩
  · rw [hf]; exact F.no
theorem clsAt2 {oc doc pm ct ccl cl : Value} {od an cdd cld : Option Addr} {osl ccs csl : Array (Option Value)} {p1 p2 p3 q0 q1 q2 q3 q4 e1 e2 a b c d a' b' c' d' : Pos} {vs : Array Value} {file : Str} {tf : Tok} (X : K.In h) (G : h.Ns mainGlobals mg)
    (sup : nsIn K mainGlobals "super" = some none) (st : statB K = true) (top : (P.main.scope.names.lookup ("super" : Str)).isSome = false) (hx : exNm j = x) (hf : exFs j = (["what", "packet"] : List Str))
    (aC : nsIn K mainGlobals x = some (some (.ref C))) (aB : clsB K C (["what", "packet"] : List Str) = true) (aI : findIn K (.ref C) "__init__" = some (some (.ref fI))) (aT : typeIn K (.ref fI) = some (.type "function"))
    (aF : K.lookup fI = some ⟨oc, od, .func (ksFn "__init__" qual (ia2 "what" "packet" p1 p2 p3) (ib2 "what" "packet" q0 q1 q2 q3 q4 e1 e2 a b c d a' b' c' d') (is2 "what" "packet") .none .none doc pm an (.ref cda) ct cc), osl⟩) (aK : codeIn K (.ref cda) qual = true)
    (aD : K.lookup cda = some ⟨ccl, cdd, .fields vs, ccs⟩) (aV : vs[2]? = some (.str file tf)) (aP : ((P.main.file : Str) == file) = true) (aE : K.lookup cc = some ⟨cl, cld, .cell (some (.ref C)), csl⟩) (aL : (q2.endLine == q3.line) = true) : ClsAt P K mg j := by
  have F := clsFacts aB st top
  have gC := mg_of X G aC
  have hms := mg_none_of X G sup
  have O : ∀ y, Own K P C y := fun y => ⟨F.own.cls, F.own.sub, F.own.ve, F.own.sa, F.own.opq, F.own.sup, F.own.ini, F.own.top⟩
  refine ⟨C, clsA_of hx aC, ?_, F.xf, F.ec, ?_⟩
  · rw [hx, hf]
    exact mkC2 gC hms F.kC F.exC F.tyC ⟨F.own.ini, aI, aT⟩ ⟨O fI, ⟨F.no "what" (by simp), F.no "packet" (by simp)⟩, ⟨by decide, by decide, by decide, by decide⟩, ⟨by decide, by decide, by decide, by decide, by decide⟩, ⟨oc, doc, pm, ct, od, an, osl, cda, cc, p1, p2, p3, q0, q1, q2, q3, q4, e1, e2, a, b, c, d, a', b', c', d', vs, file, tf, ccl, cl, cdd, cld, ccs, csl, aF, aK, aD, aV, aP, aE, hbd2 qual _ p1 p2 p3 doc pm ct an cda cc, hev2 "what" "packet" aL⟩⟩
  · rw [hf]; exact F.no
inductive ClsesAt (P : Program) (K : PySem.W.Frag) (mg : Str → Option Value) : List Nat → Prop
  | nil : ClsesAt P K mg []
  | cons {j : Nat} {xs : List Nat} : ClsAt P K mg j → ClsesAt P K mg xs → ClsesAt P K mg (j :: xs)
theorem ClsesAt.at_ : ∀ {xs : List Nat}, ClsesAt P K mg xs → ∀ j ∈ xs, ClsAt P K mg j
  | _, .nil, j, h => by cases h
  | _, .cons a t, j, h => by
    rcases List.mem_cons.mp h with rfl | h
    · exact a
    · exact t.at_ j h
theorem clsAll {xs : List Nat} (X : K.In h) (G : h.Ns mainGlobals mg) (cs : ClsesAt P K mg xs) (lt : xs.all (fun j => decide (j < 13)) = true) (aB : nsIn K mainGlobals "OathError" = some (some (.ref B))) (aV : nsIn K mainGlobals "ValueError" = some none) (rel : relB K xs = true) : ClsAll P K mg xs := by
  refine ⟨cs.at_, fun j hj => ?_, fun i hi j hj C u e1 e2 => ?_⟩
  · rcases List.mem_cons.mp hj with rfl | hj
    · refine ⟨.ref B, ?_, .inl ⟨B, rfl, mg_of X G aB⟩, by decide⟩
      unfold clsV
      rw [if_neg (by decide)]
      show (match nsIn K mainGlobals "OathError" with | some (some (.ref C)) => some (Value.ref C) | _ => none) = _
      rw [aB]
    · rcases List.mem_cons.mp hj with rfl | hj
      · exact ⟨.type "ValueError", rfl, .inr ⟨rfl, mg_none_of X G aV, rfl⟩, by decide⟩
      · obtain ⟨C, e1, M, _⟩ := (cs.at_ j hj).at_
        have hl : j < 13 := by
          have := List.all_eq_true.mp lt j hj
          simpa using this
        have e : clsNm j = exNm j := by
          unfold clsNm
          rw [if_neg (by omega), if_neg (by omega)]
        refine ⟨.ref C, ?_, .inl ⟨C, rfl, by rw [e]; exact M.gC⟩, ?_⟩
        · unfold clsV
          rw [if_neg (by omega), e]
          unfold clsA at e1
          split at e1
          · cases e1
            rename_i q
            first
              | rw [q]
              | rfl
          · cases e1
        · rw [e]
          have all : (List.range 13).all (fun j => !(exNm j == ("__debug__" : Str))) = true := by decide
          have := List.all_eq_true.mp all j (List.mem_range.mpr hl)
          simpa using this
  · unfold relB at rel
    have q := List.all_eq_true.mp (List.all_eq_true.mp rel i hi) j hj
    rw [e1, e2] at q
    simp only [Bool.and_eq_true, decide_eq_true_eq] at q
    exact q
theorem clsNone (aV : ∃ h, K.In h ∧ h.Ns mainGlobals mg ∧ nsIn K mainGlobals "ValueError" = some none ∧ nsIn K mainGlobals "OathError" = some (some (.ref B))) : ClsAll P K mg [] := by
  obtain ⟨h, X, G, a1, a2⟩ := aV
  exact clsAll X G .nil rfl a2 a1 rfl
end
/-- the law's own text -/
structure LawTx (T : List Fn) (tp : Tp) (st : Stmt) (k : Nat) : Prop where
  bd : ∀ (kV doc pm : Value) (an : Option Addr) (cdv ct : Value) (us : List Value), us.length = ["script"].length → bindArgs (PySem.W.fnOf "law" "law" (defArgs st) (defBody st) (defScope st) .none kV doc pm an cdv ct) ⟨us, []⟩ = pure ((["script"] : List Str).zip us)
  tr : ∃ (N cel : List Str) (fr ln : List Nat) (fuel i fi : Nat) (s0 : Stmt) (rest : List Stmt) (es : List E) (ex : List D) (ms : List Mi.S), FnScope N ["script"] (defScope st) ∧ defBody st = s0 :: rest ∧
    trS ⟨N, (defScope st).names, cel, tp.fns, tp.con, [], [], false, tp.hots, tp.xs, tp.dcs, tp.dfs, []⟩ fuel s0 = some (.asg i (.call fi (.nm 0 :: es))) ∧ trSs ⟨N, (defScope st).names, cel, tp.fns, tp.con, fr, ln, false, tp.hots, tp.xs, tp.dcs, tp.dfs, []⟩ fuel rest = some ms ∧
    0 < N.length ∧ i < N.length ∧ (∀ (c : CallF) (ρ : Env) (g : Gs), evL c es ρ g = .ok ex g) ∧ Plain T k N.length i (fun ds => ds ++ ex) fi ms
theorem law_mk {l : PySem.W.OpenLaw} {w : PySem.World} {K : PySem.W.Frag} {h : Heap} {mg : Str → Option Value} {fa f : Addr} {T : List Fn} {tp : Tp} {st : Stmt} {k : Nat} (X : K.In h) (G : h.Ns mainGlobals mg) (hfa : mg "law" = some (.ref fa))
    {od an : Option Addr} {sl : Array (Option Value)} {oc kV dc pm cd ct : Value} (aL : PySem.W.nsIn K mainGlobals "law" = some (some (.ref f)))
    (lL : K.lookup f = some ⟨oc, od, .func (PySem.W.fnOf "law" "law" (defArgs st) (defBody st) (defScope st) .none kV dc pm an cd ct), sl⟩) (cL : PySem.W.codeIn K cd "law" = true) (kL : PySem.W.keepIn K (.ref f) = true)
    (t : LawTx T tp st k) (ok : okTab tp.fns T = true) (ds : DefsAt K mg tp 0 tp.fns T) (bs : NoneAt mg blts) (cs : ConAt K mg tp.con) (dcs : DcsAt K w mg tp.dcs) (cl : ClsAll l.prog K mg tp.xs) :
    ∃ fd : FuncData, (∀ (s : Shared) (v : Value), BindsTo s fd ⟨[v], []⟩ [("script", v)]) ∧ ∀ base : Heap, K.In base → base.Ns mainGlobals mg → FnOk l.prog w K mg base (L2N.CX l.prog w) (k + 0 + 1) fa fd ["script"] (spLaw K) := by
  have e := hfa.symm.trans (PySem.W.mg_of X G aL)
  cases e
  obtain ⟨N, cel, fr, ln, fuel, i, fi, s0, rest, es, ex, ms, h1, h2, h3, h4, h5, h6, h7, h8⟩ := t.tr
  refine ⟨PySem.W.fnOf "law" "law" (defArgs st) (defBody st) (defScope st) .none kV dc pm an cd ct, fun s v => .of_eq (t.bd _ _ _ _ _ _ [v] rfl), fun base _ _ => law_ok (L := 0) ⟨okTab_at ok, (fun i x n np sl body e1 e2 => by have q := ds.dfn i x n np sl body e1 e2; rw [Nat.zero_add] at q; exact q), fun i x n np h _ e => (ds.prm i np h e).elim, bs.at_, cs.at_, dcs.at_, cl⟩ (fun_mk (st := st) lL cL kL) h1 h2 h3 h4 h5 h6 h7 h8⟩
theorem walk {l : PySem.W.OpenLaw} {q : Program} {loose : List Str} {XP : (Str → Option Value) → Heap → Prop} {YP : PySem.World → Heap → Prop} {d : DefRec} {K : Params → PySem.W.Frag} {k : Nat} (hn : l.most = some 63) (hdf : d.params.defaults = []) (hk : Room (k + 0 + 1) callerA)
    (hY : ∀ (w : PySem.World) (h : Heap), YP w h → (K w.params).In h)
    (F : ∀ (w : PySem.World) (mg : Str → Option Value) (fa : Addr) (h : Heap), (K w.params).In h → h.Ns mainGlobals mg → mg d.name = some (.ref fa) →
      ∃ fd : FuncData, (∀ (s : Shared) (u : Value), BindsTo s fd ⟨[u], []⟩ [("script", u)]) ∧ ∀ base : Heap, (K w.params).In base → base.Ns mainGlobals mg → FnOk l.prog w (K w.params) mg base (L2N.CX l.prog w) (k + 0 + 1) fa fd ["script"] (spLaw (K w.params))) :
    PySem.W.WalkO q loose XP YP l.row.toRowW d [] (fun f vs => PySem.call f vs) :=
  L2.walk_of (n := 63) (k := k + 0 + 1) (x := "script") (CX := fun w => L2N.CX l.prog w) (sp := fun w => spLaw (K w.params)) hn (by decide) hdf hk hY F (fun _ _ a ns hl _ hS => ⟨a, ns, rfl, hS, hl, fun _ => rfl⟩)
    fun _ _ _ _ _ h => by
    obtain ⟨_, _, _, _, _, _, _, _, _, _, _, _, z⟩ := h
    exact z.elim
end Mi


set_option Elab.async false
set_option maxRecDepth 10000
/-! Mi18: lemmas for plain work with the evaluator. -/
namespace Mi.Pl
open PySem L2 Mi
theorem call_def {T : List Fn} {i k ps n : Nat} {body : List Mi.S} {ds : List D} {g : Gs} (h : T[i]? = some (.dfn ps n body)) (hl : ds.length = ps) : Mi.call T (k + 1) i ds g = fin (exL (Mi.call T k) body (envOf ds n) g) := by
  unfold Mi.call
  rw [h]
  exact if_pos hl
section
variable {c : CallF} {ρ : Env} {g : Gs}
@[simp] theorem exL_nil : exL c [] ρ g = .nx ρ g := by unfold exL; rfl
@[simp] theorem exL_cons {s : Mi.S} {ss : List Mi.S} : exL c (s :: ss) ρ g = (exS c s ρ g).seq fun ρ g => exL c ss ρ g := by rw [exL]
@[simp] theorem ev_nm {i : Nat} : ev c (.nm i) ρ g = match ρ.get i with
    | some (.val d) => .ok d g
    | _ => .no := by rw [ev] <;> rfl
@[simp] theorem ev_lit {d : D} : ev c (.lit d) ρ g = .ok d g := by rw [ev]
@[simp] theorem ev_tup {es : List E} : ev c (.tup es) ρ g = (evL c es ρ g).bind fun ds g => if ds.length ≤ sizeLine then .ok (.tup ds) g else .no := by rw [ev]
@[simp] theorem ev_lst {es : List E} : ev c (.lst es) ρ g = (evL c es ρ g).bind fun ds g => if ds.length ≤ sizeLine then .ok (.lst ds) g else .no := by rw [ev]
@[simp] theorem ev_op {o : Op} {a b : E} : ev c (.op o a b) ρ g = (brw a ρ g (ev c a ρ g)).bind fun x g => (brw b ρ g (ev c b ρ g)).bind fun y g => R.of (opD o x y) g := by rw [ev]
@[simp] theorem ev_neg {a : E} : ev c (.neg a) ρ g = (ev c a ρ g).bind fun x g => match x with
    | .int i => .ok (.int (-i)) g
    | _ => .no := by rw [ev] <;> rfl
@[simp] theorem ev_cmp {o : Cm} {a b : E} : ev c (.cmp o a b) ρ g = (brw a ρ g (ev c a ρ g)).bind fun x g => (brw b ρ g (ev c b ρ g)).bind fun y g => (R.of (cmpD o x y) g).bind fun k g => .ok (.bl k) g := by rw [ev]
@[simp] theorem ev_chain {o o' : Cm} {a b d : E} : ev c (.chain o o' a b d) ρ g = (ev c a ρ g).bind fun x g => (ev c b ρ g).bind fun y g => (R.of (cmpD o x y) g).bind fun k g =>
      if k = true then (ev c d ρ g).bind fun z g => (R.of (cmpD o' y z) g).bind fun k' g => .ok (.bl k') g else .ok (.bl false) g := by rw [ev]
@[simp] theorem ev_and {a b : E} : ev c (.and a b) ρ g = (ev c a ρ g).bind fun x g => match x with
    | .bl true => ev c b ρ g
    | .bl false => .ok (.bl false) g
    | _ => .no := by rw [ev] <;> rfl
@[simp] theorem ev_or {a b : E} : ev c (.or a b) ρ g = (ev c a ρ g).bind fun x g => match x with
    | .bl true => .ok (.bl true) g
    | .bl false => ev c b ρ g
    | _ => .no := by rw [ev] <;> rfl
@[simp] theorem ev_not {a : E} : ev c (.not a) ρ g = (ev c a ρ g).bind fun x g => match x with
    | .bl k => .ok (.bl (!k)) g
    | _ => .no := by rw [ev] <;> rfl
@[simp] theorem ev_tand {a b : E} : ev c (.tand a b) ρ g = (brw a ρ g (ev c a ρ g)).bind fun x g => match truthG g x with
    | some true => (brw b ρ g (ev c b ρ g)).bind fun y g => (R.of (truthG g y) g).bind fun k g => .ok (.bl k) g
    | some false => .ok (.bl false) g
    | none => .no := by rw [ev] <;> rfl
@[simp] theorem ev_tor {a b : E} : ev c (.tor a b) ρ g = (brw a ρ g (ev c a ρ g)).bind fun x g => match truthG g x with
    | some true => .ok (.bl true) g
    | some false => (brw b ρ g (ev c b ρ g)).bind fun y g => (R.of (truthG g y) g).bind fun k g => .ok (.bl k) g
    | none => .no := by rw [ev] <;> rfl
@[simp] theorem ev_tnot {a : E} : ev c (.tnot a) ρ g = (brw a ρ g (ev c a ρ g)).bind fun x g => (R.of (truthG g x) g).bind fun k g => .ok (.bl (!k)) g := by rw [ev]
@[simp] theorem ev_ite {t a b : E} : ev c (.ite t a b) ρ g = (brw t ρ g (ev c t ρ g)).bind fun x g => match truthG g x with
    | some true => ev c a ρ g
    | some false => ev c b ρ g
    | none => .no := by rw [ev] <;> rfl
@[simp] theorem ev_ix {a b : E} : ev c (.ix a b) ρ g = (brw a ρ g (ev c a ρ g)).bind fun x g => (ev c b ρ g).bind fun y g => R.of (ixG g x y) g := by rw [ev]
@[simp] theorem ev_sl {a lo hi : E} : ev c (.sl a lo hi) ρ g = (brw a ρ g (ev c a ρ g)).bind fun x g => (ev c lo ρ g).bind fun l g => match partD l with
    | some l => (ev c hi ρ g).bind fun h g => match partD h with
      | some h => R.of (slD x l h) g
      | none => .no
    | none => .no := by rw [ev] <;> rfl
@[simp] theorem ev_rev {a : E} : ev c (.rev a) ρ g = (brw a ρ g (ev c a ρ g)).bind fun x g => match x with
    | .lst xs => .ok (.lst xs.reverse) g
    | _ => .no := by rw [ev] <;> rfl
@[simp] theorem ev_part {a : E} : ev c (.part a) ρ g = (ev c a ρ g).bind fun x g => match x with
    | .int i => .ok (.int i) g
    | _ => .no := by rw [ev] <;> rfl
@[simp] theorem ev_pop {a : E} : ev c (.pop a) ρ g = (ev c a ρ g).bind fun x g => match popG g x with
    | some (v, g) => .ok (.int v) g
    | none => .no := by rw [ev] <;> rfl
@[simp] theorem ev_call {f : Nat} {es : List E} : ev c (.call f es) ρ g = (evL c es ρ g).bind fun ds g => c f ds g := by rw [ev]
@[simp] theorem ev_bi {b : BI} {es : List E} : ev c (.bi b es) ρ g = (evB c es ρ g).bind fun ds g => R.of (biG g b ds) g := by rw [ev]
@[simp] theorem ev_isi {a : E} {ts : List Ty} {tp : Bool} : ev c (.isi a ts tp) ρ g = (brw a ρ g (ev c a ρ g)).bind fun x g => (R.of (isiD x ts) g).bind fun k g => .ok (.bl k) g := by rw [ev]
@[simp] theorem evL_nil : evL c [] ρ g = .ok [] g := by rw [evL]
@[simp] theorem evL_cons {e : E} {es : List E} : evL c (e :: es) ρ g = (ev c e ρ g).bind fun d g => (evL c es ρ g).bind fun ds g => .ok (d :: ds) g := by rw [evL]
@[simp] theorem evB_nil : evB c [] ρ g = .ok [] g := by rw [evB]
@[simp] theorem evB_cons {e : E} {es : List E} : evB c (e :: es) ρ g = (brw e ρ g (ev c e ρ g)).bind fun d g => (evB c es ρ g).bind fun ds g => .ok (d :: ds) g := by rw [evB]
@[simp] theorem evI_seq {a : E} : evI c (.iseq a) ρ g = (brw a ρ g (ev c a ρ g)).bind fun x g => R.of (itemsD x) g := by rw [evI]
@[simp] theorem evJ_seq {a : E} : evJ c (.iseq a) ρ g = (ev c a ρ g).bind fun x g => R.of (itemsD x) g := by rw [evJ]
@[simp] theorem brw_nm {i : Nat} {r : R D} : brw (.nm i) ρ g r = match ρ.get i with
    | some (.own ds) => .ok (.lst ds) g
    | _ => r := rfl
@[simp] theorem brw_lit {d : D} {r : R D} : brw (.lit d) ρ g r = r := (rfl)
@[simp] theorem brw_tup {es : List E} {r : R D} : brw (.tup es) ρ g r = r := (rfl)
@[simp] theorem brw_lst {es : List E} {r : R D} : brw (.lst es) ρ g r = r := (rfl)
@[simp] theorem brw_op {o : Op} {a b : E} {r : R D} : brw (.op o a b) ρ g r = r := (rfl)
@[simp] theorem brw_neg {a : E} {r : R D} : brw (.neg a) ρ g r = r := (rfl)
@[simp] theorem brw_cmp {o : Cm} {a b : E} {r : R D} : brw (.cmp o a b) ρ g r = r := (rfl)
@[simp] theorem brw_chain {o o' : Cm} {a b d : E} {r : R D} : brw (.chain o o' a b d) ρ g r = r := (rfl)
@[simp] theorem brw_and {a b : E} {r : R D} : brw (.and a b) ρ g r = r := (rfl)
@[simp] theorem brw_or {a b : E} {r : R D} : brw (.or a b) ρ g r = r := (rfl)
@[simp] theorem brw_not {a : E} {r : R D} : brw (.not a) ρ g r = r := (rfl)
@[simp] theorem brw_tand {a b : E} {r : R D} : brw (.tand a b) ρ g r = r := (rfl)
@[simp] theorem brw_tor {a b : E} {r : R D} : brw (.tor a b) ρ g r = r := (rfl)
@[simp] theorem brw_tnot {a : E} {r : R D} : brw (.tnot a) ρ g r = r := (rfl)
@[simp] theorem brw_ite {t a b : E} {r : R D} : brw (.ite t a b) ρ g r = r := (rfl)
@[simp] theorem brw_ix {a b : E} {r : R D} : brw (.ix a b) ρ g r = r := (rfl)
@[simp] theorem brw_sl {a b d : E} {r : R D} : brw (.sl a b d) ρ g r = r := (rfl)
@[simp] theorem brw_rev {a : E} {r : R D} : brw (.rev a) ρ g r = r := (rfl)
@[simp] theorem brw_pop {a : E} {r : R D} : brw (.pop a) ρ g r = r := (rfl)
@[simp] theorem brw_call {f : Nat} {es : List E} {r : R D} : brw (.call f es) ρ g r = r := (rfl)
@[simp] theorem brw_bi {b : BI} {es : List E} {r : R D} : brw (.bi b es) ρ g r = r := (rfl)
@[simp] theorem brw_isi {a : E} {ts : List Ty} {tp : Bool} {r : R D} : brw (.isi a ts tp) ρ g r = r := (rfl)
@[simp] theorem brw_comp {tg : Tg} {it q e : E} {o : List Nat} {r : R D} : brw (.comp tg it q o e) ρ g r = r := (rfl)
@[simp] theorem brw_comp2 {tg tg2 : Tg} {it it2 e : E} {o o2 : List Nat} {r : R D} : brw (.comp2 tg it tg2 it2 o o2 e) ρ g r = r := (rfl)
@[simp] theorem exS_asg {i : Nat} {e : E} : exS c (.asg i e) ρ g = (ev c e ρ g).st ρ fun d g => .nx (ρ.set i (some (mkCell (isFr e) d))) g := by rw [exS]
@[simp] theorem exS_asgT {l : List Nat} {e : E} : exS c (.asgT l e) ρ g = (ev c e ρ g).st ρ fun d g => match bindTg ρ (.tup l) d with
    | some ρ1 => .nx ρ1 g
    | none => .no := by rw [exS] <;> rfl
@[simp] theorem exS_aug {i : Nat} {o : Op} {e : E} : exS c (.aug i o e) ρ g = match ρ.get i with
    | some (.val x) => (ev c e ρ g).st ρ fun y g => match onInts o x y with
      | some z => .nx (ρ.set i (some (.val z))) g
      | none => .no
    | _ => .no := by rw [exS] <;> rfl
@[simp] theorem exS_app {i : Nat} {e : E} : exS c (.app i e) ρ g = match ρ.get i with
    | some (.own ds) => (ev c e ρ g).st ρ fun y g => if ds.length < sizeLine then .nx (ρ.set i (some (.own (ds ++ [y])))) g else .no
    | _ => .no := by rw [exS] <;> rfl
@[simp] theorem exS_setix {i : Nat} {kk e : E} : exS c (.setix i kk e) ρ g = (ev c e ρ g).st ρ fun y g => match ρ.get i with
    | some (.own ds) => (ev c kk ρ g).st ρ fun z g => match z with
      | .int j => match ixN ds.length j with
        | some j => .nx (ρ.set i (some (.own (ds.set j y)))) g
        | none => .no
      | _ => .no
    | some (.val d) => (ev c kk ρ g).st ρ fun z g => match setG g d z y with
      | some g => .nx ρ g
      | none => .no
    | _ => .no := by rw [exS] <;> rfl
@[simp] theorem exS_expr {e : E} : exS c (.expr e) ρ g = (ev c e ρ g).st ρ fun _ g => .nx ρ g := by rw [exS]
@[simp] theorem exS_ife {t : E} {a b : List Mi.S} : exS c (.ife t a b) ρ g = (brw t ρ g (ev c t ρ g)).st ρ fun x g => match truthG g x with
    | some true => exL c a ρ g
    | some false => exL c b ρ g
    | none => .no := by rw [exS] <;> rfl
@[simp] theorem exS_ret {e : E} : exS c (.ret e) ρ g = (ev c e ρ g).st ρ fun d g => .rt d g := by rw [exS]
@[simp] theorem exS_retN : exS c .retN ρ g = .rt .non g := by rw [exS]
@[simp] theorem exS_brk : exS c .brk ρ g = .bk ρ g := by rw [exS]
@[simp] theorem exS_cnt : exS c .cnt ρ g = .ct ρ g := by rw [exS]
@[simp] theorem exS_pass : exS c .pass ρ g = .nx ρ g := by rw [exS]
@[simp] theorem exS_fz {l : List Nat} {s : Mi.S} : exS c (.fz l s) ρ g = exS c s (freeze ρ l) g := by rw [exS]
theorem exS_try {b : List Mi.S} {r : SR} (h : exL c b ρ g = r) (hr : ∀ e ρ g, r ≠ .ex e ρ g) : exS c (.tryT b) ρ g = r := by
  rw [exS, h]
  cases r with
  | ex e ρ g => exact absurd rfl (hr e ρ g)
  | _ => rfl
@[simp] theorem freeze_nil : freeze ρ [] = ρ := (rfl)
@[simp] theorem freeze_cons {i : Nat} {is : List Nat} : freeze ρ (i :: is) = match ρ.get i with
    | some (.own ds) => freeze (ρ.set i (some (.val (.lst ds)))) is
    | _ => freeze ρ is := by rw [freeze] <;> rfl
@[simp] theorem fin_rt {d : D} : fin (.rt d g) = .ok d g := (rfl)
@[simp] theorem fin_nx : fin (.nx ρ g) = .ok .non g := (rfl)
@[simp] theorem fin_ex {e : Exn} : fin (.ex e ρ g) = .ex e g := (rfl)
@[simp] theorem tG_bl {b : Bool} : truthG g (.bl b) = some b := (rfl)
@[simp] theorem get_0 {x : Option Cell} {r : Env} : Env.get (x :: r) 0 = x := by unfold Env.get; cases x <;> rfl
@[simp] theorem get_s {x : Option Cell} {r : Env} {n : Nat} : Env.get (x :: r) (n + 1) = Env.get r n := by unfold Env.get; rw [List.getElem?_cons_succ]
theorem forL_nil {step : D → Env → Gs → SR} : forL step [] ρ g = .nx ρ g := rfl
theorem forL_cons {step : D → Env → Gs → SR} {x : D} {xs : List D} : forL step (x :: xs) ρ g = (step x ρ g).turn (forL step xs) := rfl
/-- a loop whose turns all go on: the state by number of turns -/
theorem forL_go {step : D → Env → Gs → SR} (ρs : Nat → Env) (gs : Nat → Gs) : ∀ (xs : List D) (i : Nat), (∀ j, (h : j < xs.length) → step xs[j] (ρs (i + j)) (gs (i + j)) = .nx (ρs (i + j + 1)) (gs (i + j + 1))) → forL step xs (ρs i) (gs i) = .nx (ρs (i + xs.length)) (gs (i + xs.length))
  | [], i, _ => rfl
  | x :: xs, i, h => by
    rw [forL_cons]
    have h0 := h 0 (Nat.zero_lt_succ _)
    simp only [List.getElem_cons_zero, Nat.add_zero] at h0
    rw [h0, SR.turn_nx, forL_go ρs gs xs (i + 1) fun j hj => ?_]
    · rw [List.length_cons, Nat.add_assoc, Nat.add_comm 1]
    · have := h (j + 1) (Nat.succ_lt_succ hj)
      simp only [List.getElem_cons_succ] at this
      rw [Nat.add_assoc i 1 j, Nat.add_comm 1 j]
      exact this
theorem rangeD_length (lo : Int) (n : Nat) : (rangeD lo n).length = n := by unfold rangeD; simp
theorem rangeD_get (lo : Int) (n j : Nat) (h : j < (rangeD lo n).length) : (rangeD lo n)[j] = .int (lo + j) := by
  have e : (rangeD lo n)[j]? = some (.int (lo + j)) := by
    have hj : j < n := by rw [rangeD_length] at h; exact h
    unfold rangeD
    simp [hj]
  exact Option.some.inj ((List.getElem?_eq_getElem h).symm.trans e)
theorem rangeD_map (lo : Int) (n : Nat) : rangeD lo n = (List.range n).map fun (k : Nat) => D.int (lo + k) := rfl
/-- a comprehension all of whose turns go on without a change of the draws' list -/
theorem compL_map {α β : Type} {f : D → Gs → R (List α)} (F : β → List α) (h : β → D) : ∀ (xs : List β), (∀ x ∈ xs, f (h x) g = .ok (F x) g) → compL f (xs.map h) g = .ok (xs.flatMap F) g
  | [], _ => rfl
  | x :: xs, hx => by
    rw [List.map_cons]
    unfold compL
    rw [hx x List.mem_cons_self]
    simp only
    rw [compL_map F h xs fun y hy => hx y (List.mem_cons_of_mem _ hy)]
    rfl
end
@[simp] theorem sizeLine_ge {n : Nat} (h : n ≤ 1000000) : n ≤ sizeLine := Nat.le_trans h (by decide)
section
variable {c : CallF} {ρ : Env} {g : Gs}
theorem flatMap_one {α β : Type} (F : α → β) : ∀ xs : List α, (xs.flatMap fun x => [F x]) = xs.map F
  | [] => rfl
  | x :: xs => by rw [List.flatMap_cons, flatMap_one F xs]; rfl
theorem ev_comp_map {β : Type} {tg : Tg} {it elt : E} {own : List Nat} (xs : List β) (h : β → D) (F : β → D) (ρ1 : β → Env) (hi : evI c it ρ g = .ok (xs.map h) g) (hb : ∀ x ∈ xs, bindTg (wipeE ρ own) tg (h x) = some (ρ1 x))
    (he : ∀ x ∈ xs, ev c elt (ρ1 x) g = .ok (F x) g) (hl : xs.length ≤ sizeLine) : ev c (.comp tg it (.lit (.bl true)) own elt) ρ g = .ok (.lst (xs.map F)) g := by
  unfold ev
  rw [hi, R.bind_ok, compL_map (fun x => [F x]) h xs fun x hx => ?_]
  · rw [flatMap_one]
    unfold sized
    simp only [List.length_map]
    rw [if_pos hl]
  · rw [hb x hx]
    simp only
    have e1 : brw (.lit (.bl true)) (ρ1 x) g (ev c (.lit (.bl true)) (ρ1 x) g) = .ok (.bl true) g := by unfold ev; rfl
    rw [e1, R.bind_ok, he x hx]
    rfl
theorem ev_comp_filter {β : Type} {tg : Tg} {it elt cond : E} {own : List Nat} (xs : List β) (h : β → D) (q : β → Bool) (F : β → D) (ρ1 : β → Env) (hi : evI c it ρ g = .ok (xs.map h) g) (hb : ∀ x ∈ xs, bindTg (wipeE ρ own) tg (h x) = some (ρ1 x))
    (hq : ∀ x ∈ xs, brw cond (ρ1 x) g (ev c cond (ρ1 x) g) = .ok (.bl (q x)) g) (he : ∀ x ∈ xs, q x = true → ev c elt (ρ1 x) g = .ok (F x) g) (hl : xs.length ≤ sizeLine) : ev c (.comp tg it cond own elt) ρ g = .ok (.lst ((xs.filter q).map F)) g := by
  unfold ev
  rw [hi, R.bind_ok, compL_map (fun x => if q x = true then [F x] else []) h xs fun x hx => ?_]
  · have e : (xs.flatMap fun x => if q x = true then [F x] else []) = (xs.filter q).map F := by
      clear hi hb hq he hl
      induction xs with
      | nil => rfl
      | cons x xs ih =>
        rw [List.flatMap_cons, ih, List.filter_cons]
        cases q x <;> rfl
    rw [e]
    unfold sized
    simp only [List.length_map]
    rw [if_pos (Nat.le_trans (List.length_filter_le _ _) hl)]
  · rw [hb x hx]
    simp only
    rw [hq x hx, R.bind_ok]
    show oneOrNone (some (q x)) _ g = _
    cases hx2 : q x with
    | true => 
      rw [he x hx hx2]
      rfl
    | false => rfl
theorem compL_flat {α β : Type} {f : D → Gs → R (List α)} (F : β → List α) (h : β → D) (xs : List β) (hx : ∀ x ∈ xs, f (h x) g = .ok (F x) g) : compL f (xs.map h) g = .ok (xs.flatMap F) g := compL_map F h xs hx
theorem ev_comp2_map {β γ : Type} {tg tg2 : Tg} {it it2 elt : E} {own own2 : List Nat} (xs : List β) (h : β → D) (ys : β → List γ) (h2 : γ → D) (F : β → γ → D) (ρ1 : β → Env) (ρ2 : β → γ → Env) (hi : evI c it ρ g = .ok (xs.map h) g)
    (hb : ∀ x ∈ xs, bindTg (wipeE ρ own) tg (h x) = some (ρ1 x)) (hj : ∀ x ∈ xs, evJ c it2 (ρ1 x) g = .ok ((ys x).map h2) g) (hb2 : ∀ x ∈ xs, ∀ y ∈ ys x, bindTg (wipeE (ρ1 x) own2) tg2 (h2 y) = some (ρ2 x y))
    (he : ∀ x ∈ xs, ∀ y ∈ ys x, ev c elt (ρ2 x y) g = .ok (F x y) g) (hl : (xs.flatMap fun x => (ys x).map (F x)).length ≤ sizeLine) : ev c (.comp2 tg it tg2 it2 own own2 elt) ρ g = .ok (.lst (xs.flatMap fun x => (ys x).map (F x))) g := by
  unfold ev
  rw [hi, R.bind_ok, compL_map (fun x => (ys x).map (F x)) h xs fun x hx => ?_]
  · unfold sized
    simp only
    rw [if_pos hl]
  · rw [hb x hx]
    simp only
    rw [hj x hx, R.bind_ok, compL_map (fun y => [F x y]) h2 (ys x) fun y hy => ?_]
    · rw [flatMap_one]
    · rw [hb2 x hx y hy]
      simp only
      rw [he x hx y hy, R.bind_ok]
theorem evI_rng1 {a : E} {n : Nat} (h : ev c a ρ g = .ok (.int n) g) (hn : n ≤ 1000000) : evI c (.irng1 a) ρ g = .ok ((List.range n).map fun (k : Nat) => D.int k) g := by
  have hf : fits (n : Int) = true := by unfold fits; exact decide_eq_true ⟨by omega, by omega⟩
  unfold evI
  rw [h, R.bind_ok]
  simp only
  rw [if_pos hf, Int.toNat_natCast]
  unfold rangeD
  simp
theorem evJ_rng1 {a : E} {n : Nat} (h : ev c a ρ g = .ok (.int n) g) (hn : n ≤ 1000000) : evJ c (.irng1 a) ρ g = .ok ((List.range n).map fun (k : Nat) => D.int k) g := by
  have hf : fits (n : Int) = true := by unfold fits; exact decide_eq_true ⟨by omega, by omega⟩
  unfold evJ
  rw [h, R.bind_ok]
  simp only
  rw [if_pos hf, Int.toNat_natCast]
  unfold rangeD
  simp
end
/-- the slot of a loop's name, behind n turns -/
def lv (f : Nat → D) : Nat → Option Cell
  | 0 => none
  | n + 1 => some (.val (f n))
theorem forS_rng {c : CallF} {i : Nat} {it : E} {body : List Mi.S} {g : Gs} {ρ0 : Env} (n : Nat) (ρs : Nat → Env) (h0 : ρ0 = ρs 0) (hi : evJ c it ρ0 g = .ok ((List.range n).map fun (k : Nat) => D.int k) g)
    (hb : ∀ j, j < n → exL c body ((ρs j).set i (some (.val (.int j)))) g = .nx (ρs (j + 1)) g) : exS c (.forS (.nm i) it body) ρ0 g = .nx (ρs n) g := by
  subst h0
  unfold exS
  rw [hi, R.st_ok]
  have := forL_go (step := fun x ρ g => match bindTg ρ (.nm i) x with
    | some ρ1 => exL c body ρ1 g
    | none => .no) ρs (fun _ => g) ((List.range n).map fun (k : Nat) => D.int k) 0 fun j hj => by
      have hj : j < n := by simpa using hj
      simp only [List.getElem_map, List.getElem_range, Nat.zero_add]
      exact hb j hj
  simp only [List.length_map, List.length_range, Nat.zero_add] at this
  exact this
/-- a loop that may draw -/
theorem forL_inv {step : D → Env → Gs → SR} (I : Nat → Env → Gs → Prop) : ∀ (xs : List D) (i : Nat) (ρ : Env) (g : Gs), I i ρ g → (∀ j, (h : j < xs.length) → ∀ ρ g, I (i + j) ρ g → ∃ ρ' g', step xs[j] ρ g = .nx ρ' g' ∧ I (i + j + 1) ρ' g') → ∃ ρ' g', forL step xs ρ g = .nx ρ' g' ∧ I (i + xs.length) ρ' g'
  | [], i, ρ, g, h0, h => ⟨ρ, g, rfl, h0⟩
  | x :: xs, i, ρ, g, h0, h => by
    obtain ⟨ρ1, g1, e1, h1⟩ := h 0 (Nat.zero_lt_succ _) ρ g h0
    obtain ⟨ρ2, g2, e2, h2⟩ := forL_inv I xs (i + 1) ρ1 g1 h1 fun j hj ρ g hI => by
      have := h (j + 1) (Nat.succ_lt_succ hj) ρ g (by rw [Nat.add_assoc i 1 j, Nat.add_comm 1 j] at hI; exact hI)
      rw [Nat.add_assoc i 1 j, Nat.add_comm 1 j]
      exact this
    refine ⟨ρ2, g2, ?_, ?_⟩
    · rw [forL_cons]
      have e1 : step x ρ g = .nx ρ1 g1 := e1
      rw [e1, SR.turn_nx, e2]
    · rw [List.length_cons, Nat.add_comm xs.length 1, ← Nat.add_assoc]
      exact h2
theorem forS_inv {c : CallF} {i : Nat} {it : E} {body : List Mi.S} {g : Gs} {ρ0 : Env} (n : Nat) (I : Nat → Env → Gs → Prop) (h0 : I 0 ρ0 g) (hi : evJ c it ρ0 g = .ok ((List.range n).map fun (k : Nat) => D.int k) g)
    (hb : ∀ j, j < n → ∀ ρ g, I j ρ g → ∃ ρ' g', exL c body (ρ.set i (some (.val (.int j)))) g = .nx ρ' g' ∧ I (j + 1) ρ' g') : ∃ ρ' g', exS c (.forS (.nm i) it body) ρ0 g = .nx ρ' g' ∧ I n ρ' g' := by
  unfold exS
  rw [hi, R.st_ok]
  obtain ⟨ρ', g', e, h⟩ := forL_inv (step := fun x ρ g => match bindTg ρ (.nm i) x with
    | some ρ1 => exL c body ρ1 g
    | none => .no) I ((List.range n).map fun (k : Nat) => D.int k) 0 ρ0 g h0 fun j hj ρ g hI => by
      have hj : j < n := by simpa using hj
      simp only [List.getElem_map, List.getElem_range, Nat.zero_add] at hI ⊢
      exact hb j hj ρ g hI
  simp only [List.length_map, List.length_range, Nat.zero_add] at h
  exact ⟨ρ', g', e, h⟩
theorem forS_bind {c : CallF} {i : Nat} {it : E} {body : List Mi.S} {g : Gs} {ρ0 : Env} {P : SR → Prop} (n : Nat) (I : Nat → Env → Gs → Prop) (h0 : I 0 ρ0 g) (hi : evJ c it ρ0 g = .ok ((List.range n).map fun (k : Nat) => D.int k) g)
    (hb : ∀ j, j < n → ∀ ρ g, I j ρ g → ∃ ρ' g', exL c body (ρ.set i (some (.val (.int j)))) g = .nx ρ' g' ∧ I (j + 1) ρ' g') (hk : ∀ ρ' g', I n ρ' g' → P (.nx ρ' g')) : P (exS c (.forS (.nm i) it body) ρ0 g) := by
  obtain ⟨ρ', g', e, h⟩ := forS_inv n I h0 hi hb
  rw [e]
  exact hk ρ' g' h
/-- over the items of a list or tuple -/
theorem forS_seq {c : CallF} {i : Nat} {it : E} {body : List Mi.S} {g : Gs} {ρ0 : Env} (xs : List D) (ρs : Nat → Env) (h0 : ρ0 = ρs 0) (hi : evJ c it ρ0 g = .ok xs g)
    (hb : ∀ j, (h : j < xs.length) → exL c body ((ρs j).set i (some (.val xs[j]))) g = .nx (ρs (j + 1)) g) : exS c (.forS (.nm i) it body) ρ0 g = .nx (ρs xs.length) g := by
  subst h0
  unfold exS
  rw [hi, R.st_ok]
  have := forL_go (step := fun x ρ g => match bindTg ρ (.nm i) x with
    | some ρ1 => exL c body ρ1 g
    | none => .no) ρs (fun _ => g) xs 0 fun j hj => by
      simp only [Nat.zero_add]
      exact hb j hj
  simp only [Nat.zero_add] at this
  exact this
theorem whlL_go {fz : List Nat} {test : Env → Gs → R D} {body : Env → Gs → SR} {g : Gs} (ρs : Nat → Env) (n : Nat) (hf : ∀ j, j ≤ n → freeze (ρs j) fz = ρs j) (ht : ∀ j, j < n → test (ρs j) g = .ok (.bl true) g) (hb : ∀ j, j < n → body (ρs j) g = .nx (ρs (j + 1)) g)
    (he : test (ρs n) g = .ok (.bl false) g) : ∀ (m i : Nat), i ≤ n → n < i + m → whlL fz test body m (ρs i) g = .nx (ρs n) g
  | 0, i, h1, h2 => by omega
  | m + 1, i, h1, h2 => by
    rw [whlL, hf i h1]
    by_cases h : i = n
    · subst h
      rw [he]
      rfl
    · have hi : i < n := by omega
      rw [ht i hi]
      show (body (ρs i) g).turn _ = _
      rw [hb i hi, SR.turn_nx]
      exact whlL_go ρs n hf ht hb he m (i + 1) hi (by omega)
theorem exS_whl {c : CallF} {fz : List Nat} {t : E} {body : List Mi.S} {g : Gs} {ρ0 : Env} (n : Nat) (ρs : Nat → Env) (h0 : ρ0 = ρs 0) (hn : n < 1000000) (hf : ∀ j, j ≤ n → freeze (ρs j) fz = ρs j)
    (ht : ∀ j, j < n → brw t (ρs j) g (ev c t (ρs j) g) = .ok (.bl true) g) (hb : ∀ j, j < n → exL c body (ρs j) g = .nx (ρs (j + 1)) g) (he : brw t (ρs n) g (ev c t (ρs n) g) = .ok (.bl false) g) : exS c (.whl fz t body) ρ0 g = .nx (ρs n) g := by
  subst h0
  rw [exS]
  exact whlL_go ρs n hf ht hb he turns 0 (Nat.zero_le _) (by unfold turns; omega)
@[simp] theorem opD_add {a b : Int} : opD .add (.int a) (.int b) = some (.int (a + b)) := (rfl)
@[simp] theorem opD_sub {a b : Int} : opD .sub (.int a) (.int b) = some (.int (a - b)) := (rfl)
@[simp] theorem opD_addT {a b : List D} (h : a.length + b.length ≤ sizeLine) : opD .add (.tup a) (.tup b) = some (.tup (a ++ b)) := if_pos h
@[simp] theorem opD_addL {a b : List D} (h : a.length + b.length ≤ sizeLine) : opD .add (.lst a) (.lst b) = some (.lst (a ++ b)) := if_pos h
theorem log2_lt {b : Int} (h : 0 < b) (h2 : b < 2 ^ 64) : b.natAbs.log2 < 9000 := by
  have h3 : b.natAbs ≠ 0 := by omega
  have h4 : b.natAbs < 2 ^ 64 := by omega
  exact Nat.lt_trans ((Nat.log2_lt h3).mpr h4) (by decide)
@[simp] theorem opD_fdiv {a b : Int} (h : 0 < b) (h2 : b < 18446744073709551616) : opD .fdiv (.int a) (.int b) = some (.int (a / b)) := if_pos ⟨h, log2_lt h h2⟩
@[simp] theorem opD_mod {a b : Int} (h : 0 < b) : opD .mod (.int a) (.int b) = some (.int (a % b)) := if_pos h
@[simp] theorem opD_mulL {a b : Int} (h : smallI a = true) : opD .mul (.int a) (.int b) = some (.int (a * b)) := if_pos (by rw [h]; rfl)
@[simp] theorem opD_mulR {a b : Int} (h : smallI b = true) : opD .mul (.int a) (.int b) = some (.int (a * b)) := if_pos (by rw [h, Bool.or_true])
theorem opD_pow {a b : Int} (h : 0 ≤ b) (h2 : b ≤ 1000000) (h3 : a.natAbs < 2 ^ 64) : opD .pow (.int a) (.int b) = some (.int (a ^ b.toNat)) := if_pos ⟨h, h2, h3⟩
@[simp] theorem opD_mulT {a : List D} {k : Int} (h0 : a ≠ []) (h : 0 ≤ k) (h2 : k ≤ 1000) (h3 : a.length ≤ 1000) : opD .mul (.tup a) (.int k) = some (.tup (List.replicate k.toNat a).flatten) := if_pos ⟨h0, h, h2, h3⟩
@[simp] theorem cmpD_eqI {a b : Int} : cmpD .eq (.int a) (.int b) = some (a == b) := (rfl)
@[simp] theorem cmpD_neI {a b : Int} : cmpD .ne (.int a) (.int b) = some (!(a == b)) := (rfl)
@[simp] theorem cmpD_lt {a b : Int} : cmpD .lt (.int a) (.int b) = some (decide (a < b)) := (rfl)
@[simp] theorem cmpD_le {a b : Int} : cmpD .le (.int a) (.int b) = some (decide (a ≤ b)) := (rfl)
@[simp] theorem cmpD_gt {a b : Int} : cmpD .gt (.int a) (.int b) = some (decide (b < a)) := (rfl)
@[simp] theorem cmpD_ge {a b : Int} : cmpD .ge (.int a) (.int b) = some (decide (b ≤ a)) := (rfl)
@[simp] theorem cmpD_eqS {a b : Str} : cmpD .eq (.str a) (.str b) = some (a == b) := (rfl)
@[simp] theorem cmpD_isN {d : D} : cmpD .isN d .non = some (isNon d) := by cases d <;> rfl
@[simp] theorem cmpD_notN {d : D} : cmpD .notN d .non = some (!isNon d) := by cases d <;> rfl
section
variable {g : Gs}
@[simp] theorem bi_lenT {xs : List D} : biG g .len [.tup xs] = some (.int xs.length) := (rfl)
@[simp] theorem bi_lenL {xs : List D} : biG g .len [.lst xs] = some (.int xs.length) := (rfl)
@[simp] theorem bi_lenS {xs : List Int} : biG g .len [.scr xs] = some (.int xs.length) := (rfl)
@[simp] theorem bi_lenG {i : Nat} {l : List Int} (h : g.ls[i]? = some l) : biG g .len [.sub i] = some (.int l.length) := by
  have e : biS g .len [.sub i] = some (.int l.length) := by unfold biS; simp only [h]
  unfold biG; rw [e]
@[simp] theorem bi_tupT {xs : List D} : biG g .tuple [.tup xs] = some (.tup xs) := (rfl)
@[simp] theorem bi_tupL {xs : List D} : biG g .tuple [.lst xs] = some (.tup xs) := (rfl)
@[simp] theorem bi_lstT {xs : List D} : biG g .list [.tup xs] = some (.lst xs) := (rfl)
@[simp] theorem bi_lstL {xs : List D} : biG g .list [.lst xs] = some (.lst xs) := (rfl)
@[simp] theorem bi_int {i : Int} : biG g .int [.int i] = some (.int i) := (rfl)
@[simp] theorem bi_intB {b : Bool} : biG g .int [.bl b] = some (.int (if b then 1 else 0)) := (rfl)
theorem bi_sum {xs : List D} {ns : List Int} (h : intsD xs = some ns) : biG g .sum [.lst xs] = some (.int ns.sum) := by show (intsD xs).map _ = _; rw [h]; rfl
theorem bi_all {xs : List D} {ns : List Bool} (h : blsD xs = some ns) : biG g .all [.lst xs] = some (.bl (ns.all id)) := by show (blsD xs).map _ = _; rw [h]; rfl
theorem bi_any {xs : List D} {ns : List Bool} (h : blsD xs = some ns) : biG g .any [.lst xs] = some (.bl (ns.any id)) := by show (blsD xs).map _ = _; rw [h]; rfl
@[simp] theorem bi_min {i j : Int} : biG g .min2 [.int i, .int j] = some (.int (if j < i then j else i)) := (rfl)
@[simp] theorem bi_max {i j : Int} : biG g .max2 [.int i, .int j] = some (.int (if j > i then j else i)) := (rfl)
theorem atI_nat {α : Type} (xs : List α) (i : Nat) : atI xs (i : Int) = xs[i]? := by
  unfold atI ixN
  by_cases h : i < xs.length
  · rw [if_pos (by omega), if_pos (by omega)]
    show xs[(i : Int).toNat]? = xs[i]?
    rw [Int.toNat_natCast]
  · rw [if_pos (by omega), if_neg (by omega), List.getElem?_eq_none (by omega)]
    rfl
@[simp] theorem ix_T {xs : List D} {i : Int} : ixG g (.tup xs) (.int i) = atI xs i := (rfl)
@[simp] theorem ix_L {xs : List D} {i : Int} : ixG g (.lst xs) (.int i) = atI xs i := (rfl)
@[simp] theorem atI_0 {α : Type} {x : α} {xs : List α} : atI (x :: xs) 0 = some x := atI_nat (x :: xs) 0
@[simp] theorem atI_1 {α : Type} {x y : α} {xs : List α} : atI (x :: y :: xs) 1 = some y := atI_nat (x :: y :: xs) 1
@[simp] theorem isi_tup {xs : List D} {ts : List Ty} : isiD (.tup xs) ts = some (ts.any fun u => tyOk .tuple u) := (rfl)
@[simp] theorem isi_lst {xs : List D} {ts : List Ty} : isiD (.lst xs) ts = some (ts.any fun u => tyOk .list u) := (rfl)
@[simp] theorem isi_int {i : Int} {ts : List Ty} : isiD (.int i) ts = some (ts.any fun u => tyOk .int u) := (rfl)
@[simp] theorem isi_bl {i : Bool} {ts : List Ty} : isiD (.bl i) ts = some (ts.any fun u => tyOk .bool u) := (rfl)
@[simp] theorem isi_str {i : Str} {ts : List Ty} : isiD (.str i) ts = some (ts.any fun u => tyOk .str u) := (rfl)
@[simp] theorem isi_non {ts : List Ty} : isiD .non ts = some false := (rfl)
end
@[simp] theorem fr_nm {i : Nat} : isFr (.nm i) = false := (rfl)
@[simp] theorem fr_lit {d : D} : isFr (.lit d) = false := (rfl)
@[simp] theorem fr_tup {es : List E} : isFr (.tup es) = false := (rfl)
@[simp] theorem fr_lst {es : List E} : isFr (.lst es) = true := (rfl)
@[simp] theorem fr_op_add {a b : E} : isFr (.op .add a b) = true := (rfl)
@[simp] theorem fr_op_sub {a b : E} : isFr (.op .sub a b) = false := (rfl)
@[simp] theorem fr_op_mul {a b : E} : isFr (.op .mul a b) = true := (rfl)
@[simp] theorem fr_op_fdiv {a b : E} : isFr (.op .fdiv a b) = false := (rfl)
@[simp] theorem fr_op_mod {a b : E} : isFr (.op .mod a b) = false := (rfl)
@[simp] theorem fr_op_pow {a b : E} : isFr (.op .pow a b) = false := (rfl)
@[simp] theorem fr_op_shl {a b : E} : isFr (.op .shl a b) = false := (rfl)
@[simp] theorem fr_op_shr {a b : E} : isFr (.op .shr a b) = false := (rfl)
@[simp] theorem fr_op_band {a b : E} : isFr (.op .band a b) = false := (rfl)
@[simp] theorem fr_op_bor {a b : E} : isFr (.op .bor a b) = false := (rfl)
@[simp] theorem fr_op_bxor {a b : E} : isFr (.op .bxor a b) = false := (rfl)
@[simp] theorem fr_neg {a : E} : isFr (.neg a) = false := (rfl)
@[simp] theorem fr_cmp {o : Cm} {a b : E} : isFr (.cmp o a b) = false := (rfl)
@[simp] theorem fr_chain {o o' : Cm} {a b c : E} : isFr (.chain o o' a b c) = false := (rfl)
@[simp] theorem fr_and {a b : E} : isFr (.and a b) = false := (rfl)
@[simp] theorem fr_or {a b : E} : isFr (.or a b) = false := (rfl)
@[simp] theorem fr_not {a : E} : isFr (.not a) = false := (rfl)
@[simp] theorem fr_tand {a b : E} : isFr (.tand a b) = false := (rfl)
@[simp] theorem fr_tor {a b : E} : isFr (.tor a b) = false := (rfl)
@[simp] theorem fr_tnot {a : E} : isFr (.tnot a) = false := (rfl)
@[simp] theorem fr_ite {t a b : E} : isFr (.ite t a b) = false := (rfl)
@[simp] theorem fr_ix {a b : E} : isFr (.ix a b) = false := (rfl)
@[simp] theorem fr_sl {a lo hi : E} : isFr (.sl a lo hi) = true := (rfl)
@[simp] theorem fr_rev {a : E} : isFr (.rev a) = true := (rfl)
@[simp] theorem fr_part {a : E} : isFr (.part a) = false := (rfl)
@[simp] theorem fr_pop {a : E} : isFr (.pop a) = false := (rfl)
@[simp] theorem fr_call {f : Nat} {es : List E} : isFr (.call f es) = false := (rfl)
@[simp] theorem fr_bi_len {es : List E} : isFr (.bi .len es) = false := (rfl)
@[simp] theorem fr_bi_tuple {es : List E} : isFr (.bi .tuple es) = false := (rfl)
@[simp] theorem fr_bi_list {es : List E} : isFr (.bi .list es) = true := (rfl)
@[simp] theorem fr_bi_int {es : List E} : isFr (.bi .int es) = false := (rfl)
@[simp] theorem fr_bi_sum {es : List E} : isFr (.bi .sum es) = false := (rfl)
@[simp] theorem fr_bi_all {es : List E} : isFr (.bi .all es) = false := (rfl)
@[simp] theorem fr_bi_any {es : List E} : isFr (.bi .any es) = false := (rfl)
@[simp] theorem fr_bi_max2 {es : List E} : isFr (.bi .max2 es) = false := (rfl)
@[simp] theorem fr_bi_min2 {es : List E} : isFr (.bi .min2 es) = false := (rfl)
@[simp] theorem fr_bi_abs {es : List E} : isFr (.bi .abs es) = false := (rfl)
@[simp] theorem fr_isi {a : E} {ts : List Ty} {tp : Bool} : isFr (.isi a ts tp) = false := (rfl)
@[simp] theorem fr_comp {tg : Tg} {it c : E} {ow : List Nat} {e : E} : isFr (.comp tg it c ow e) = true := (rfl)
@[simp] theorem fr_comp2 {tg : Tg} {it : E} {tg2 : Tg} {it2 : E} {ow ow2 : List Nat} {e : E} : isFr (.comp2 tg it tg2 it2 ow ow2 e) = true := (rfl)
@[simp] theorem ty_int_int : tyOk .int .int = true := (rfl)
@[simp] theorem ty_int_bool : tyOk .int .bool = false := (rfl)
@[simp] theorem ty_int_str : tyOk .int .str = false := (rfl)
@[simp] theorem ty_int_list : tyOk .int .list = false := (rfl)
@[simp] theorem ty_int_tuple : tyOk .int .tuple = false := (rfl)
@[simp] theorem ty_bool_int : tyOk .bool .int = true := (rfl)
@[simp] theorem ty_bool_bool : tyOk .bool .bool = true := (rfl)
@[simp] theorem ty_bool_str : tyOk .bool .str = false := (rfl)
@[simp] theorem ty_bool_list : tyOk .bool .list = false := (rfl)
@[simp] theorem ty_bool_tuple : tyOk .bool .tuple = false := (rfl)
@[simp] theorem ty_str_int : tyOk .str .int = false := (rfl)
@[simp] theorem ty_str_bool : tyOk .str .bool = false := (rfl)
@[simp] theorem ty_str_str : tyOk .str .str = true := (rfl)
@[simp] theorem ty_str_list : tyOk .str .list = false := (rfl)
@[simp] theorem ty_str_tuple : tyOk .str .tuple = false := (rfl)
@[simp] theorem ty_list_int : tyOk .list .int = false := (rfl)
@[simp] theorem ty_list_bool : tyOk .list .bool = false := (rfl)
@[simp] theorem ty_list_str : tyOk .list .str = false := (rfl)
@[simp] theorem ty_list_list : tyOk .list .list = true := (rfl)
@[simp] theorem ty_list_tuple : tyOk .list .tuple = false := (rfl)
@[simp] theorem ty_tuple_int : tyOk .tuple .int = false := (rfl)
@[simp] theorem ty_tuple_bool : tyOk .tuple .bool = false := (rfl)
@[simp] theorem ty_tuple_str : tyOk .tuple .str = false := (rfl)
@[simp] theorem ty_tuple_list : tyOk .tuple .list = false := (rfl)
@[simp] theorem ty_tuple_tuple : tyOk .tuple .tuple = true := (rfl)
@[simp] theorem mk_f {d : D} : mkCell false d = .val d := by cases d <;> rfl
@[simp] theorem mk_lst {ds : List D} : mkCell true (.lst ds) = .own ds := (rfl)
@[simp] theorem mk_int {i : Int} : mkCell true (.int i) = .val (.int i) := (rfl)
@[simp] theorem mk_tup {ds : List D} : mkCell true (.tup ds) = .val (.tup ds) := (rfl)
@[simp] theorem mk_str {x : Str} : mkCell true (.str x) = .val (.str x) := (rfl)
@[simp] theorem mk_non : mkCell true .non = .val .non := (rfl)
@[simp] theorem mk_bl {b : Bool} : mkCell true (.bl b) = .val (.bl b) := (rfl)
@[simp] theorem envOf_eq {ds : List D} {n : Nat} : envOf ds n = ds.map (fun d => some (.val d)) ++ List.replicate (n - ds.length) none := (rfl)
@[simp] theorem bind_nm {ρ : Env} {i : Nat} {d : D} : bindTg ρ (.nm i) d = some (ρ.set i (some (.val d))) := (rfl)
@[simp] theorem bind_tup {ρ : Env} {is : List Nat} {ds : List D} : bindTg ρ (.tup is) (.tup ds) = if ds.length = is.length then some (setAll ρ is ds) else none := (rfl)
@[simp] theorem setAll_cons {ρ : Env} {i : Nat} {is : List Nat} {d : D} {ds : List D} : setAll ρ (i :: is) (d :: ds) = setAll (ρ.set i (some (.val d))) is ds := (rfl)
@[simp] theorem setAll_nil {ρ : Env} {ds : List D} : setAll ρ [] ds = ρ := (rfl)
@[simp] theorem wipe_nil {ρ : Env} : wipeE ρ [] = ρ := (rfl)
@[simp] theorem wipe_cons {ρ : Env} {v : Nat} {vs : List Nat} : wipeE ρ (v :: vs) = (wipeE ρ vs).set v none := (rfl)
theorem cutD_take {α : Type} (xs : List α) (n : Nat) : cutD xs none (some (n : Int)) = xs.take n := by
  unfold cutD
  rw [HT.sIx_nat, HT.sIx_none, Nat.sub_zero, List.drop_zero]
  by_cases h : n ≤ xs.length
  · rw [Nat.min_eq_left h]
  · rw [Nat.min_eq_right (by omega), List.take_length, List.take_of_length_le (by omega)]
theorem cutD_takeI {α : Type} (xs : List α) (n : Int) (h : 0 ≤ n) : cutD xs none (some n) = xs.take n.toNat := by
  have := cutD_take xs n.toNat
  rwa [Int.toNat_of_nonneg h] at this
/-- one of several -/
theorem pick {xs : List D} {w : Int} (h0 : 0 ≤ w) (h1 : w < (xs.length : Int)) (P : D → Prop) (h : ∀ x ∈ xs, P x) : ∃ d, atI xs w = some d ∧ P d := by
  obtain ⟨n, rfl⟩ := Int.eq_ofNat_of_zero_le h0
  have h4 : n < xs.length := by omega
  exact ⟨xs[n], by rw [Mi.Pl.atI_nat, List.getElem?_eq_getElem h4], h _ (List.getElem_mem h4)⟩
theorem compL_st {f : D → Gs → R (List D)} (I : Gs → Prop) (P : D → Prop) : ∀ (xs : List D) (g : Gs), I g → (∀ x ∈ xs, ∀ g, I g → ∃ d g', f x g = .ok [d] g' ∧ P d ∧ I g') → ∃ ds g', compL f xs g = .ok ds g' ∧ ds.length = xs.length ∧ (∀ d ∈ ds, P d) ∧ I g'
  | [], g, h0, _ => ⟨[], g, rfl, rfl, by simp, h0⟩
  | x :: xs, g, h0, h => by
    obtain ⟨d, g1, e1, p1, i1⟩ := h x List.mem_cons_self g h0
    obtain ⟨ds, g2, e2, l2, p2, i2⟩ := compL_st I P xs g1 i1 fun y hy => h y (List.mem_cons_of_mem _ hy)
    refine ⟨d :: ds, g2, ?_, by simp [l2], ?_, i2⟩
    · unfold compL
      rw [e1]
      simp only
      rw [e2]
      rfl
    · intro y hy
      rcases List.mem_cons.mp hy with e | e
      · exact e ▸ p1
      · exact p2 y e
theorem ev_comp_st {c : CallF} {ρ : Env} {g : Gs} {tg : Tg} {it elt : E} {own : List Nat} (I : Gs → Prop) (P : D → Prop) (xs : List D) (ρ1 : D → Env) (h0 : I g) (hi : evI c it ρ g = .ok xs g) (hb : ∀ x ∈ xs, bindTg (wipeE ρ own) tg x = some (ρ1 x))
    (he : ∀ x ∈ xs, ∀ g, I g → ∃ d g', ev c elt (ρ1 x) g = .ok d g' ∧ P d ∧ I g') (hl : xs.length ≤ sizeLine) : ∃ ds g', ev c (.comp tg it (.lit (.bl true)) own elt) ρ g = .ok (.lst ds) g' ∧ ds.length = xs.length ∧ (∀ d ∈ ds, P d) ∧ I g' := by
  unfold ev
  rw [hi, R.bind_ok]
  obtain ⟨ds, g', e, l, p, i⟩ := compL_st (f := fun x g => match bindTg (wipeE ρ own) tg x with
      | some ρ1 => (brw (.lit (.bl true)) ρ1 g (ev c (.lit (.bl true)) ρ1 g)).bind fun k g => oneOrNone (truthG g k) (ev c elt ρ1 g) g
      | none => .no) I P xs g h0 fun x hx g hg => by
    obtain ⟨d, g', e, p, i⟩ := he x hx g hg
    refine ⟨d, g', ?_, p, i⟩
    rw [hb x hx]
    simp only
    have e1 : brw (.lit (.bl true)) (ρ1 x) g (ev c (.lit (.bl true)) (ρ1 x) g) = .ok (.bl true) g := by unfold ev; rfl
    rw [e1, R.bind_ok, e]
    rfl
  refine ⟨ds, g', (congrArg sized e).trans ?_, l, p, i⟩
  unfold sized
  simp only
  rw [if_pos (by rw [l]; exact hl)]
theorem fits_of {i : Int} (h1 : -(2 ^ 62) ≤ i) (h2 : i < 2 ^ 62) : fits i = true := by unfold fits; exact decide_eq_true ⟨h1, h2⟩
theorem fits_nat {n : Nat} (h : n < 2 ^ 62) : fits (n : Int) = true := fits_of (by omega) (by omega)
theorem smallI_of {i : Int} (h1 : -(2 ^ 64) < i) (h2 : i < 2 ^ 64) : smallI i = true := by unfold smallI; exact decide_eq_true ⟨h1, h2⟩
end Mi.Pl


set_option Elab.async false
set_option maxRecDepth 10000
/-! Mi19: lemmas for plain work: errors raised and caught. -/
namespace Mi.Pl
open PySem L2 Mi
section
variable {c : CallF} {ρ : Mi.Env} {g : Gs}
@[simp] theorem exS_raise {k : Nat} {es : List E} : exS c (.raise k es) ρ g = (evL c es ρ g).st ρ fun ds g => if ds.length = (exFs k).length then .ex ⟨k, ds⟩ ρ g else .no := by rw [exS]
@[simp] theorem exS_tryX {b h : List Mi.S} {k i : Nat} : exS c (.tryX b k i h) ρ g = (exL c b ρ g).caught k fun e ρ g => (exL c h (ρ.set i (some (.val (.exn e.cls e.fs)))) g).out i := by rw [exS]
theorem bi_str {i : Int} (h : smallI i = true) : biG g .str [.int i] = some (.str (strI i)) := by
  show (if smallI i = true then some (D.str (strI i)) else none) = _
  rw [if_pos h]
theorem cutD_drop {α : Type} (xs : List α) (n : Nat) : cutD xs (some (n : Int)) none = xs.drop n := by
  unfold cutD
  rw [HT.sIx_nat, HT.sIx_none]
  by_cases h : n ≤ xs.length
  · rw [Nat.min_eq_left h]
    exact List.take_of_length_le (by rw [List.length_drop]; omega)
  · rw [Nat.min_eq_right (by omega), List.drop_length, List.drop_of_length_le (by omega), List.take_nil]
theorem try_ex {b h : List Mi.S} {k i : Nat} {e : Exn} {ρ1 : Mi.Env} {g1 : Gs} {r : SR} (hb : exL c b ρ g = .ex e ρ1 g1) (hs : isSub e.cls k = true) (hh : (exL c h (ρ1.set i (some (.val (.exn e.cls e.fs)))) g1).out i = r) : exS c (.tryX b k i h) ρ g = r := by
  rw [exS, hb, SR.caught_ex, if_pos hs, hh]
@[simp] theorem ev_isx {a : E} {k : Nat} : ev c (.isx a k) ρ g = (ev c a ρ g).bind fun x g => (R.of (isxD x k) g).bind fun b g => .ok (.bl b) g := by rw [ev]
@[simp] theorem ev_fld {a : E} {f : Str} : ev c (.fld a f) ρ g = (ev c a ρ g).bind fun x g => R.of (fldD x f) g := by rw [ev]
@[simp] theorem ev_lend {l : List Nat} {e : E} : ev c (.lend l e) ρ g = lent (ev c e (freeze ρ l) g) := by rw [ev]
@[simp] theorem brw_isx {a : E} {k : Nat} {r : R D} : brw (.isx a k) ρ g r = r := (rfl)
@[simp] theorem brw_fld {a : E} {f : Str} {r : R D} : brw (.fld a f) ρ g r = r := (rfl)
@[simp] theorem brw_lend {l : List Nat} {e : E} {r : R D} : brw (.lend l e) ρ g r = r := (rfl)
@[simp] theorem fr_isx {a : E} {k : Nat} : isFr (.isx a k) = false := (rfl)
@[simp] theorem fr_fld {a : E} {f : Str} : isFr (.fld a f) = false := (rfl)
@[simp] theorem fr_lend {l : List Nat} {e : E} : isFr (.lend l e) = false := (rfl)
@[simp] theorem isx_exn {c k : Nat} {fs : List D} : isxD (.exn c fs) k = some (isSub c k) := (rfl)
@[simp] theorem fld_exn {c : Nat} {fs : List D} {f : Str} : fldD (.exn c fs) f = ((exFs c).zip fs).lookup f := (rfl)
theorem lent_ok {d : D} (h : d.fast = true) : lent (.ok d g) = .ok d g := by
  show (if d.fast = true then R.ok d g else .no) = _
  rw [if_pos h]
@[simp] theorem fsl0 : exFs 0 = (["shape"] : List Str) := (rfl)
@[simp] theorem fsl1 : exFs 1 = (["packet"] : List Str) := (rfl)
@[simp] theorem fsl2 : exFs 2 = (["number"] : List Str) := (rfl)
@[simp] theorem fsl3 : exFs 3 = (["value"] : List Str) := (rfl)
@[simp] theorem fsl4 : exFs 4 = (["place"] : List Str) := (rfl)
@[simp] theorem fsl5 : exFs 5 = (["place"] : List Str) := (rfl)
@[simp] theorem fsl6 : exFs 6 = (["place"] : List Str) := (rfl)
@[simp] theorem fsl7 : exFs 7 = (["place"] : List Str) := (rfl)
@[simp] theorem fsl8 : exFs 8 = (["place"] : List Str) := (rfl)
@[simp] theorem fsl9 : exFs 9 = (["what"] : List Str) := (rfl)
@[simp] theorem fsl10 : exFs 10 = (["what"] : List Str) := (rfl)
@[simp] theorem fsl11 : exFs 11 = (["what"] : List Str) := (rfl)
@[simp] theorem fsl12 : exFs 12 = (["what", "packet"] : List Str) := (rfl)
end
end Mi.Pl
namespace Mi.Pl
open PySem L2 Mi
/-- over the items, whatever is drawn -/
theorem forS_items {c : CallF} {i : Nat} {it : E} {body : List Mi.S} {g g1 : Gs} {ρ0 : Mi.Env} (xs : List D) (I : Nat → Mi.Env → Gs → Prop) (h0 : I 0 ρ0 g1) (hi : evJ c it ρ0 g = .ok xs g1)
    (hb : ∀ j, (h : j < xs.length) → ∀ ρ g, I j ρ g → ∃ ρ' g', exL c body (ρ.set i (some (.val xs[j]))) g = .nx ρ' g' ∧ I (j + 1) ρ' g') : ∃ ρ' g', exS c (.forS (.nm i) it body) ρ0 g = .nx ρ' g' ∧ I xs.length ρ' g' := by
  unfold exS
  rw [hi, R.st_ok]
  obtain ⟨ρ', g', e, h⟩ := forL_inv (step := fun x ρ g => match bindTg ρ (.nm i) x with
    | some ρ1 => exL c body ρ1 g
    | none => .no) I xs 0 ρ0 g1 h0 fun j hj ρ g hI => by
      simp only [Nat.zero_add] at hI ⊢
      exact hb j hj ρ g hI
  rw [Nat.zero_add] at h
  exact ⟨ρ', g', e, h⟩
end Mi.Pl
namespace Mi.Pl
open PySem L2 Mi
theorem exL_app {c : CallF} : ∀ {a b : List Mi.S} {ρ : Mi.Env} {g : Gs}, exL c (a ++ b) ρ g = (exL c a ρ g).seq fun ρ g => exL c b ρ g
  | [], b, ρ, g => by rw [List.nil_append, exL_nil, SR.seq_nx]
  | s :: a, b, ρ, g => by
    rw [List.cons_append, exL_cons, exL_cons]
    cases exS c s ρ g with
    | nx ρ1 g1 => rw [SR.seq_nx, SR.seq_nx, exL_app]
    | _ => rfl
/-- the first n rows, then the rest -/
theorem exL_split {c : CallF} {l : List Mi.S} (n : Nat) {ρ ρ1 : Mi.Env} {g g1 : Gs} (h : exL c (l.take n) ρ g = .nx ρ1 g1) : exL c l ρ g = exL c (l.drop n) ρ1 g1 := by
  have e := exL_app (c := c) (a := l.take n) (b := l.drop n) (ρ := ρ) (g := g)
  rw [List.take_append_drop, h, SR.seq_nx] at e
  exact e
end Mi.Pl


set_option Elab.async false
set_option maxRecDepth 10000
/-! Mi21: lemmas for plain work: dicts, texts, zip, enumerate, changes within. -/
namespace Mi.Pl
open PySem L2 Mi
section
variable {c : CallF} {ρ : Mi.Env} {g : Gs}
@[simp] theorem ev_dget {kvs : List (Str × Str)} {a : E} : ev c (.dget kvs a) ρ g = (ev c a ρ g).bind fun x g => match x with
    | .str z => R.of ((kvs.lookup z).map .str) g
    | _ => .no := by rw [ev] <;> rfl
@[simp] theorem ev_dmem {b : Bool} {kvs : List (Str × Str)} {a : E} : ev c (.dmem b kvs a) ρ g = (ev c a ρ g).bind fun x g => match x with
    | .str z => .ok (.bl (b != (kvs.lookup z).isSome)) g
    | _ => .no := by rw [ev] <;> rfl
@[simp] theorem ev_upper {a : E} : ev c (.upper a) ρ g = (ev c a ρ g).bind fun x g => match x with
    | .str z => if z.length ≤ 5592405 then .ok (.str (Txt.upper z)) g else .no
    | _ => .no := by rw [ev] <;> rfl
@[simp] theorem ev_sset {a : E} : ev c (.sset a) ρ g = (ev c a ρ g).bind fun x g => match x with
    | .lst xs => match intsD xs with
      | some ns => if ns.length < 4000 ∧ (ssetI ns).length < 64 then .ok (.lst ((ssetI ns).map .int)) g else .no
      | none => .no
    | _ => .no := by rw [ev] <;> rfl
@[simp] theorem ev_join {a e : E} : ev c (.join a e) ρ g = (ev c a ρ g).bind fun x g => match x with
    | .str s => (ev c e ρ g).bind fun y g => match y with
      | .lst xs => match strsD xs with
        | some ys => if (ys.map (·.length)).sum + ys.length * s.length ≤ 16777216 then .ok (.str (Txt.join s ys)) g else .no
        | none => .no
      | _ => .no
    | _ => .no := by rw [ev] <;> rfl
@[simp] theorem evI_zip {a b : E} : evI c (.izip a b) ρ g = (ev c a ρ g).bind fun x g => (ev c b ρ g).bind fun y g => match itemsZ x, itemsZ y with
    | some xs, some ys => .ok (zipD xs ys) g
    | _, _ => .no := by rw [evI] <;> rfl
@[simp] theorem evJ_zip {a b : E} : evJ c (.izip a b) ρ g = (ev c a ρ g).bind fun x g => (ev c b ρ g).bind fun y g => match itemsZ x, itemsZ y with
    | some xs, some ys => .ok (zipD xs ys) g
    | _, _ => .no := by rw [evJ] <;> rfl
@[simp] theorem evI_enum {a : E} : evI c (.ienum a) ρ g = (ev c a ρ g).bind fun x g => match itemsZ x with
    | some xs => .ok (enumD xs) g
    | none => .no := by rw [evI] <;> rfl
@[simp] theorem evJ_enum {a : E} : evJ c (.ienum a) ρ g = (ev c a ρ g).bind fun x g => match itemsZ x with
    | some xs => .ok (enumD xs) g
    | none => .no := by rw [evJ] <;> rfl
@[simp] theorem exS_ext {i : Nat} {e : E} : exS c (.ext i e) ρ g = match ρ.get i with
    | some (.own ds) => (ev c e ρ g).st ρ fun y g => match y with
      | .lst es => if ds.length + es.length ≤ sizeLine then .nx (ρ.set i (some (.own (ds ++ es)))) g else .no
      | _ => .no
    | _ => .no := by rw [exS] <;> rfl
@[simp] theorem exS_setix2 {i : Nat} {a k e : E} : exS c (.setix2 i a k e) ρ g = (ev c e ρ g).st ρ fun y g => match ρ.get i with
    | some (.own ds) => (ev c a ρ g).st ρ fun z g => match at2 ds z with
      | some _ => (ev c k ρ g).st ρ fun u g => match set2 ds z u y with
        | some ds => if othersFast ρ i = true then .nx (ρ.set i (some (.own ds))) g else .no
        | none => .no
      | none => .no
    | _ => .no := by rw [exS] <;> rfl
@[simp] theorem exS_popT {is : List Nat} {i : Nat} : exS c (.popT is i) ρ g = match ρ.get i with
    | some (.own ds) => match ds.getLast? with
      | some d => match bindTg (ρ.set i (some (.own ds.dropLast))) (.tup is) d with
        | some ρ1 => .nx ρ1 g
        | none => .no
      | none => .no
    | _ => .no := by rw [exS] <;> rfl
@[simp] theorem bi_max3 {i j k : Int} : biG g .max3 [.int i, .int j, .int k] = some (.int (if k > (if j > i then j else i) then k else (if j > i then j else i))) := (rfl)
@[simp] theorem bi_maxL {xs : List D} : biG g .maxL [.lst xs] = (intsD xs).bind fun ns => (maxI ns).map .int := (rfl)
@[simp] theorem bi_minL {xs : List D} : biG g .minL [.lst xs] = (intsD xs).bind fun ns => (minI ns).map .int := (rfl)
@[simp] theorem fr_bi_max3 {es : List E} : isFr (.bi .max3 es) = false := (rfl)
@[simp] theorem fr_bi_maxL {es : List E} : isFr (.bi .maxL es) = false := (rfl)
@[simp] theorem fr_bi_minL {es : List E} : isFr (.bi .minL es) = false := (rfl)
@[simp] theorem cmp_isB {d : D} {b : Bool} : cmpD .isN d (.bl b) = some (isBl b d) := by cases d <;> rfl
@[simp] theorem cmp_notB {d : D} {b : Bool} : cmpD .notN d (.bl b) = some (!isBl b d) := by cases d <;> rfl
@[simp] theorem exS_fastS : exS c .fastS ρ g = if ρ.all fastC = true then .nx ρ g else .no := by rw [exS] <;> rfl
@[simp] theorem brw_dget {kvs : List (Str × Str)} {a : E} {r : R D} : brw (.dget kvs a) ρ g r = r := (rfl)
@[simp] theorem brw_dmem {b : Bool} {kvs : List (Str × Str)} {a : E} {r : R D} : brw (.dmem b kvs a) ρ g r = r := (rfl)
@[simp] theorem brw_upper {a : E} {r : R D} : brw (.upper a) ρ g r = r := (rfl)
@[simp] theorem brw_sset {a : E} {r : R D} : brw (.sset a) ρ g r = r := (rfl)
@[simp] theorem brw_join {a b : E} {r : R D} : brw (.join a b) ρ g r = r := (rfl)
@[simp] theorem fr_dget {kvs : List (Str × Str)} {a : E} : isFr (.dget kvs a) = false := (rfl)
@[simp] theorem fr_dmem {b : Bool} {kvs : List (Str × Str)} {a : E} : isFr (.dmem b kvs a) = false := (rfl)
@[simp] theorem fr_upper {a : E} : isFr (.upper a) = false := (rfl)
@[simp] theorem fr_sset {a : E} : isFr (.sset a) = true := (rfl)
@[simp] theorem fr_join {a b : E} : isFr (.join a b) = false := (rfl)
@[simp] theorem fr_bi_sorted {es : List E} : isFr (.bi .sorted es) = true := (rfl)
@[simp] theorem fr_bi_str {es : List E} : isFr (.bi .str es) = false := (rfl)
theorem bi_sorted {xs : List D} {ns : List Int} (h : intsD xs = some ns) : biG g .sorted [.lst xs] = some (.lst ((sortI ns).map .int)) := by show (intsD xs).map _ = _; rw [h]; rfl
theorem bi_lenStr {z : Str} (h : z.length ≤ sizeLine) : biG g .len [.str z] = some (.int z.length) := by
  show (if z.length ≤ sizeLine then some (D.int z.length) else none) = _
  rw [if_pos h]
theorem opD_addS {a b : Str} (h : a.length + b.length ≤ sizeLine) : opD .add (.str a) (.str b) = some (.str (a ++ b)) := if_pos h
theorem opD_shl {a b : Int} (h : 0 ≤ b) (h2 : b ≤ 1000000) (h3 : a.natAbs < 2 ^ 64) : opD .shl (.int a) (.int b) = some (.int (a * 2 ^ b.toNat)) := if_pos ⟨h, h2, h3⟩
@[simp] theorem cmp_mem {d : D} {xs : List D} : cmpD .mem d (.tup xs) = inD d xs := by cases d <;> rfl
@[simp] theorem cmp_nmem {d : D} {xs : List D} : cmpD .nmem d (.tup xs) = (inD d xs).map (!·) := by cases d <;> rfl
@[simp] theorem cmp_memL {d : D} {xs : List D} : cmpD .mem d (.lst xs) = inD d xs := by cases d <;> rfl
@[simp] theorem cmp_nmemL {d : D} {xs : List D} : cmpD .nmem d (.lst xs) = (inD d xs).map (!·) := by cases d <;> rfl
/-- a loop that ends by an error at a turn -/
theorem forL_ex {step : D → Mi.Env → Gs → SR} {e : Exn} {g1 : Gs} (ρs : Nat → Mi.Env) : ∀ (xs : List D) (i n : Nat) (ρ1 : Mi.Env), (h : n < xs.length) → (∀ j, (hj : j < n) → step (xs[j]'(by omega)) (ρs (i + j)) g = .nx (ρs (i + j + 1)) g) → step xs[n] (ρs (i + n)) g = .ex e ρ1 g1 → forL step xs (ρs i) g = .ex e ρ1 g1
  | [], i, n, ρ1, h, _, _ => absurd h (by simp)
  | x :: xs, i, 0, ρ1, h, _, hx => by
    rw [forL_cons]
    have hx : step x (ρs i) g = .ex e ρ1 g1 := hx
    rw [hx, SR.turn_ex]
  | x :: xs, i, n + 1, ρ1, h, hs, hx => by
    rw [forL_cons]
    have h0 : step x (ρs i) g = .nx (ρs (i + 1)) g := hs 0 (Nat.zero_lt_succ _)
    rw [h0, SR.turn_nx]
    refine forL_ex ρs xs (i + 1) n ρ1 (by simpa using h) (fun j hj => ?_) ?_
    · have := hs (j + 1) (by omega)
      rw [Nat.add_assoc i 1 j, Nat.add_comm 1 j]
      exact this
    · rw [Nat.add_assoc i 1 n, Nat.add_comm 1 n]
      exact hx
end
/-- a comprehension that draws, place by place -/
theorem compL_stI {f : D → Gs → R (List D)} (I : Gs → Prop) : ∀ (xs : List D) (P : Nat → D → Prop) (g : Gs), I g → (∀ j, (h : j < xs.length) → ∀ g, I g → ∃ d g', f xs[j] g = .ok [d] g' ∧ P j d ∧ I g') → ∃ ds g', compL f xs g = .ok ds g' ∧ ds.length = xs.length ∧ (∀ j, (h : j < ds.length) → P j ds[j]) ∧ I g'
  | [], P, g, h0, h => ⟨[], g, rfl, rfl, (fun j h => absurd h (by simp)), h0⟩
  | x :: xs, P, g, h0, h => by
    obtain ⟨d, g1, e1, p1, h1⟩ := h 0 (Nat.zero_lt_succ _) g h0
    obtain ⟨ds, g2, e2, l2, p2, h2⟩ := compL_stI I xs (fun j => P (j + 1)) g1 h1 fun j hj g hg => h (j + 1) (Nat.succ_lt_succ hj) g hg
    refine ⟨d :: ds, g2, ?_, by simp [l2], fun j hj => ?_, h2⟩
    · have e1 : f x g = .ok [d] g1 := e1
      unfold compL
      rw [e1]
      simp only [e2, R.bind_ok, List.singleton_append]
    · cases j with
      | zero => exact p1
      | succ j => exact p2 j (by simpa using hj)
theorem ev_comp_stI {c : CallF} {ρ : Mi.Env} {g : Gs} {tg : Tg} {it elt : E} {own : List Nat} (I : Gs → Prop) (P : Nat → D → Prop) (xs : List D) (ρ1 : D → Mi.Env) (h0 : I g) (hi : evI c it ρ g = .ok xs g) (hb : ∀ x ∈ xs, bindTg (wipeE ρ own) tg x = some (ρ1 x))
    (he : ∀ j, (h : j < xs.length) → ∀ g, I g → ∃ d g', ev c elt (ρ1 xs[j]) g = .ok d g' ∧ P j d ∧ I g') (hl : xs.length ≤ sizeLine) : ∃ ds g', ev c (.comp tg it (.lit (.bl true)) own elt) ρ g = .ok (.lst ds) g' ∧ ds.length = xs.length ∧ (∀ j, (h : j < ds.length) → P j ds[j]) ∧ I g' := by
  unfold ev
  rw [hi, R.bind_ok]
  obtain ⟨ds, g', e, l, p, i⟩ := compL_stI (f := fun x g => match bindTg (wipeE ρ own) tg x with
      | some ρ1 => (brw (.lit (.bl true)) ρ1 g (ev c (.lit (.bl true)) ρ1 g)).bind fun k g => oneOrNone (truthG g k) (ev c elt ρ1 g) g
      | none => .no) I xs P g h0 fun j hj g hg => by
    obtain ⟨d, g', e, p, i⟩ := he j hj g hg
    refine ⟨d, g', ?_, p, i⟩
    rw [hb xs[j] (List.getElem_mem hj)]
    simp only
    have e1 : brw (.lit (.bl true)) (ρ1 xs[j]) g (ev c (.lit (.bl true)) (ρ1 xs[j]) g) = .ok (.bl true) g := by unfold ev; rfl
    rw [e1, R.bind_ok, e]
    rfl
  refine ⟨ds, g', (congrArg sized e).trans ?_, l, p, i⟩
  unfold sized
  simp only
  rw [if_pos (by rw [l]; exact hl)]
end Mi.Pl


set_option Elab.async false
set_option maxRecDepth 100000
set_option maxHeartbeats 0
namespace K61
open PySem L2 Mi
def topS (i : Nat) : Stmt := PySem.Challenge.pw_packetoaths_k61_sources_are_checked.main.body.getD i (.Pass ⟨0, 0, 0, 0⟩)
def fns : List (Str × Nat) := [(("is_from_to" : Str), 3), (("is_row" : Str), 1), (("is_word" : Str), 1), (("tupled" : Str), 2), (("fits_form" : Str), 3), (("is_variable" : Str), 1), (("amount_shape" : Str), 1), (("test_shape" : Str), 1), (("line_shape" : Str), 1), (("parts_of" : Str), 2), (("count_parts" : Str), 1), (("checked_source" : Str), 1), (("check_source" : Str), 1), (("parts_in" : Str), 1), (("all_parts" : Str), 1), (("variables_in" : Str), 2), (("variables_of" : Str), 1), (("nested_in" : Str), 1), (("blocks_deep" : Str), 1), (("_law_begin" : Str), 1), (("_law_draw" : Str), 2), (("_law_same" : Str), 2), (("_law_lists" : Str), 1), (("_law_error" : Str), 1), (("_law_parts" : Str), 1), (("_law_word" : Str), 1), (("_law_leaf" : Str), 3), (("_law_amount" : Str), 4), (("_law_test" : Str), 4), (("_law_part" : Str), 4), (("_law_block" : Str), 5), (("_law_source" : Str), 4), (("_law_tower" : Str), 2), (("_law_wide" : Str), 2), (("_law_check_asked" : Str), 1), (("_law_parts_asked" : Str), 1), (("_law_variables_asked" : Str), 1), (("_law_deep_asked" : Str), 1), (("_law_uses" : Str), 2), (("_law_nested" : Str), 1), (("_law_right" : Str), 2), (("_law_wrong" : Str), 2), (("_law_wrong_amount" : Str), 1), (("_law_wrong_test" : Str), 1), (("_law_wrong_part" : Str), 1), (("_law_around_amount" : Str), 2), (("_law_around_test" : Str), 2), (("_law_around_part" : Str), 4), (("_law_one_place" : Str), 1), (("_law_full_block" : Str), 3)]
def con : List (Str × D) := [(("WORD" : Str), .int 65536), (("MOST_SHIFT" : Str), .int 15), (("CELLS" : Str), .int 4), (("WITH_NUMBER" : Str), .tup [(.str "add"), (.str "sub"), (.str "mul"), (.str "and"), (.str "or"), (.str "xor"), (.str "left"), (.str "right"), (.str "div"), (.str "mod")]), (("VARIABLES" : Str), .int 4), (("MOST_IN_BLOCK" : Str), .int 20), (("MOST_PARTS" : Str), .int 200), (("MOST_DEEP" : Str), .int 12), (("MOST_NEST" : Str), .int 60), (("WITH_NAMES" : Str), .tup [(.str "add"), (.str "sub"), (.str "div"), (.str "mod")]), (("TESTS" : Str), .tup [(.str "eq"), (.str "more"), (.str "bits")])]
def dc_FORMS : List (Str × Str) := [(("imm" : Str), ("k" : Str)), (("len" : Str), ("" : Str)), (("byte" : Str), ("k" : Str)), (("byteat" : Str), ("k" : Str)), (("load" : Str), ("c" : Str)), (("loadx" : Str), ("c" : Str)), (("store" : Str), ("c" : Str)), (("tax" : Str), ("" : Str)), (("txa" : Str), ("" : Str)), (("add" : Str), ("k" : Str)), (("sub" : Str), ("k" : Str)), (("mul" : Str), ("k" : Str)), (("and" : Str), ("k" : Str)), (("or" : Str), ("k" : Str)), (("xor" : Str), ("k" : Str)), (("left" : Str), ("s" : Str)), (("right" : Str), ("s" : Str)), (("div" : Str), ("n" : Str)), (("mod" : Str), ("n" : Str)), (("addx" : Str), ("" : Str)), (("subx" : Str), ("" : Str)), (("divx" : Str), ("" : Str)), (("modx" : Str), ("" : Str)), (("jump" : Str), ("t" : Str)), (("eq" : Str), ("ktt" : Str)), (("more" : Str), ("ktt" : Str)), (("bits" : Str), ("ktt" : Str)), (("eqx" : Str), ("tt" : Str)), (("morex" : Str), ("tt" : Str)), (("none" : Str), ("tt" : Str)), (("again" : Str), ("tt" : Str)), (("ret" : Str), ("k" : Str)), (("reta" : Str), ("" : Str))]
def dc_WITH_TESTS : List (Str × Str) := [(("same" : Str), ("eqx" : Str)), (("above" : Str), ("morex" : Str))]
def dcs : List (Str × List (Str × Str)) := [(("FORMS" : Str), dc_FORMS), (("WITH_TESTS" : Str), dc_WITH_TESTS)]
def dfs : List (Str × D) := [("tupled", .int 8)]
def tp : Tp := ⟨fns, con, [23], [0, 1, 2, 3, 4, 5, 6, 7, 8, 9, 10, 11, 12], dcs, dfs⟩
def b_is_from_to : List Mi.S := [
  .ret (.and (.isi (.nm 0) [.int] false) (.and (.not (.isi (.nm 0) [.bool] false)) (.chain .le .le (.nm 1) (.nm 0) (.nm 2))))]
def b_is_row : List Mi.S := [
  .ret (.isi (.nm 0) [.list, .tuple] true)]
def b_is_word : List Mi.S := [
  .ret (.call 0 [(.nm 0), (.lit (.int 0)), (.op .sub (.lit (.int 65536)) (.lit (.int 1)))])]
def b_tupled : List Mi.S := [
  .ife (.tand (.cmp .gt (.nm 1) (.lit (.int 0))) (.call 1 [(.nm 0)])) [
    .ret (.bi .tuple [(.comp (.nm 2) (.iseq (.nm 0)) (.lit (.bl true)) [2] (.call 3 [(.nm 2), (.op .sub (.nm 1) (.lit (.int 1)))]))])] [],
  .ret (.nm 0)]
def b_fits_form : List Mi.S := [
  .ife (.cmp .eq (.nm 0) (.lit (.str "k"))) [
    .ret (.call 2 [(.nm 1)])] [],
  .ife (.cmp .eq (.nm 0) (.lit (.str "n"))) [
    .ret (.and (.call 2 [(.nm 1)]) (.cmp .gt (.nm 1) (.lit (.int 0))))] [],
  .ife (.cmp .eq (.nm 0) (.lit (.str "s"))) [
    .ret (.call 0 [(.nm 1), (.lit (.int 0)), (.lit (.int 15))])] [],
  .ife (.cmp .eq (.nm 0) (.lit (.str "c"))) [
    .ret (.call 0 [(.nm 1), (.lit (.int 0)), (.op .sub (.lit (.int 4)) (.lit (.int 1)))])] [],
  .ret (.call 0 [(.nm 1), (.lit (.int 0)), (.op .sub (.nm 2) (.lit (.int 1)))])]
def b_is_variable : List Mi.S := [
  .ret (.call 0 [(.nm 0), (.lit (.int 0)), (.op .sub (.lit (.int 4)) (.lit (.int 1)))])]
def b_amount_shape : List Mi.S := [
  .asg 1 (.tup [(.ix (.nm 0) (.lit (.int 0))), (.bi .len [(.nm 0)])]),
  .ife (.cmp .mem (.nm 1) (.tup [(.tup [(.lit (.str "num")), (.lit (.int 2))]), (.tup [(.lit (.str "byte")), (.lit (.int 2))])])) [
    .ret (.ite (.call 2 [(.ix (.nm 0) (.lit (.int 1)))]) (.lst []) (.lit .non))] [],
  .ife (.cmp .eq (.nm 1) (.tup [(.lit (.str "var")), (.lit (.int 2))])) [
    .ret (.ite (.call 5 [(.ix (.nm 0) (.lit (.int 1)))]) (.lst []) (.lit .non))] [],
  .ife (.cmp .eq (.nm 1) (.tup [(.lit (.str "len")), (.lit (.int 1))])) [
    .ret (.lst [])] [],
  .ife (.cmp .eq (.nm 1) (.tup [(.lit (.str "byteat")), (.lit (.int 3))])) [
    .ret (.ite (.tand (.call 5 [(.ix (.nm 0) (.lit (.int 1)))]) (.call 2 [(.ix (.nm 0) (.lit (.int 2)))])) (.lst []) (.lit .non))] [],
  .ife (.cmp .eq (.nm 1) (.tup [(.lit (.str "op")), (.lit (.int 4))])) [
    .asg 2 (.and (.isi (.ix (.nm 0) (.lit (.int 1))) [.str] false) (.cmp .mem (.ix (.nm 0) (.lit (.int 1))) (.lit (.tup [(.str "add"), (.str "sub"), (.str "mul"), (.str "and"), (.str "or"), (.str "xor"), (.str "left"), (.str "right"), (.str "div"), (.str "mod")])))),
    .ret (.ite (.tand (.nm 2) (.call 4 [(.dget dc_FORMS (.ix (.nm 0) (.lit (.int 1)))), (.ix (.nm 0) (.lit (.int 3))), (.lit (.int 0))])) (.lst [(.tup [(.lit (.str "amount")), (.ix (.nm 0) (.lit (.int 2)))])]) (.lit .non))] [],
  .ife (.cmp .eq (.nm 1) (.tup [(.lit (.str "with")), (.lit (.int 4))])) [
    .asg 2 (.and (.isi (.ix (.nm 0) (.lit (.int 1))) [.str] false) (.cmp .mem (.ix (.nm 0) (.lit (.int 1))) (.lit (.tup [(.str "add"), (.str "sub"), (.str "div"), (.str "mod")])))),
    .ret (.ite (.tand (.nm 2) (.call 5 [(.ix (.nm 0) (.lit (.int 3)))])) (.lst [(.tup [(.lit (.str "amount")), (.ix (.nm 0) (.lit (.int 2)))])]) (.lit .non))] [],
  .ret (.lit .non)]
def b_test_shape : List Mi.S := [
  .ife (.tand (.cmp .eq (.bi .len [(.nm 0)]) (.lit (.int 3))) (.cmp .mem (.ix (.nm 0) (.lit (.int 0))) (.lit (.tup [(.str "eq"), (.str "more"), (.str "bits")])))) [
    .ret (.ite (.call 2 [(.ix (.nm 0) (.lit (.int 2)))]) (.lst [(.tup [(.lit (.str "amount")), (.ix (.nm 0) (.lit (.int 1)))])]) (.lit .non))] [],
  .ife (.tand (.cmp .eq (.bi .len [(.nm 0)]) (.lit (.int 3))) (.dmem false dc_WITH_TESTS (.ix (.nm 0) (.lit (.int 0))))) [
    .ret (.ite (.call 5 [(.ix (.nm 0) (.lit (.int 2)))]) (.lst [(.tup [(.lit (.str "amount")), (.ix (.nm 0) (.lit (.int 1)))])]) (.lit .non))] [],
  .ife (.tand (.cmp .eq (.bi .len [(.nm 0)]) (.lit (.int 2))) (.cmp .eq (.ix (.nm 0) (.lit (.int 0))) (.lit (.str "not")))) [
    .ret (.lst [(.tup [(.lit (.str "test")), (.ix (.nm 0) (.lit (.int 1)))])])] [],
  .ife (.tand (.cmp .eq (.bi .len [(.nm 0)]) (.lit (.int 3))) (.cmp .mem (.ix (.nm 0) (.lit (.int 0))) (.tup [(.lit (.str "and")), (.lit (.str "or"))]))) [
    .ret (.lst [(.tup [(.lit (.str "test")), (.ix (.nm 0) (.lit (.int 1)))]), (.tup [(.lit (.str "test")), (.ix (.nm 0) (.lit (.int 2)))])])] [],
  .ret (.lit .non)]
def b_line_shape : List Mi.S := [
  .ife (.tand (.cmp .eq (.bi .len [(.nm 0)]) (.lit (.int 3))) (.cmp .eq (.ix (.nm 0) (.lit (.int 0))) (.lit (.str "let")))) [
    .ret (.ite (.call 5 [(.ix (.nm 0) (.lit (.int 1)))]) (.lst [(.tup [(.lit (.str "amount")), (.ix (.nm 0) (.lit (.int 2)))])]) (.lit .non))] [],
  .ife (.tand (.cmp .eq (.bi .len [(.nm 0)]) (.lit (.int 4))) (.cmp .eq (.ix (.nm 0) (.lit (.int 0))) (.lit (.str "if")))) [
    .ret (.lst [(.tup [(.lit (.str "test")), (.ix (.nm 0) (.lit (.int 1)))]), (.tup [(.lit (.str "block")), (.ix (.nm 0) (.lit (.int 2)))]), (.tup [(.lit (.str "block")), (.ix (.nm 0) (.lit (.int 3)))])])] [],
  .ife (.tand (.cmp .eq (.bi .len [(.nm 0)]) (.lit (.int 3))) (.cmp .eq (.ix (.nm 0) (.lit (.int 0))) (.lit (.str "loop")))) [
    .ret (.ite (.call 5 [(.ix (.nm 0) (.lit (.int 1)))]) (.lst [(.tup [(.lit (.str "block")), (.ix (.nm 0) (.lit (.int 2)))])]) (.lit .non))] [],
  .ife (.tand (.cmp .eq (.bi .len [(.nm 0)]) (.lit (.int 2))) (.cmp .eq (.ix (.nm 0) (.lit (.int 0))) (.lit (.str "give")))) [
    .ret (.lst [(.tup [(.lit (.str "amount")), (.ix (.nm 0) (.lit (.int 1)))])])] [],
  .ret (.lit .non)]
def b_parts_of : List Mi.S := [
  .ife (.tnot (.call 1 [(.nm 1)])) [
    .ret (.lit .non)] [],
  .ife (.cmp .eq (.nm 0) (.lit (.str "block"))) [
    .ret (.ite (.cmp .le (.bi .len [(.nm 1)]) (.lit (.int 20))) (.comp (.nm 2) (.iseq (.nm 1)) (.lit (.bl true)) [2] (.tup [(.lit (.str "line")), (.nm 2)])) (.lit .non))] [],
  .ife (.tor (.cmp .eq (.bi .len [(.nm 1)]) (.lit (.int 0))) (.tnot (.isi (.ix (.nm 1) (.lit (.int 0))) [.str] false))) [
    .ret (.lit .non)] [],
  .ife (.cmp .eq (.nm 0) (.lit (.str "amount"))) [
    .ret (.call 6 [(.nm 1)])] [],
  .ret (.ite (.cmp .eq (.nm 0) (.lit (.str "test"))) (.call 7 [(.nm 1)]) (.call 8 [(.nm 1)]))]
def b_count_parts : List Mi.S := [
  .asg 1 (.lst [(.tup [(.lit (.str "block")), (.nm 0), (.neg (.lit (.int 1)))])]),
  .asg 2 (.lit (.int 0)),
  .whl [] (.cmp .gt (.bi .len [(.nm 1)]) (.lit (.int 0))) [
    .popT [3, 4, 5] 1,
    .asg 6 (.call 9 [(.nm 3), (.nm 4)]),
    .ife (.cmp .isN (.nm 6) (.lit .non)) [
      .ret (.lit .non)] [],
    .aug 2 .add (.bi .int [(.cmp .ne (.nm 3) (.lit (.str "block")))]),
    .ife (.tor (.cmp .gt (.nm 2) (.lit (.int 200))) (.tand (.cmp .ne (.nm 3) (.lit (.str "block"))) (.cmp .gt (.nm 5) (.lit (.int 12))))) [
      .ret (.lit .non)] [],
    .asg 7 (.ite (.cmp .eq (.nm 3) (.lit (.str "block"))) (.nm 5) (.op .add (.nm 5) (.lit (.int 1)))),
    .ext 1 (.comp (.tup [8, 9]) (.iseq (.nm 6)) (.lit (.bl true)) [8, 9] (.tup [(.nm 8), (.nm 9), (.ite (.cmp .eq (.nm 8) (.lit (.str "block"))) (.nm 7) (.bi .max2 [(.nm 7), (.lit (.int 0))]))]))],
  .ret (.nm 2)]
def b_checked_source : List Mi.S := [
  .ife (.cmp .isN (.call 10 [(.nm 0)]) (.lit .non)) [
    .raise 5 [(.lit (.int 0))]] [],
  .ret (.call 3 [(.nm 0), (.lit (.int 60))])]
def b_check_source : List Mi.S := [
  .expr (.call 11 [(.nm 0)])]
def b_parts_in : List Mi.S := [
  .ret (.call 10 [(.call 11 [(.nm 0)])])]
def b_all_parts : List Mi.S := [
  .asg 1 (.lst [(.tup [(.lit (.str "block")), (.nm 0)])]),
  .asg 2 (.lit (.int 0)),
  .whl [] (.cmp .lt (.nm 2) (.bi .len [(.nm 1)])) [
    .ext 1 (.call 9 [(.ix (.ix (.nm 1) (.nm 2)) (.lit (.int 0))), (.ix (.ix (.nm 1) (.nm 2)) (.lit (.int 1)))]),
    .aug 2 .add (.lit (.int 1))],
  .fz [1] (.ret (.nm 1))]
def b_variables_in : List Mi.S := [
  .ife (.cmp .eq (.nm 0) (.lit (.str "amount"))) [
    .ret (.ite (.cmp .mem (.ix (.nm 1) (.lit (.int 0))) (.tup [(.lit (.str "var")), (.lit (.str "byteat"))])) (.lst [(.ix (.nm 1) (.lit (.int 1)))]) (.ite (.cmp .eq (.ix (.nm 1) (.lit (.int 0))) (.lit (.str "with"))) (.lst [(.ix (.nm 1) (.lit (.int 3)))]) (.lst [])))] [],
  .ife (.cmp .eq (.nm 0) (.lit (.str "test"))) [
    .ret (.ite (.dmem false dc_WITH_TESTS (.ix (.nm 1) (.lit (.int 0)))) (.lst [(.ix (.nm 1) (.lit (.int 2)))]) (.lst []))] [],
  .ret (.ite (.tand (.cmp .eq (.nm 0) (.lit (.str "line"))) (.cmp .mem (.ix (.nm 1) (.lit (.int 0))) (.tup [(.lit (.str "let")), (.lit (.str "loop"))]))) (.lst [(.ix (.nm 1) (.lit (.int 1)))]) (.lst []))]
def b_variables_of : List Mi.S := [
  .asg 1 (.call 14 [(.call 11 [(.nm 0)])]),
  .ret (.bi .tuple [(.sset (.comp2 (.tup [2, 3]) (.iseq (.nm 1)) (.nm 4) (.iseq (.call 15 [(.nm 2), (.nm 3)])) [2, 3, 4] [4] (.nm 4)))])]
def b_nested_in : List Mi.S := [
  .asg 1 (.lst [(.lit (.int 0))]),
  .forS (.nm 2) (.iseq (.nm 0)) [
    .ife (.cmp .eq (.ix (.nm 2) (.lit (.int 0))) (.lit (.str "if"))) [
      .app 1 (.op .add (.lit (.int 1)) (.bi .max2 [(.call 17 [(.ix (.nm 2) (.lit (.int 2)))]), (.call 17 [(.ix (.nm 2) (.lit (.int 3)))])]))] [
      .ife (.cmp .eq (.ix (.nm 2) (.lit (.int 0))) (.lit (.str "loop"))) [
        .app 1 (.op .add (.lit (.int 1)) (.call 17 [(.ix (.nm 2) (.lit (.int 2)))]))] []]],
  .ret (.bi .maxL [(.nm 1)])]
def b_blocks_deep : List Mi.S := [
  .ret (.call 17 [(.call 11 [(.nm 0)])])]
def b_law_begin : List Mi.S := [
  .asg 1 (.lit (.int 7)),
  .forS (.nm 2) (.iseq (.sl (.nm 0) (.lit .non) (.part (.lit (.int 63))))) [
    .asg 1 (.op .mod (.bi .int [(.op .add (.op .add (.op .mul (.nm 1) (.nm 1)) (.op .mul (.nm 2) (.lit (.int 48271)))) (.lit (.int 11)))]) (.lit (.int 2147483647)))],
  .asg 3 (.comp (.nm 2) (.iseq (.sl (.nm 0) (.lit .non) (.part (.lit (.int 63))))) (.cmp .ge (.nm 2) (.op .pow (.lit (.int 10)) (.lit (.int 18)))) [2] (.bi .int [(.nm 2)])),
  .ret (.lst [(.nm 1), (.ite (.cmp .gt (.bi .len [(.nm 3)]) (.lit (.int 0))) (.ix (.nm 3) (.lit (.int 0))) (.lit (.int 0))), (.lit (.int 0))])]
def b_law_draw : List Mi.S := [
  .setix 0 (.lit (.int 2)) (.op .add (.ix (.nm 0) (.lit (.int 2))) (.lit (.int 1))),
  .ife (.tand (.cmp .gt (.ix (.nm 0) (.lit (.int 1))) (.lit (.int 0))) (.cmp .le (.ix (.nm 0) (.lit (.int 2))) (.lit (.int 150)))) [
    .asg 2 (.op .mod (.bi .int [(.ix (.nm 0) (.lit (.int 1)))]) (.nm 1)),
    .setix 0 (.lit (.int 1)) (.op .fdiv (.ix (.nm 0) (.lit (.int 1))) (.nm 1)),
    .ret (.nm 2)] [],
  .setix 0 (.lit (.int 0)) (.op .mod (.bi .int [(.op .add (.op .add (.op .mul (.ix (.nm 0) (.lit (.int 0))) (.ix (.nm 0) (.lit (.int 0)))) (.op .mul (.lit (.int 69621)) (.ix (.nm 0) (.lit (.int 2))))) (.lit (.int 5)))]) (.lit (.int 2147483647))),
  .ret (.op .mod (.bi .int [(.op .fdiv (.ix (.nm 0) (.lit (.int 0))) (.lit (.int 16)))]) (.nm 1))]
def b_law_same : List Mi.S := [
  .ife (.tor (.isi (.nm 1) [.tuple] false) (.isi (.nm 1) [.list] false)) [
    .ife (.tor (.cmp .ne (.isi (.nm 0) [.tuple] false) (.isi (.nm 1) [.tuple] false)) (.cmp .ne (.isi (.nm 0) [.list] false) (.isi (.nm 1) [.list] false))) [
      .ret (.lit (.bl false))] [],
    .ife (.cmp .ne (.bi .len [(.nm 0)]) (.bi .len [(.nm 1)])) [
      .ret (.lit (.bl false))] [],
    .ret (.cmp .eq (.bi .len [(.comp (.nm 2) (.irng1 (.bi .len [(.nm 1)])) (.tnot (.call 21 [(.ix (.nm 0) (.nm 2)), (.ix (.nm 1) (.nm 2))])) [2] (.nm 2))]) (.lit (.int 0)))] [],
  .ife (.cmp .isN (.nm 1) (.lit .non)) [
    .ret (.cmp .isN (.nm 0) (.lit .non))] [],
  .ife (.cmp .isN (.nm 1) (.lit (.bl true))) [
    .ret (.cmp .isN (.nm 0) (.lit (.bl true)))] [],
  .ife (.cmp .isN (.nm 1) (.lit (.bl false))) [
    .ret (.cmp .isN (.nm 0) (.lit (.bl false)))] [],
  .ife (.isi (.nm 1) [.str] false) [
    .ret (.and (.isi (.nm 0) [.str] false) (.cmp .eq (.nm 0) (.nm 1)))] [],
  .ret (.and (.isi (.nm 0) [.int] false) (.and (.not (.isi (.nm 0) [.bool] false)) (.cmp .eq (.nm 0) (.nm 1))))]
def b_law_lists : List Mi.S := [
  .ife (.tor (.isi (.nm 0) [.tuple] false) (.isi (.nm 0) [.list] false)) [
    .ret (.comp (.nm 1) (.iseq (.nm 0)) (.lit (.bl true)) [1] (.call 22 [(.nm 1)]))] [],
  .ret (.nm 0)]
def b_law_error : List Mi.S := [
  .asg 1 (.lst [(.isx (.nm 0) 0), (.isx (.nm 0) 1), (.isx (.nm 0) 2), (.isx (.nm 0) 3), (.isx (.nm 0) 4), (.isx (.nm 0) 5), (.isx (.nm 0) 6), (.isx (.nm 0) 7), (.isx (.nm 0) 8), (.isx (.nm 0) 12), (.isx (.nm 0) 9), (.isx (.nm 0) 10), (.isx (.nm 0) 11)]),
  .asg 2 (.tup [(.lit (.str "shape")), (.lit (.str "packet")), (.lit (.str "number")), (.lit (.str "value")), (.lit (.str "program")), (.lit (.str "source")), (.lit (.str "rules")), (.lit (.str "text")), (.lit (.str "line")), (.lit (.str "refused")), (.lit (.str "many")), (.lit (.str "undefined")), (.lit (.str "nothing"))]),
  .asg 3 (.comp (.nm 4) (.irng1 (.lit (.int 13))) (.ix (.nm 1) (.nm 4)) [4] (.nm 4)),
  .ife (.tor (.cmp .ne (.bi .len [(.nm 3)]) (.lit (.int 1))) (.tnot (.isx (.nm 0) 101))) [
    .ret (.tup [(.lit (.str "raised")), (.lit (.str "unclear"))])] [],
  .asg 4 (.ix (.nm 3) (.lit (.int 0))),
  .ife (.cmp .eq (.nm 4) (.lit (.int 9))) [
    .ret (.tup [(.lit (.str "raised")), (.lit (.str "refused")), (.fld (.nm 0) "what"), (.fld (.nm 0) "packet")])] [],
  .ife (.cmp .gt (.nm 4) (.lit (.int 3))) [
    .ret (.tup [(.lit (.str "raised")), (.ix (.nm 2) (.nm 4)), (.ite (.cmp .lt (.nm 4) (.lit (.int 9))) (.fld (.nm 0) "place") (.fld (.nm 0) "what"))])] [],
  .ife (.cmp .gt (.nm 4) (.lit (.int 1))) [
    .ret (.tup [(.lit (.str "raised")), (.ix (.nm 2) (.nm 4)), (.ite (.cmp .eq (.nm 4) (.lit (.int 2))) (.fld (.nm 0) "number") (.fld (.nm 0) "value"))])] [],
  .ret (.tup [(.lit (.str "raised")), (.ix (.nm 2) (.nm 4)), (.ite (.cmp .eq (.nm 4) (.lit (.int 0))) (.fld (.nm 0) "shape") (.fld (.nm 0) "packet"))])]
def b_law_parts : List Mi.S := [
  .ife (.tnot (.isi (.nm 0) [.tuple] false)) [
    .ret (.lit (.int 0))] [],
  .asg 1 (.ite (.tand (.cmp .gt (.bi .len [(.nm 0)]) (.lit (.int 0))) (.isi (.ix (.nm 0) (.lit (.int 0))) [.str] false)) (.lit (.int 1)) (.lit (.int 0))),
  .ret (.op .add (.nm 1) (.bi .sum [(.comp (.nm 2) (.iseq (.nm 0)) (.lit (.bl true)) [2] (.call 24 [(.nm 2)]))]))]
def b_law_word : List Mi.S := [
  .asg 1 (.call 20 [(.nm 0), (.lit (.int 8))]),
  .ife (.cmp .lt (.nm 1) (.lit (.int 5))) [
    .ret (.call 20 [(.nm 0), (.lit (.int 5))])] [],
  .ife (.cmp .eq (.nm 1) (.lit (.int 5))) [
    .ret (.op .sub (.lit (.int 65535)) (.call 20 [(.nm 0), (.lit (.int 3))]))] [],
  .ife (.cmp .eq (.nm 1) (.lit (.int 6))) [
    .ret (.op .shl (.lit (.int 1)) (.call 20 [(.nm 0), (.lit (.int 16))]))] [],
  .ret (.call 20 [(.nm 0), (.lit (.int 65536))])]
def b_law_leaf : List Mi.S := [
  .asg 3 (.call 20 [(.nm 0), (.lit (.int 6))]),
  .ife (.cmp .eq (.nm 3) (.lit (.int 0))) [
    .ret (.tup [(.lit (.str "num")), (.call 25 [(.nm 0)])])] [],
  .ife (.cmp .lt (.nm 3) (.lit (.int 3))) [
    .ret (.tup [(.lit (.str "var")), (.call 20 [(.nm 0), (.lit (.int 4))])])] [],
  .ife (.cmp .eq (.nm 3) (.lit (.int 3))) [
    .ret (.tup [(.lit (.str "len"))])] [],
  .ife (.tand (.nm 2) (.cmp .eq (.call 20 [(.nm 0), (.lit (.int 3))]) (.lit (.int 0)))) [
    .asg 4 (.ix (.tup [(.lit (.int 0)), (.lit (.int 0)), (.lit (.int 1)), (.lit (.int 1)), (.lit (.int 2)), (.lit (.int 65535))]) (.call 20 [(.nm 0), (.lit (.int 6))])),
    .ret (.ite (.cmp .eq (.call 20 [(.nm 0), (.lit (.int 2))]) (.lit (.int 0))) (.tup [(.lit (.str "byte")), (.nm 4)]) (.tup [(.lit (.str "byteat")), (.call 20 [(.nm 0), (.lit (.int 4))]), (.nm 4)]))] [],
  .ret (.ite (.cmp .gt (.nm 1) (.lit (.int 0))) (.tup [(.lit (.str "byte")), (.call 20 [(.nm 0), (.nm 1)])]) (.tup [(.lit (.str "len"))]))]
def b_law_amount : List Mi.S := [
  .asg 4 (.call 20 [(.nm 0), (.lit (.int 7))]),
  .ife (.tor (.cmp .lt (.nm 1) (.lit (.int 1))) (.cmp .lt (.nm 4) (.lit (.int 3)))) [
    .ret (.call 26 [(.nm 0), (.nm 2), (.nm 3)])] [],
  .asg 5 (.call 27 [(.nm 0), (.op .sub (.nm 1) (.lit (.int 1))), (.nm 2), (.nm 3)]),
  .ife (.cmp .eq (.nm 4) (.lit (.int 6))) [
    .ret (.tup [(.lit (.str "with")), (.ix (.tup [(.lit (.str "add")), (.lit (.str "sub")), (.lit (.str "mod")), (.lit (.str "div"))]) (.call 20 [(.nm 0), (.ite (.nm 3) (.lit (.int 4)) (.lit (.int 2)))])), (.nm 5), (.call 20 [(.nm 0), (.lit (.int 4))])])] [],
  .asg 6 (.ix (.tup [(.lit (.str "add")), (.lit (.str "sub")), (.lit (.str "mul")), (.lit (.str "and")), (.lit (.str "or")), (.lit (.str "xor")), (.lit (.str "left")), (.lit (.str "right")), (.lit (.str "div")), (.lit (.str "mod"))]) (.call 20 [(.nm 0), (.lit (.int 10))])),
  .asg 7 (.op .mod (.bi .int [(.call 25 [(.nm 0)])]) (.ite (.cmp .mem (.nm 6) (.tup [(.lit (.str "left")), (.lit (.str "right"))])) (.lit (.int 16)) (.lit (.int 65536)))),
  .ret (.tup [(.lit (.str "op")), (.nm 6), (.nm 5), (.bi .max2 [(.nm 7), (.bi .int [(.cmp .mem (.nm 6) (.tup [(.lit (.str "div")), (.lit (.str "mod"))]))])])])]
def b_law_test : List Mi.S := [
  .asg 4 (.call 20 [(.nm 0), (.lit (.int 9))]),
  .ife (.tand (.cmp .gt (.nm 1) (.lit (.int 0))) (.cmp .gt (.nm 4) (.lit (.int 5)))) [
    .asg 5 (.call 28 [(.nm 0), (.op .sub (.nm 1) (.lit (.int 1))), (.nm 2), (.nm 3)]),
    .ife (.cmp .eq (.nm 4) (.lit (.int 6))) [
      .ret (.tup [(.lit (.str "not")), (.nm 5)])] [],
    .ret (.tup [(.ite (.cmp .eq (.nm 4) (.lit (.int 7))) (.lit (.str "and")) (.lit (.str "or"))), (.nm 5), (.call 28 [(.nm 0), (.op .sub (.nm 1) (.lit (.int 1))), (.nm 2), (.nm 3)])])] [],
  .asg 6 (.call 27 [(.nm 0), (.lit (.int 1)), (.nm 2), (.nm 3)]),
  .asg 7 (.ix (.tup [(.lit (.str "eq")), (.lit (.str "more")), (.lit (.str "bits")), (.lit (.str "same")), (.lit (.str "above"))]) (.ite (.cmp .gt (.nm 4) (.lit (.int 4))) (.op .sub (.nm 4) (.lit (.int 5))) (.nm 4))),
  .ife (.tor (.cmp .eq (.nm 7) (.lit (.str "same"))) (.cmp .eq (.nm 7) (.lit (.str "above")))) [
    .ret (.tup [(.nm 7), (.nm 6), (.call 20 [(.nm 0), (.lit (.int 4))])])] [],
  .ret (.tup [(.nm 7), (.nm 6), (.ite (.cmp .gt (.call 20 [(.nm 0), (.lit (.int 3))]) (.lit (.int 0))) (.call 20 [(.nm 0), (.lit (.int 4))]) (.call 25 [(.nm 0)]))])]
def b_law_part : List Mi.S := [
  .asg 4 (.ite (.cmp .gt (.nm 1) (.lit (.int 0))) (.call 20 [(.nm 0), (.lit (.int 11))]) (.op .add (.lit (.int 6)) (.call 20 [(.nm 0), (.lit (.int 5))]))),
  .asg 5 (.call 20 [(.nm 0), (.lit (.int 4))]),
  .ife (.cmp .lt (.nm 4) (.lit (.int 4))) [
    .asg 6 (.call 20 [(.nm 0), (.lit (.int 2))]),
    .asg 7 (.ite (.cmp .lt (.nm 4) (.lit (.int 2))) (.tup [(.lit (.str "more")), (.tup [(.lit (.str "len"))]), (.nm 6)]) (.call 28 [(.nm 0), (.lit (.int 2)), (.nm 2), (.nm 3)])),
    .asg 8 (.call 30 [(.nm 0), (.lit (.int 3)), (.op .sub (.nm 1) (.lit (.int 1))), (.ite (.cmp .lt (.nm 4) (.lit (.int 2))) (.bi .max2 [(.nm 2), (.op .add (.nm 6) (.lit (.int 1)))]) (.nm 2)), (.nm 3)]),
    .ret (.tup [(.tup [(.lit (.str "if")), (.nm 7), (.nm 8), (.call 30 [(.nm 0), (.lit (.int 2)), (.op .sub (.nm 1) (.lit (.int 1))), (.nm 2), (.nm 3)])])])] [],
  .ife (.cmp .lt (.nm 4) (.lit (.int 6))) [
    .asg 9 (.tup [(.tup [(.lit (.str "num")), (.op .add (.lit (.int 1)) (.call 20 [(.nm 0), (.lit (.int 3))]))]), (.tup [(.lit (.str "len"))]), (.tup [(.lit (.str "op")), (.lit (.str "mod")), (.call 26 [(.nm 0), (.nm 2), (.nm 3)]), (.lit (.int 4))])]),
    .asg 10 (.tup [(.lit (.str "let")), (.nm 5), (.ix (.nm 9) (.call 20 [(.nm 0), (.lit (.int 3))]))]),
    .ret (.sl (.tup [(.nm 10), (.tup [(.lit (.str "loop")), (.nm 5), (.call 30 [(.nm 0), (.lit (.int 2)), (.op .sub (.nm 1) (.lit (.int 1))), (.nm 2), (.nm 3)])])]) (.part (.op .fdiv (.call 20 [(.nm 0), (.lit (.int 4))]) (.lit (.int 3)))) (.lit .non))] [],
  .ife (.cmp .eq (.nm 4) (.lit (.int 6))) [
    .ret (.tup [(.tup [(.lit (.str "give")), (.call 27 [(.nm 0), (.lit (.int 2)), (.nm 2), (.nm 3)])])])] [],
  .ret (.tup [(.tup [(.lit (.str "let")), (.nm 5), (.ite (.cmp .eq (.nm 4) (.lit (.int 7))) (.tup [(.lit (.str "num")), (.op .add (.lit (.int 1)) (.call 20 [(.nm 0), (.lit (.int 3))]))]) (.call 27 [(.nm 0), (.lit (.int 2)), (.nm 2), (.nm 3)]))])])]
def b_law_block : List Mi.S := [
  .asg 5 (.tup []),
  .forS (.nm 6) (.irng1 (.call 20 [(.nm 0), (.op .add (.nm 1) (.lit (.int 1)))])) [
    .asg 5 (.op .add (.nm 5) (.call 29 [(.nm 0), (.nm 2), (.nm 3), (.nm 4)]))],
  .ret (.nm 5)]
def b_law_source : List Mi.S := [
  .forS (.nm 4) (.irng1 (.lit (.int 5))) [
    .asg 5 (.tup [(.lit (.str "give")), (.tup [(.lit (.str "with")), (.lit (.str "add")), (.call 27 [(.nm 0), (.lit (.int 1)), (.lit (.int 0)), (.nm 2)]), (.call 20 [(.nm 0), (.lit (.int 4))])])]),
    .asg 6 (.op .add (.call 30 [(.nm 0), (.op .add (.nm 1) (.lit (.int 1))), (.lit (.int 2)), (.lit (.int 0)), (.nm 2)]) (.sl (.tup [(.nm 5)]) (.lit .non) (.part (.call 20 [(.nm 0), (.lit (.int 4))])))),
    .ife (.cmp .le (.call 24 [(.nm 6)]) (.nm 3)) [
      .ret (.nm 6)] []],
  .ret (.tup [(.tup [(.lit (.str "if")), (.tup [(.lit (.str "more")), (.tup [(.lit (.str "len"))]), (.call 20 [(.nm 0), (.lit (.int 3))])]), (.tup [(.tup [(.lit (.str "give")), (.tup [(.lit (.str "byte")), (.lit (.int 0))])])]), (.tup [])]), (.tup [(.lit (.str "give")), (.tup [(.lit (.str "num")), (.lit (.int 3))])])])]
def b_law_tower : List Mi.S := [
  .asg 2 (.tup [(.lit (.str "len"))]),
  .asg 3 (.call 20 [(.nm 0), (.nm 1)]),
  .forS (.nm 4) (.irng1 (.nm 3)) [
    .asg 2 (.ite (.cmp .eq (.call 20 [(.nm 0), (.lit (.int 2))]) (.lit (.int 0))) (.tup [(.lit (.str "op")), (.lit (.str "xor")), (.nm 2), (.nm 4)]) (.tup [(.lit (.str "with")), (.lit (.str "sub")), (.nm 2), (.op .mod (.bi .int [(.nm 4)]) (.lit (.int 4)))]))],
  .asg 5 (.op .add (.nm 3) (.lit (.int 1))),
  .ife (.tand (.cmp .gt (.op .sub (.nm 1) (.nm 3)) (.lit (.int 1))) (.cmp .eq (.call 20 [(.nm 0), (.lit (.int 2))]) (.lit (.int 0)))) [
    .asg 2 (.tup [(.lit (.str "more")), (.nm 2), (.call 20 [(.nm 0), (.lit (.int 3))])]),
    .asg 6 (.call 20 [(.nm 0), (.op .sub (.nm 1) (.nm 5))]),
    .forS (.nm 4) (.irng1 (.nm 6)) [
      .asg 7 (.tup [(.lit (.str "eq")), (.tup [(.lit (.str "len"))]), (.nm 4)]),
      .asg 2 (.ix (.tup [(.tup [(.lit (.str "not")), (.nm 2)]), (.tup [(.lit (.str "and")), (.nm 7), (.nm 2)]), (.tup [(.lit (.str "or")), (.nm 2), (.nm 7)])]) (.call 20 [(.nm 0), (.lit (.int 3))]))],
    .asg 8 (.tup [(.lit (.str "if")), (.nm 2), (.tup []), (.tup [(.tup [(.lit (.str "give")), (.tup [(.lit (.str "num")), (.lit (.int 1))])])])]),
    .asg 5 (.op .add (.op .add (.nm 5) (.nm 6)) (.lit (.int 1)))] [
    .asg 8 (.tup [(.lit (.str "let")), (.call 20 [(.nm 0), (.lit (.int 4))]), (.nm 2)])],
  .forS (.nm 4) (.irng1 (.op .sub (.nm 1) (.nm 5))) [
    .asg 9 (.call 20 [(.nm 0), (.lit (.int 3))]),
    .ife (.cmp .eq (.nm 9) (.lit (.int 0))) [
      .asg 8 (.tup [(.lit (.str "loop")), (.op .mod (.bi .int [(.nm 4)]) (.lit (.int 4))), (.tup [(.nm 8)])])] [
      .ife (.cmp .eq (.nm 9) (.lit (.int 1))) [
        .asg 8 (.tup [(.lit (.str "if")), (.tup [(.lit (.str "eq")), (.tup [(.lit (.str "len"))]), (.nm 4)]), (.tup [(.nm 8)]), (.tup [])])] [
        .asg 8 (.tup [(.lit (.str "if")), (.tup [(.lit (.str "same")), (.tup [(.lit (.str "var")), (.lit (.int 1))]), (.lit (.int 2))]), (.tup [(.tup [(.lit (.str "let")), (.lit (.int 2)), (.tup [(.lit (.str "num")), (.nm 4)])])]), (.tup [(.nm 8), (.tup [(.lit (.str "loop")), (.lit (.int 3)), (.tup [])])])])]]],
  .ret (.tup [(.nm 8)])]
def b_law_wide : List Mi.S := [
  .asg 2 (.comp (.nm 8) (.irng1 (.lit (.int 20))) (.lit (.bl true)) [8] (.lit (.int 10))),
  .asg 3 (.call 20 [(.nm 0), (.lit (.int 20))]),
  .asg 4 (.op .mod (.bi .int [(.op .add (.op .add (.nm 3) (.lit (.int 1))) (.call 20 [(.nm 0), (.lit (.int 19))]))]) (.lit (.int 20))),
  .setix 2 (.nm 3) (.lit (.int 11)),
  .setix 2 (.nm 4) (.lit (.int 9)),
  .asg 5 (.cmp .eq (.call 20 [(.nm 0), (.lit (.int 2))]) (.lit (.int 1))),
  .ife (.nm 5) [
    .setix 2 (.nm 4) (.lit (.int 6))] [],
  .asg 6 (.call 20 [(.nm 0), (.lit (.int 20))]),
  .setix 2 (.nm 6) (.op .sub (.op .add (.ix (.nm 2) (.nm 6)) (.nm 1)) (.lit (.int 200))),
  .asg 7 (.lst []),
  .forS (.nm 8) (.irng1 (.lit (.int 20))) [
    .asg 9 (.tup [(.lit (.str "byte")), (.nm 8)]),
    .forS (.nm 10) (.irng1 (.op .sub (.ix (.nm 2) (.nm 8)) (.lit (.int 2)))) [
      .asg 9 (.tup [(.lit (.str "op")), (.ix (.tup [(.lit (.str "add")), (.lit (.str "or")), (.lit (.str "right"))]) (.op .mod (.bi .int [(.op .add (.nm 8) (.nm 10))]) (.lit (.int 3)))), (.nm 9), (.op .mod (.bi .int [(.nm 10)]) (.lit (.int 16)))])],
    .app 7 (.tup [(.lit (.str "let")), (.op .mod (.bi .int [(.nm 8)]) (.lit (.int 4))), (.nm 9)])],
  .ife (.nm 5) [
    .ret (.op .add (.bi .tuple [(.sl (.nm 7) (.lit .non) (.part (.lit (.int 12))))]) (.tup [(.tup [(.lit (.str "if")), (.tup [(.lit (.str "bits")), (.tup [(.lit (.str "len"))]), (.lit (.int 3))]), (.bi .tuple [(.sl (.nm 7) (.part (.lit (.int 12))) (.lit .non))]), (.tup [])])]))] [],
  .ret (.bi .tuple [(.nm 7)])]
def b_law_check_asked : List Mi.S := [
  .tryX [
    .ret (.tup [(.lit (.str "answer")), (.call 12 [(.nm 0)])])] 100 1 [
    .ret (.call 23 [(.nm 1)])]]
def b_law_parts_asked : List Mi.S := [
  .tryX [
    .ret (.tup [(.lit (.str "answer")), (.call 13 [(.nm 0)])])] 100 1 [
    .ret (.call 23 [(.nm 1)])]]
def b_law_variables_asked : List Mi.S := [
  .tryX [
    .ret (.tup [(.lit (.str "answer")), (.call 16 [(.nm 0)])])] 100 1 [
    .ret (.call 23 [(.nm 1)])]]
def b_law_deep_asked : List Mi.S := [
  .tryX [
    .ret (.tup [(.lit (.str "answer")), (.call 18 [(.nm 0)])])] 100 1 [
    .ret (.call 23 [(.nm 1)])]]
def b_law_uses : List Mi.S := [
  .ife (.tor (.tnot (.isi (.nm 0) [.tuple] false)) (.cmp .eq (.bi .len [(.nm 0)]) (.lit (.int 0)))) [
    .ret (.lit (.bl false))] [],
  .ife (.tand (.cmp .mem (.ix (.nm 0) (.lit (.int 0))) (.tup [(.lit (.str "var")), (.lit (.str "byteat")), (.lit (.str "let")), (.lit (.str "loop"))])) (.cmp .eq (.ix (.nm 0) (.lit (.int 1))) (.nm 1))) [
    .ret (.lit (.bl true))] [],
  .ife (.tand (.cmp .mem (.ix (.nm 0) (.lit (.int 0))) (.tup [(.lit (.str "with")), (.lit (.str "same")), (.lit (.str "above"))])) (.cmp .eq (.ix (.nm 0) (.op .sub (.bi .len [(.nm 0)]) (.lit (.int 1)))) (.nm 1))) [
    .ret (.lit (.bl true))] [],
  .ret (.cmp .gt (.bi .len [(.comp (.nm 2) (.iseq (.nm 0)) (.call 38 [(.nm 2), (.nm 1)]) [2] (.nm 2))]) (.lit (.int 0)))]
def b_law_nested : List Mi.S := [
  .asg 1 (.lit (.int 0)),
  .forS (.nm 2) (.iseq (.nm 0)) [
    .ife (.cmp .eq (.ix (.nm 2) (.lit (.int 0))) (.lit (.str "loop"))) [
      .asg 1 (.bi .max2 [(.nm 1), (.op .add (.lit (.int 1)) (.call 39 [(.ix (.nm 2) (.lit (.int 2)))]))])] [
      .ife (.cmp .eq (.ix (.nm 2) (.lit (.int 0))) (.lit (.str "if"))) [
        .asg 1 (.bi .max3 [(.nm 1), (.op .add (.lit (.int 1)) (.call 39 [(.ix (.nm 2) (.lit (.int 2)))])), (.op .add (.lit (.int 1)) (.call 39 [(.ix (.nm 2) (.lit (.int 3)))]))])] []]],
  .ret (.nm 1)]
def b_law_right : List Mi.S := [
  .asg 2 (.lst [(.lit .non), (.call 24 [(.nm 1)]), (.bi .tuple [(.comp (.nm 6) (.irng1 (.lit (.int 4))) (.call 38 [(.nm 1), (.nm 6)]) [6] (.nm 6))]), (.call 39 [(.nm 1)])]),
  .asg 3 (.ite (.cmp .eq (.call 20 [(.nm 0), (.lit (.int 2))]) (.lit (.int 0))) (.call 22 [(.nm 1)]) (.nm 1)),
  .asg 4 (.call 22 [(.nm 3)]),
  .asg 5 (.lst [(.call 34 [(.nm 3)]), (.call 35 [(.nm 3)]), (.call 36 [(.nm 3)]), (.call 37 [(.nm 3)])]),
  .ife (.cmp .ne (.call 22 [(.nm 3)]) (.nm 4)) [
    .ret (.lit (.bl false))] [],
  .ret (.cmp .eq (.bi .len [(.comp (.nm 7) (.irng1 (.lit (.int 4))) (.tnot (.call 21 [(.ix (.nm 5) (.nm 7)), (.tup [(.lit (.str "answer")), (.ix (.nm 2) (.nm 7))])])) [7] (.nm 7))]) (.lit (.int 0)))]
def b_law_wrong : List Mi.S := [
  .asg 2 (.ite (.cmp .eq (.call 20 [(.nm 0), (.lit (.int 3))]) (.lit (.int 0))) (.call 22 [(.nm 1)]) (.nm 1)),
  .asg 3 (.lst [(.call 34 [(.nm 2)]), (.call 35 [(.nm 2)]), (.call 36 [(.nm 2)]), (.call 37 [(.nm 2)])]),
  .ret (.cmp .eq (.bi .len [(.comp (.nm 4) (.iseq (.nm 3)) (.tnot (.call 21 [(.nm 4), (.tup [(.lit (.str "raised")), (.lit (.str "source")), (.lit (.int 0))])])) [4] (.nm 4))]) (.lit (.int 0)))]
def b_law_wrong_amount : List Mi.S := [
  .asg 1 (.tup [(.lit (.str "len"))]),
  .asg 2 (.lst [(.tup [(.lit (.str "num")), (.lit (.int 65536))]), (.tup [(.lit (.str "num")), (.neg (.lit (.int 1)))]), (.tup [(.lit (.str "num")), (.lit (.bl true))]), (.tup [(.lit (.str "num"))]), (.tup [(.lit (.str "num")), (.lit (.int 1)), (.lit (.int 1))]), (.tup [(.lit (.str "num")), (.lit .non)]), (.tup [(.lit (.str "var")), (.lit (.int 4))]), (.tup [(.lit (.str "var")), (.neg (.lit (.int 1)))]), (.tup [(.lit (.str "var")), (.lit (.bl false))]), (.tup [(.lit (.str "var"))]), (.tup [(.lit (.str "len")), (.lit (.int 0))]), (.tup [(.lit (.str "byte")), (.lit (.int 65536))]), (.tup [(.lit (.str "byte"))]), (.tup [(.lit (.str "byte")), (.neg (.lit (.int 1)))]), (.tup [(.lit (.str "byte")), (.lit (.bl true))]), (.tup [(.lit (.str "byteat")), (.lit (.int 4)), (.lit (.int 0))]), (.tup [(.lit (.str "byteat")), (.lit (.int 0)), (.lit (.int 65536))]), (.tup [(.lit (.str "byteat")), (.lit (.int 0))]), (.tup [(.lit (.str "byteat")), (.lit (.int 0)), (.lit (.int 0)), (.lit (.int 0))]), (.tup [(.lit (.str "byteat")), (.lit (.bl true)), (.lit (.int 0))]), (.tup [(.lit (.str "op")), (.lit (.str "add")), (.nm 1), (.lit (.int 65536))]), (.tup [(.lit (.str "op")), (.lit (.str "left")), (.nm 1), (.lit (.int 16))]), (.tup [(.lit (.str "op")), (.lit (.str "right")), (.nm 1), (.lit (.int 16))]), (.tup [(.lit (.str "op")), (.lit (.str "div")), (.nm 1), (.lit (.int 0))]), (.tup [(.lit (.str "op")), (.lit (.str "mod")), (.nm 1), (.lit (.int 0))]), (.tup [(.lit (.str "op")), (.lit (.str "pow")), (.nm 1), (.lit (.int 1))]), (.tup [(.lit (.str "op")), (.lit (.str "addx")), (.nm 1), (.lit (.int 1))]), (.tup [(.lit (.str "op")), (.lit (.str "add")), (.nm 1)]), (.tup [(.lit (.str "op")), (.lit (.str "xor")), (.nm 1), (.lit (.bl true))]), (.tup [(.lit (.str "op")), (.lit (.str "sub")), (.nm 1), (.neg (.lit (.int 1)))]), (.tup [(.lit (.str "op")), (.lit (.str "and")), (.nm 1), (.lit .non)]), (.tup [(.lit (.str "op")), (.lit (.str "add")), (.tup [(.lit (.str "eq")), (.nm 1), (.lit (.int 0))]), (.lit (.int 1))]), (.tup [(.lit (.str "op")), (.lit (.str "add")), (.lit (.int 3)), (.lit (.int 1))]), (.tup [(.lit (.str "op")), (.nm 1), (.lit (.str "add")), (.lit (.int 1))]), (.tup [(.lit (.str "with")), (.lit (.str "mul")), (.nm 1), (.lit (.int 0))]), (.tup [(.lit (.str "with")), (.lit (.str "add")), (.nm 1), (.lit (.int 4))]), (.tup [(.lit (.str "with")), (.lit (.str "and")), (.nm 1), (.lit (.int 1))]), (.tup [(.lit (.str "with")), (.lit (.str "addx")), (.nm 1), (.lit (.int 1))]), (.tup [(.lit (.str "with")), (.lit (.str "mod")), (.nm 1), (.lit (.bl true))]), (.tup [(.lit (.str "with")), (.lit (.str "sub")), (.lit (.str "len")), (.lit (.int 1))]), (.tup [(.lit (.str "with")), (.lit (.str "div")), (.nm 1)]), (.lit (.str "len")), (.lit .non), (.lit (.int 7)), (.tup []), (.tup [(.lit (.str "LEN"))]), (.tup [(.lit (.str "give")), (.nm 1)]), (.tup [(.lit (.str "length"))]), (.tup [(.tup [(.nm 1)])])]),
  .ret (.ix (.nm 2) (.call 20 [(.nm 0), (.bi .len [(.nm 2)])]))]
def b_law_wrong_test : List Mi.S := [
  .asg 1 (.tup [(.lit (.str "len"))]),
  .asg 2 (.tup [(.lit (.str "eq")), (.nm 1), (.lit (.int 1))]),
  .asg 3 (.lst [(.tup [(.lit (.str "eq")), (.nm 1), (.lit (.int 65536))]), (.tup [(.lit (.str "eq")), (.nm 1), (.neg (.lit (.int 1)))]), (.tup [(.lit (.str "eq")), (.nm 1)]), (.tup [(.lit (.str "eq")), (.nm 1), (.lit (.int 1)), (.lit (.int 2))]), (.tup [(.lit (.str "more")), (.nm 1), (.lit (.bl true))]), (.tup [(.lit (.str "more")), (.nm 1), (.lit (.int 65536))]), (.tup [(.lit (.str "same")), (.nm 1), (.lit (.int 4))]), (.tup [(.lit (.str "above")), (.nm 1), (.neg (.lit (.int 1)))]), (.tup [(.lit (.str "above")), (.nm 1), (.lit (.bl true))]), (.tup [(.lit (.str "above")), (.nm 1), (.lit (.int 4))]), (.tup [(.lit (.str "bits")), (.nm 1), (.lit .non)]), (.tup [(.lit (.str "bits")), (.nm 1), (.lit (.int 65536))]), (.tup [(.lit (.str "less")), (.nm 1), (.lit (.int 1))]), (.tup [(.lit (.str "not"))]), (.tup [(.lit (.str "not")), (.nm 1)]), (.tup [(.lit (.str "not")), (.nm 2), (.nm 2)]), (.tup [(.lit (.str "and")), (.nm 2)]), (.tup [(.lit (.str "and")), (.nm 2), (.nm 2), (.nm 2)]), (.tup [(.lit (.str "or")), (.nm 2), (.nm 1)]), (.tup [(.lit (.str "and")), (.nm 1), (.nm 2)]), (.tup [(.lit (.str "or")), (.nm 2)]), (.tup [(.lit (.str "bits")), (.nm 2), (.lit (.int 1))]), (.tup [(.lit (.str "same")), (.nm 2), (.lit (.int 0))]), (.lit (.bl true)), (.lit .non), (.lit (.int 1)), (.tup []), (.nm 1), (.tup [(.lit (.str "xor")), (.nm 2), (.nm 2)]), (.tup [(.lit (.str "same")), (.nm 1), (.lit (.bl false))])]),
  .ret (.ix (.nm 3) (.call 20 [(.nm 0), (.bi .len [(.nm 3)])]))]
def b_law_wrong_part : List Mi.S := [
  .asg 1 (.tup [(.lit (.str "len"))]),
  .asg 2 (.tup [(.lit (.str "eq")), (.nm 1), (.lit (.int 1))]),
  .asg 3 (.lst [(.tup [(.lit (.str "let")), (.lit (.int 4)), (.nm 1)]), (.tup [(.lit (.str "let")), (.neg (.lit (.int 1))), (.nm 1)]), (.tup [(.lit (.str "let")), (.lit (.bl true)), (.nm 1)]), (.tup [(.lit (.str "let")), (.lit (.int 0))]), (.tup [(.lit (.str "let")), (.lit (.int 0)), (.nm 1), (.nm 1)]), (.tup [(.lit (.str "let")), (.nm 1), (.lit (.int 0))]), (.tup [(.lit (.str "let")), (.lit (.int 0)), (.nm 2)]), (.tup [(.lit (.str "let")), (.lit (.int 0)), (.lit (.int 5))]), (.tup [(.lit (.str "if")), (.nm 2), (.tup [])]), (.tup [(.lit (.str "if")), (.nm 2), (.tup []), (.tup []), (.tup [])]), (.tup [(.lit (.str "if")), (.nm 1), (.tup []), (.tup [])]), (.tup [(.lit (.str "if")), (.nm 2), (.tup []), (.tup [(.lit (.str "give")), (.nm 1)])]), (.tup [(.lit (.str "if")), (.nm 2), (.tup [(.lit (.str "give")), (.nm 1)]), (.tup [])]), (.tup [(.lit (.str "if")), (.nm 2), (.lit .non), (.tup [])]), (.tup [(.lit (.str "if")), (.nm 2), (.tup []), (.lit (.int 0))]), (.tup [(.lit (.str "loop")), (.lit (.int 4)), (.tup [])]), (.tup [(.lit (.str "loop")), (.lit (.bl true)), (.tup [])]), (.tup [(.lit (.str "loop")), (.lit (.int 0))]), (.tup [(.lit (.str "loop")), (.lit (.int 0)), (.tup []), (.tup [])]), (.tup [(.lit (.str "loop")), (.lit (.int 0)), (.tup [(.lit (.str "give")), (.nm 1)])]), (.tup [(.lit (.str "loop")), (.lit (.int 0)), (.nm 1)]), (.tup [(.lit (.str "loop")), (.nm 2), (.tup [])]), (.tup [(.lit (.str "loop")), (.lit (.int 0)), (.lit .non)]), (.tup [(.lit (.str "give"))]), (.tup [(.lit (.str "give")), (.nm 2)]), (.tup [(.lit (.str "give")), (.nm 1), (.nm 1)]), (.tup [(.lit (.str "give")), (.lit (.int 5))]), (.tup [(.lit (.str "end"))]), (.tup [(.lit (.str "give")), (.tup [])]), (.lit (.int 5)), (.lit (.str "give")), (.lit .non), (.tup []), (.nm 1), (.nm 2), (.tup [(.lit (.str "set")), (.lit (.int 0)), (.nm 1)]), (.tup [(.lit (.str "while")), (.lit (.int 0)), (.tup [])])]),
  .ret (.ix (.nm 3) (.call 20 [(.nm 0), (.bi .len [(.nm 3)])]))]
def b_law_around_amount : List Mi.S := [
  .asg 2 (.tup [(.lit (.str "eq")), (.tup [(.lit (.str "len"))]), (.lit (.int 1))]),
  .ret (.ix (.lst [(.tup [(.lit (.str "let")), (.lit (.int 1)), (.nm 0)]), (.tup [(.lit (.str "give")), (.nm 0)]), (.tup [(.lit (.str "give")), (.tup [(.lit (.str "op")), (.lit (.str "add")), (.nm 0), (.lit (.int 1))])]), (.tup [(.lit (.str "let")), (.lit (.int 2)), (.tup [(.lit (.str "with")), (.lit (.str "sub")), (.nm 0), (.lit (.int 2))])]), (.tup [(.lit (.str "if")), (.tup [(.lit (.str "more")), (.nm 0), (.lit (.int 1))]), (.tup []), (.tup [])]), (.tup [(.lit (.str "if")), (.tup [(.lit (.str "not")), (.tup [(.lit (.str "above")), (.nm 0), (.lit (.int 1))])]), (.tup []), (.tup [])]), (.tup [(.lit (.str "if")), (.tup [(.lit (.str "and")), (.nm 2), (.tup [(.lit (.str "eq")), (.nm 0), (.lit (.int 1))])]), (.tup []), (.tup [])]), (.tup [(.lit (.str "if")), (.tup [(.lit (.str "or")), (.tup [(.lit (.str "bits")), (.nm 0), (.lit (.int 1))]), (.nm 2)]), (.tup []), (.tup [])]), (.tup [(.lit (.str "if")), (.tup [(.lit (.str "same")), (.tup [(.lit (.str "op")), (.lit (.str "xor")), (.nm 0), (.lit (.int 7))]), (.lit (.int 3))]), (.tup []), (.tup [])])]) (.nm 1))]
def b_law_around_test : List Mi.S := [
  .asg 2 (.tup [(.lit (.str "eq")), (.tup [(.lit (.str "len"))]), (.lit (.int 1))]),
  .ret (.ix (.lst [(.tup [(.lit (.str "if")), (.nm 0), (.tup []), (.tup [])]), (.tup [(.lit (.str "if")), (.tup [(.lit (.str "not")), (.nm 0)]), (.tup []), (.tup [])]), (.tup [(.lit (.str "if")), (.tup [(.lit (.str "and")), (.nm 0), (.nm 2)]), (.tup []), (.tup [])]), (.tup [(.lit (.str "if")), (.tup [(.lit (.str "or")), (.nm 2), (.nm 0)]), (.tup []), (.tup [])]), (.tup [(.lit (.str "if")), (.tup [(.lit (.str "not")), (.tup [(.lit (.str "and")), (.nm 2), (.nm 0)])]), (.tup []), (.tup [])]), (.tup [(.lit (.str "if")), (.tup [(.lit (.str "or")), (.tup [(.lit (.str "not")), (.nm 0)]), (.nm 2)]), (.tup []), (.tup [])])]) (.nm 1))]
def b_law_around_part : List Mi.S := [
  .asg 4 (.tup [(.lit (.str "eq")), (.tup [(.lit (.str "len"))]), (.lit (.int 1))]),
  .asg 5 (.sl (.lst [(.tup [(.lit (.str "let")), (.lit (.int 3)), (.tup [(.lit (.str "num")), (.lit (.int 5))])]), (.tup [(.lit (.str "loop")), (.lit (.int 3)), (.tup [])]), (.tup [(.lit (.str "give")), (.tup [(.lit (.str "byte")), (.lit (.int 0))])])]) (.lit .non) (.part (.nm 1))),
  .asg 6 (.bi .tuple [(.op .add (.op .add (.sl (.nm 5) (.lit .non) (.part (.nm 2))) (.lst [(.nm 0)])) (.sl (.nm 5) (.part (.nm 2)) (.lit .non)))]),
  .ret (.ix (.lst [(.nm 6), (.tup [(.tup [(.lit (.str "loop")), (.lit (.int 0)), (.nm 6)])]), (.tup [(.tup [(.lit (.str "if")), (.nm 4), (.nm 6), (.tup [])])]), (.tup [(.tup [(.lit (.str "if")), (.nm 4), (.tup []), (.nm 6)]), (.tup [(.lit (.str "give")), (.tup [(.lit (.str "len"))])])])]) (.nm 3))]
def b_law_one_place : List Mi.S := [
  .asg 1 (.call 20 [(.nm 0), (.lit (.int 3))]),
  .asg 2 (.call 20 [(.nm 0), (.lit (.int 18))]),
  .asg 3 (.call 20 [(.nm 0), (.lit (.int 4))]),
  .asg 4 (.call 20 [(.nm 0), (.op .add (.nm 3) (.lit (.int 1)))]),
  .asg 5 (.call 20 [(.nm 0), (.lit (.int 4))]),
  .ife (.cmp .eq (.nm 1) (.lit (.int 0))) [
    .asg 6 (.call 45 [(.tup [(.lit (.str "byteat")), (.lit (.int 3)), (.lit (.int 65535))]), (.op .mod (.bi .int [(.nm 2)]) (.lit (.int 9)))]),
    .asg 7 (.call 45 [(.call 42 [(.nm 0)]), (.op .mod (.bi .int [(.nm 2)]) (.lit (.int 9)))])] [
    .ife (.cmp .eq (.nm 1) (.lit (.int 1))) [
      .asg 6 (.call 46 [(.tup [(.lit (.str "above")), (.tup [(.lit (.str "num")), (.lit (.int 65535))]), (.lit (.int 3))]), (.op .mod (.bi .int [(.nm 2)]) (.lit (.int 6)))]),
      .asg 7 (.call 46 [(.call 43 [(.nm 0)]), (.op .mod (.bi .int [(.nm 2)]) (.lit (.int 6)))])] [
      .asg 6 (.tup [(.lit (.str "let")), (.lit (.int 3)), (.tup [(.lit (.str "op")), (.lit (.str "right")), (.tup [(.lit (.str "len"))]), (.lit (.int 15))])]),
      .asg 7 (.call 44 [(.nm 0)])]],
  .ife (.tnot (.call 40 [(.nm 0), (.call 47 [(.nm 6), (.nm 3), (.nm 4), (.nm 5)])])) [
    .ret (.lit (.bl false))] [],
  .ret (.call 41 [(.nm 0), (.call 47 [(.nm 7), (.nm 3), (.nm 4), (.nm 5)])])]
def b_law_full_block : List Mi.S := [
  .asg 3 (.comp (.nm 6) (.irng1 (.nm 1)) (.lit (.bl true)) [6] (.ix (.tup [(.tup [(.lit (.str "loop")), (.lit (.int 0)), (.tup [])]), (.tup [(.lit (.str "give")), (.tup [(.lit (.str "len"))])]), (.tup [(.lit (.str "let")), (.lit (.int 2)), (.tup [(.lit (.str "num")), (.lit (.int 9))])])]) (.call 20 [(.nm 0), (.lit (.int 3))]))),
  .asg 4 (.tup [(.lit (.str "same")), (.tup [(.lit (.str "len"))]), (.lit (.int 3))]),
  .asg 5 (.bi .tuple [(.nm 3)]),
  .ret (.ix (.lst [(.nm 5), (.tup [(.tup [(.lit (.str "loop")), (.lit (.int 1)), (.nm 5)])]), (.tup [(.tup [(.lit (.str "if")), (.nm 4), (.tup []), (.nm 5)])]), (.tup [(.tup [(.lit (.str "if")), (.nm 4), (.nm 5), (.tup [])])])]) (.nm 2))]
def b_law : List Mi.S := [
  .ife (.tnot (.call 40 [(.nm 1), (.call 31 [(.nm 1), (.lit (.int 6)), (.lit (.bl true)), (.lit (.int 200))])])) [
    .ret (.lit (.bl false))] [],
  .forS (.nm 2) (.irng1 (.lit (.int 3))) [
    .ife (.tnot (.call 48 [(.nm 1)])) [
      .ret (.lit (.bl false))] []],
  .asg 3 (.call 20 [(.nm 1), (.lit (.int 4))]),
  .ife (.tnot (.call 40 [(.nm 1), (.call 49 [(.nm 1), (.lit (.int 20)), (.nm 3)])])) [
    .ret (.lit (.bl false))] [],
  .ife (.tnot (.call 41 [(.nm 1), (.call 49 [(.nm 1), (.lit (.int 21)), (.nm 3)])])) [
    .ret (.lit (.bl false))] [],
  .ife (.tor (.tnot (.call 40 [(.nm 1), (.call 32 [(.nm 1), (.lit (.int 12))])])) (.tnot (.call 41 [(.nm 1), (.call 32 [(.nm 1), (.lit (.int 13))])]))) [
    .ret (.lit (.bl false))] [],
  .ife (.tor (.tnot (.call 40 [(.nm 1), (.call 33 [(.nm 1), (.lit (.int 200))])])) (.tnot (.call 41 [(.nm 1), (.call 33 [(.nm 1), (.lit (.int 201))])]))) [
    .ret (.lit (.bl false))] [],
  .asg 4 (.lst [(.lit .non), (.lit (.int 5)), (.lit (.str "")), (.lit (.bl true)), (.lit (.str "{ }")), (.tup [(.lit (.str "give")), (.tup [(.lit (.str "len"))])]), (.tup [(.lit (.str "len"))]), (.tup [(.tup [])]), (.tup [(.tup [(.lit (.str "len"))])]), (.lit (.bl false))]),
  .ret (.and (.call 41 [(.nm 1), (.ix (.nm 4) (.call 20 [(.nm 1), (.bi .len [(.nm 4)])]))]) (.call 40 [(.nm 1), (.tup [])]))]
def T0 : List Fn := [.dfn 3 3 b_is_from_to, .dfn 1 1 b_is_row, .dfn 1 1 b_is_word, .dfn 2 3 b_tupled, .dfn 3 3 b_fits_form, .dfn 1 1 b_is_variable, .dfn 1 3 b_amount_shape, .dfn 1 1 b_test_shape, .dfn 1 1 b_line_shape, .dfn 2 3 b_parts_of, .dfn 1 10 b_count_parts, .dfn 1 1 b_checked_source, .dfn 1 1 b_check_source, .dfn 1 1 b_parts_in, .dfn 1 3 b_all_parts, .dfn 2 2 b_variables_in, .dfn 1 5 b_variables_of, .dfn 1 3 b_nested_in, .dfn 1 1 b_blocks_deep, .dfn 1 4 b_law_begin, .dfn 2 3 b_law_draw, .dfn 2 3 b_law_same, .dfn 1 2 b_law_lists, .dfn 1 5 b_law_error, .dfn 1 3 b_law_parts, .dfn 1 2 b_law_word, .dfn 3 5 b_law_leaf, .dfn 4 8 b_law_amount, .dfn 4 8 b_law_test, .dfn 4 11 b_law_part, .dfn 5 7 b_law_block, .dfn 4 7 b_law_source, .dfn 2 10 b_law_tower, .dfn 2 11 b_law_wide, .dfn 1 2 b_law_check_asked, .dfn 1 2 b_law_parts_asked, .dfn 1 2 b_law_variables_asked, .dfn 1 2 b_law_deep_asked, .dfn 2 3 b_law_uses, .dfn 1 3 b_law_nested, .dfn 2 8 b_law_right, .dfn 2 5 b_law_wrong, .dfn 1 3 b_law_wrong_amount, .dfn 1 4 b_law_wrong_test, .dfn 1 4 b_law_wrong_part, .dfn 2 3 b_law_around_amount, .dfn 2 3 b_law_around_test, .dfn 4 7 b_law_around_part, .dfn 1 8 b_law_one_place, .dfn 3 7 b_law_full_block]
@[irreducible] def T : List Fn := T0
theorem T_ds {K : PySem.W.Frag} {mg : Str → Option Value} (h : DefsAt K mg tp 0 fns T0) : DefsAt K mg tp 0 fns T := by
  unfold T
  exact h
theorem okT : okTab fns T = true := by kernel_rfl
theorem d_is_from_to : T[0]? = some (.dfn 3 3 b_is_from_to) := by kernel_rfl
theorem d_is_row : T[1]? = some (.dfn 1 1 b_is_row) := by kernel_rfl
theorem d_is_word : T[2]? = some (.dfn 1 1 b_is_word) := by kernel_rfl
theorem d_tupled : T[3]? = some (.dfn 2 3 b_tupled) := by kernel_rfl
theorem d_fits_form : T[4]? = some (.dfn 3 3 b_fits_form) := by kernel_rfl
theorem d_is_variable : T[5]? = some (.dfn 1 1 b_is_variable) := by kernel_rfl
theorem d_amount_shape : T[6]? = some (.dfn 1 3 b_amount_shape) := by kernel_rfl
theorem d_test_shape : T[7]? = some (.dfn 1 1 b_test_shape) := by kernel_rfl
theorem d_line_shape : T[8]? = some (.dfn 1 1 b_line_shape) := by kernel_rfl
theorem d_parts_of : T[9]? = some (.dfn 2 3 b_parts_of) := by kernel_rfl
theorem d_count_parts : T[10]? = some (.dfn 1 10 b_count_parts) := by kernel_rfl
theorem d_checked_source : T[11]? = some (.dfn 1 1 b_checked_source) := by kernel_rfl
theorem d_check_source : T[12]? = some (.dfn 1 1 b_check_source) := by kernel_rfl
theorem d_parts_in : T[13]? = some (.dfn 1 1 b_parts_in) := by kernel_rfl
theorem d_all_parts : T[14]? = some (.dfn 1 3 b_all_parts) := by kernel_rfl
theorem d_variables_in : T[15]? = some (.dfn 2 2 b_variables_in) := by kernel_rfl
theorem d_variables_of : T[16]? = some (.dfn 1 5 b_variables_of) := by kernel_rfl
theorem d_nested_in : T[17]? = some (.dfn 1 3 b_nested_in) := by kernel_rfl
theorem d_blocks_deep : T[18]? = some (.dfn 1 1 b_blocks_deep) := by kernel_rfl
theorem d_law_begin : T[19]? = some (.dfn 1 4 b_law_begin) := by kernel_rfl
theorem d_law_draw : T[20]? = some (.dfn 2 3 b_law_draw) := by kernel_rfl
theorem d_law_same : T[21]? = some (.dfn 2 3 b_law_same) := by kernel_rfl
theorem d_law_lists : T[22]? = some (.dfn 1 2 b_law_lists) := by kernel_rfl
theorem d_law_error : T[23]? = some (.dfn 1 5 b_law_error) := by kernel_rfl
theorem d_law_parts : T[24]? = some (.dfn 1 3 b_law_parts) := by kernel_rfl
theorem d_law_word : T[25]? = some (.dfn 1 2 b_law_word) := by kernel_rfl
theorem d_law_leaf : T[26]? = some (.dfn 3 5 b_law_leaf) := by kernel_rfl
theorem d_law_amount : T[27]? = some (.dfn 4 8 b_law_amount) := by kernel_rfl
theorem d_law_test : T[28]? = some (.dfn 4 8 b_law_test) := by kernel_rfl
theorem d_law_part : T[29]? = some (.dfn 4 11 b_law_part) := by kernel_rfl
theorem d_law_block : T[30]? = some (.dfn 5 7 b_law_block) := by kernel_rfl
theorem d_law_source : T[31]? = some (.dfn 4 7 b_law_source) := by kernel_rfl
theorem d_law_tower : T[32]? = some (.dfn 2 10 b_law_tower) := by kernel_rfl
theorem d_law_wide : T[33]? = some (.dfn 2 11 b_law_wide) := by kernel_rfl
theorem d_law_check_asked : T[34]? = some (.dfn 1 2 b_law_check_asked) := by kernel_rfl
theorem d_law_parts_asked : T[35]? = some (.dfn 1 2 b_law_parts_asked) := by kernel_rfl
theorem d_law_variables_asked : T[36]? = some (.dfn 1 2 b_law_variables_asked) := by kernel_rfl
theorem d_law_deep_asked : T[37]? = some (.dfn 1 2 b_law_deep_asked) := by kernel_rfl
theorem d_law_uses : T[38]? = some (.dfn 2 3 b_law_uses) := by kernel_rfl
theorem d_law_nested : T[39]? = some (.dfn 1 3 b_law_nested) := by kernel_rfl
theorem d_law_right : T[40]? = some (.dfn 2 8 b_law_right) := by kernel_rfl
theorem d_law_wrong : T[41]? = some (.dfn 2 5 b_law_wrong) := by kernel_rfl
theorem d_law_wrong_amount : T[42]? = some (.dfn 1 3 b_law_wrong_amount) := by kernel_rfl
theorem d_law_wrong_test : T[43]? = some (.dfn 1 4 b_law_wrong_test) := by kernel_rfl
theorem d_law_wrong_part : T[44]? = some (.dfn 1 4 b_law_wrong_part) := by kernel_rfl
theorem d_law_around_amount : T[45]? = some (.dfn 2 3 b_law_around_amount) := by kernel_rfl
theorem d_law_around_test : T[46]? = some (.dfn 2 3 b_law_around_test) := by kernel_rfl
theorem d_law_around_part : T[47]? = some (.dfn 4 7 b_law_around_part) := by kernel_rfl
theorem d_law_one_place : T[48]? = some (.dfn 1 8 b_law_one_place) := by kernel_rfl
theorem d_law_full_block : T[49]? = some (.dfn 3 7 b_law_full_block) := by kernel_rfl
theorem tx_is_from_to : DefTx tp false "is_from_to" (topS 17) ["value", "least", "most"] 3 b_is_from_to := ⟨(fun _ _ _ _ _ _ us hl => match us, hl with | [_, _, _], _ => rfl), ⟨["value", "least", "most"], [], [], [], [], 200, rfl, by decide, ⟨rfl, rfl, rfl, by decide +kernel, rfl, by decide +kernel, by decide +kernel⟩, by kernel_rfl⟩, rfl⟩
theorem tx_is_row : DefTx tp false "is_row" (topS 18) ["value"] 1 b_is_row := ⟨(fun _ _ _ _ _ _ us hl => match us, hl with | [_], _ => rfl), ⟨["value"], [], [], [], [], 200, rfl, by decide, ⟨rfl, rfl, rfl, by decide +kernel, rfl, by decide +kernel, by decide +kernel⟩, by kernel_rfl⟩, rfl⟩
theorem tx_is_word : DefTx tp false "is_word" (topS 19) ["value"] 1 b_is_word := ⟨(fun _ _ _ _ _ _ us hl => match us, hl with | [_], _ => rfl), ⟨["value"], [], [], [], [], 200, rfl, by decide, ⟨rfl, rfl, rfl, by decide +kernel, rfl, by decide +kernel, by decide +kernel⟩, by kernel_rfl⟩, rfl⟩
theorem tx_tupled : DefTxD tp false "tupled" (topS 20) ["value", "deep"] 3 b_tupled (.int 8) := ⟨(fun _ _ _ _ _ _ _ us its h1 h2 => match us, its, h1, h2 with | [_, _], [_], _, _ => ⟨_, rfl, rfl⟩), (fun _ _ _ _ _ _ _ us its h1 h2 => match us, its, h1, h2 with | [_], [_], _, _ => ⟨_, rfl, rfl⟩), by decide, ⟨["value", "deep", "part"], ["deep"], [], [], [], 200, rfl, by decide, ⟨rfl, rfl, rfl, by decide +kernel, rfl, by decide +kernel, by decide +kernel⟩, by kernel_rfl⟩, rfl⟩
theorem tx_fits_form : DefTx tp false "fits_form" (topS 25) ["form", "value", "rows"] 3 b_fits_form := ⟨(fun _ _ _ _ _ _ us hl => match us, hl with | [_, _, _], _ => rfl), ⟨["form", "value", "rows"], [], [], [], [], 200, rfl, by decide, ⟨rfl, rfl, rfl, by decide +kernel, rfl, by decide +kernel, by decide +kernel⟩, by kernel_rfl⟩, rfl⟩
theorem tx_is_variable : DefTx tp false "is_variable" (topS 36) ["value"] 1 b_is_variable := ⟨(fun _ _ _ _ _ _ us hl => match us, hl with | [_], _ => rfl), ⟨["value"], [], [], [], [], 200, rfl, by decide, ⟨rfl, rfl, rfl, by decide +kernel, rfl, by decide +kernel, by decide +kernel⟩, by kernel_rfl⟩, rfl⟩
theorem tx_amount_shape : DefTx tp false "amount_shape" (topS 37) ["value"] 3 b_amount_shape := ⟨(fun _ _ _ _ _ _ us hl => match us, hl with | [_], _ => rfl), ⟨["value", "form", "named"], [], [], [], [], 200, rfl, by decide, ⟨rfl, rfl, rfl, by decide +kernel, rfl, by decide +kernel, by decide +kernel⟩, by kernel_rfl⟩, rfl⟩
theorem tx_test_shape : DefTx tp false "test_shape" (topS 38) ["value"] 1 b_test_shape := ⟨(fun _ _ _ _ _ _ us hl => match us, hl with | [_], _ => rfl), ⟨["value"], [], [], [], [], 200, rfl, by decide, ⟨rfl, rfl, rfl, by decide +kernel, rfl, by decide +kernel, by decide +kernel⟩, by kernel_rfl⟩, rfl⟩
theorem tx_line_shape : DefTx tp false "line_shape" (topS 39) ["value"] 1 b_line_shape := ⟨(fun _ _ _ _ _ _ us hl => match us, hl with | [_], _ => rfl), ⟨["value"], [], [], [], [], 200, rfl, by decide, ⟨rfl, rfl, rfl, by decide +kernel, rfl, by decide +kernel, by decide +kernel⟩, by kernel_rfl⟩, rfl⟩
theorem tx_parts_of : DefTx tp false "parts_of" (topS 40) ["kind", "value"] 3 b_parts_of := ⟨(fun _ _ _ _ _ _ us hl => match us, hl with | [_, _], _ => rfl), ⟨["kind", "value", "line"], [], [], [], [], 200, rfl, by decide, ⟨rfl, rfl, rfl, by decide +kernel, rfl, by decide +kernel, by decide +kernel⟩, by kernel_rfl⟩, rfl⟩
theorem tx_count_parts : DefTx tp false "count_parts" (topS 41) ["source"] 10 b_count_parts := ⟨(fun _ _ _ _ _ _ us hl => match us, hl with | [_], _ => rfl), ⟨["source", "waiting", "many", "kind", "value", "deep", "parts", "below", "its", "part"], ["below"], [1], [], [], 200, rfl, by decide, ⟨rfl, rfl, rfl, by decide +kernel, rfl, by decide +kernel, by decide +kernel⟩, by kernel_rfl⟩, rfl⟩
theorem tx_checked_source : DefTx tp false "checked_source" (topS 42) ["source"] 1 b_checked_source := ⟨(fun _ _ _ _ _ _ us hl => match us, hl with | [_], _ => rfl), ⟨["source"], [], [], [], [], 200, rfl, by decide, ⟨rfl, rfl, rfl, by decide +kernel, rfl, by decide +kernel, by decide +kernel⟩, by kernel_rfl⟩, rfl⟩
theorem tx_check_source : DefTx tp false "check_source" (topS 43) ["source"] 1 b_check_source := ⟨(fun _ _ _ _ _ _ us hl => match us, hl with | [_], _ => rfl), ⟨["source"], [], [], [], [], 200, rfl, by decide, ⟨rfl, rfl, rfl, by decide +kernel, rfl, by decide +kernel, by decide +kernel⟩, by kernel_rfl⟩, rfl⟩
theorem tx_parts_in : DefTx tp false "parts_in" (topS 44) ["source"] 1 b_parts_in := ⟨(fun _ _ _ _ _ _ us hl => match us, hl with | [_], _ => rfl), ⟨["source"], [], [], [], [], 200, rfl, by decide, ⟨rfl, rfl, rfl, by decide +kernel, rfl, by decide +kernel, by decide +kernel⟩, by kernel_rfl⟩, rfl⟩
theorem tx_all_parts : DefTx tp false "all_parts" (topS 45) ["source"] 3 b_all_parts := ⟨(fun _ _ _ _ _ _ us hl => match us, hl with | [_], _ => rfl), ⟨["source", "found", "at"], [], [1], [], [], 200, rfl, by decide, ⟨rfl, rfl, rfl, by decide +kernel, rfl, by decide +kernel, by decide +kernel⟩, by kernel_rfl⟩, rfl⟩
theorem tx_variables_in : DefTx tp false "variables_in" (topS 46) ["kind", "value"] 2 b_variables_in := ⟨(fun _ _ _ _ _ _ us hl => match us, hl with | [_, _], _ => rfl), ⟨["kind", "value"], [], [], [], [], 200, rfl, by decide, ⟨rfl, rfl, rfl, by decide +kernel, rfl, by decide +kernel, by decide +kernel⟩, by kernel_rfl⟩, rfl⟩
theorem tx_variables_of : DefTx tp false "variables_of" (topS 47) ["source"] 5 b_variables_of := ⟨(fun _ _ _ _ _ _ us hl => match us, hl with | [_], _ => rfl), ⟨["source", "parts", "kind", "value", "one"], [], [], [], [], 200, rfl, by decide, ⟨rfl, rfl, rfl, by decide +kernel, rfl, by decide +kernel, by decide +kernel⟩, by kernel_rfl⟩, rfl⟩
theorem tx_nested_in : DefTx tp false "nested_in" (topS 48) ["block"] 3 b_nested_in := ⟨(fun _ _ _ _ _ _ us hl => match us, hl with | [_], _ => rfl), ⟨["block", "found", "line"], [], [1], [], [], 200, rfl, by decide, ⟨rfl, rfl, rfl, by decide +kernel, rfl, by decide +kernel, by decide +kernel⟩, by kernel_rfl⟩, rfl⟩
theorem tx_blocks_deep : DefTx tp false "blocks_deep" (topS 49) ["source"] 1 b_blocks_deep := ⟨(fun _ _ _ _ _ _ us hl => match us, hl with | [_], _ => rfl), ⟨["source"], [], [], [], [], 200, rfl, by decide, ⟨rfl, rfl, rfl, by decide +kernel, rfl, by decide +kernel, by decide +kernel⟩, by kernel_rfl⟩, rfl⟩
theorem tx_law_begin : DefTx tp false "_law_begin" (topS 51) ["script"] 4 b_law_begin := ⟨(fun _ _ _ _ _ _ us hl => match us, hl with | [_], _ => rfl), ⟨["script", "mixed", "cell", "great"], [], [3], [], [], 200, rfl, by decide, ⟨rfl, rfl, rfl, by decide +kernel, rfl, by decide +kernel, by decide +kernel⟩, by kernel_rfl⟩, rfl⟩
theorem tx_law_draw : DefTx tp false "_law_draw" (topS 52) ["state", "many"] 3 b_law_draw := ⟨(fun _ _ _ _ _ _ us hl => match us, hl with | [_, _], _ => rfl), ⟨["state", "many", "drawn"], [], [], [], [], 200, rfl, by decide, ⟨rfl, rfl, rfl, by decide +kernel, rfl, by decide +kernel, by decide +kernel⟩, by kernel_rfl⟩, rfl⟩
theorem tx_law_same : DefTx tp false "_law_same" (topS 53) ["told", "due"] 3 b_law_same := ⟨(fun _ _ _ _ _ _ us hl => match us, hl with | [_, _], _ => rfl), ⟨["told", "due", "k"], ["told", "due"], [], [], [], 200, rfl, by decide, ⟨rfl, rfl, rfl, by decide +kernel, rfl, by decide +kernel, by decide +kernel⟩, by kernel_rfl⟩, rfl⟩
theorem tx_law_lists : DefTx tp false "_law_lists" (topS 54) ["thing"] 2 b_law_lists := ⟨(fun _ _ _ _ _ _ us hl => match us, hl with | [_], _ => rfl), ⟨["thing", "x"], [], [], [], [], 200, rfl, by decide, ⟨rfl, rfl, rfl, by decide +kernel, rfl, by decide +kernel, by decide +kernel⟩, by kernel_rfl⟩, rfl⟩
theorem tx_law_error : DefTx tp true "_law_error" (topS 55) ["e"] 5 b_law_error := ⟨(fun _ _ _ _ _ _ us hl => match us, hl with | [_], _ => rfl), ⟨["e", "flags", "names", "found", "k"], ["flags"], [1, 3], [], [], 200, rfl, by decide, ⟨rfl, rfl, rfl, by decide +kernel, rfl, by decide +kernel, by decide +kernel⟩, by kernel_rfl⟩, rfl⟩
theorem tx_law_parts : DefTx tp false "_law_parts" (topS 56) ["thing"] 3 b_law_parts := ⟨(fun _ _ _ _ _ _ us hl => match us, hl with | [_], _ => rfl), ⟨["thing", "here", "x"], [], [], [], [], 200, rfl, by decide, ⟨rfl, rfl, rfl, by decide +kernel, rfl, by decide +kernel, by decide +kernel⟩, by kernel_rfl⟩, rfl⟩
theorem tx_law_word : DefTx tp false "_law_word" (topS 57) ["state"] 2 b_law_word := ⟨(fun _ _ _ _ _ _ us hl => match us, hl with | [_], _ => rfl), ⟨["state", "pick"], [], [], [], [], 200, rfl, by decide, ⟨rfl, rfl, rfl, by decide +kernel, rfl, by decide +kernel, by decide +kernel⟩, by kernel_rfl⟩, rfl⟩
theorem tx_law_leaf : DefTx tp false "_law_leaf" (topS 58) ["state", "safe", "wild"] 5 b_law_leaf := ⟨(fun _ _ _ _ _ _ us hl => match us, hl with | [_, _, _], _ => rfl), ⟨["state", "safe", "wild", "pick", "spot"], [], [], [], [], 200, rfl, by decide, ⟨rfl, rfl, rfl, by decide +kernel, rfl, by decide +kernel, by decide +kernel⟩, by kernel_rfl⟩, rfl⟩
theorem tx_law_amount : DefTx tp false "_law_amount" (topS 59) ["state", "deep", "safe", "wild"] 8 b_law_amount := ⟨(fun _ _ _ _ _ _ us hl => match us, hl with | [_, _, _, _], _ => rfl), ⟨["state", "deep", "safe", "wild", "pick", "inner", "name", "k"], [], [], [], [], 200, rfl, by decide, ⟨rfl, rfl, rfl, by decide +kernel, rfl, by decide +kernel, by decide +kernel⟩, by kernel_rfl⟩, rfl⟩
theorem tx_law_test : DefTx tp false "_law_test" (topS 60) ["state", "deep", "safe", "wild"] 8 b_law_test := ⟨(fun _ _ _ _ _ _ us hl => match us, hl with | [_, _, _, _], _ => rfl), ⟨["state", "deep", "safe", "wild", "pick", "one", "amount", "name"], [], [], [], [], 200, rfl, by decide, ⟨rfl, rfl, rfl, by decide +kernel, rfl, by decide +kernel, by decide +kernel⟩, by kernel_rfl⟩, rfl⟩
theorem tx_law_part : DefTx tp false "_law_part" (topS 61) ["state", "deep", "safe", "wild"] 11 b_law_part := ⟨(fun _ _ _ _ _ _ us hl => match us, hl with | [_, _, _, _], _ => rfl), ⟨["state", "deep", "safe", "wild", "pick", "v", "k", "test", "one", "starts", "start"], [], [], [], [], 200, rfl, by decide, ⟨rfl, rfl, rfl, by decide +kernel, rfl, by decide +kernel, by decide +kernel⟩, by kernel_rfl⟩, rfl⟩
theorem tx_law_block : DefTx tp false "_law_block" (topS 62) ["state", "many", "deep", "safe", "wild"] 7 b_law_block := ⟨(fun _ _ _ _ _ _ us hl => match us, hl with | [_, _, _, _, _], _ => rfl), ⟨["state", "many", "deep", "safe", "wild", "parts", "k"], [], [], [], [], 200, rfl, by decide, ⟨rfl, rfl, rfl, by decide +kernel, rfl, by decide +kernel, by decide +kernel⟩, by kernel_rfl⟩, rfl⟩
theorem tx_law_source : DefTx tp false "_law_source" (topS 63) ["state", "many", "wild", "most"] 7 b_law_source := ⟨(fun _ _ _ _ _ _ us hl => match us, hl with | [_, _, _, _], _ => rfl), ⟨["state", "many", "wild", "most", "k", "last", "source"], [], [], [], [], 200, rfl, by decide, ⟨rfl, rfl, rfl, by decide +kernel, rfl, by decide +kernel, by decide +kernel⟩, by kernel_rfl⟩, rfl⟩
theorem tx_law_tower : DefTx tp false "_law_tower" (topS 64) ["state", "high"] 10 b_law_tower := ⟨(fun _ _ _ _ _ _ us hl => match us, hl with | [_, _], _ => rfl), ⟨["state", "high", "thing", "wraps", "k", "at", "more", "side", "part", "pick"], [], [], [], [], 200, rfl, by decide, ⟨rfl, rfl, rfl, by decide +kernel, rfl, by decide +kernel, by decide +kernel⟩, by kernel_rfl⟩, rfl⟩
theorem tx_law_wide : DefTx tp false "_law_wide" (topS 65) ["state", "total"] 11 b_law_wide := ⟨(fun _ _ _ _ _ _ us hl => match us, hl with | [_, _], _ => rfl), ⟨["state", "total", "sizes", "one", "other", "nested", "spot", "parts", "k", "thing", "at"], [], [2, 7], [], [], 200, rfl, by decide, ⟨rfl, rfl, rfl, by decide +kernel, rfl, by decide +kernel, by decide +kernel⟩, by kernel_rfl⟩, rfl⟩
theorem tx_law_check_asked : DefTx tp false "_law_check_asked" (topS 66) ["source"] 2 b_law_check_asked := ⟨(fun _ _ _ _ _ _ us hl => match us, hl with | [_], _ => rfl), ⟨["source", "e"], [], [], [], [], 200, rfl, by decide, ⟨rfl, rfl, rfl, by decide +kernel, rfl, by decide +kernel, by decide +kernel⟩, by kernel_rfl⟩, rfl⟩
theorem tx_law_parts_asked : DefTx tp false "_law_parts_asked" (topS 67) ["source"] 2 b_law_parts_asked := ⟨(fun _ _ _ _ _ _ us hl => match us, hl with | [_], _ => rfl), ⟨["source", "e"], [], [], [], [], 200, rfl, by decide, ⟨rfl, rfl, rfl, by decide +kernel, rfl, by decide +kernel, by decide +kernel⟩, by kernel_rfl⟩, rfl⟩
theorem tx_law_variables_asked : DefTx tp false "_law_variables_asked" (topS 68) ["source"] 2 b_law_variables_asked := ⟨(fun _ _ _ _ _ _ us hl => match us, hl with | [_], _ => rfl), ⟨["source", "e"], [], [], [], [], 200, rfl, by decide, ⟨rfl, rfl, rfl, by decide +kernel, rfl, by decide +kernel, by decide +kernel⟩, by kernel_rfl⟩, rfl⟩
theorem tx_law_deep_asked : DefTx tp false "_law_deep_asked" (topS 69) ["source"] 2 b_law_deep_asked := ⟨(fun _ _ _ _ _ _ us hl => match us, hl with | [_], _ => rfl), ⟨["source", "e"], [], [], [], [], 200, rfl, by decide, ⟨rfl, rfl, rfl, by decide +kernel, rfl, by decide +kernel, by decide +kernel⟩, by kernel_rfl⟩, rfl⟩
theorem tx_law_uses : DefTx tp false "_law_uses" (topS 70) ["thing", "v"] 3 b_law_uses := ⟨(fun _ _ _ _ _ _ us hl => match us, hl with | [_, _], _ => rfl), ⟨["thing", "v", "x"], ["v"], [], [], [], 200, rfl, by decide, ⟨rfl, rfl, rfl, by decide +kernel, rfl, by decide +kernel, by decide +kernel⟩, by kernel_rfl⟩, rfl⟩
theorem tx_law_nested : DefTx tp false "_law_nested" (topS 71) ["block"] 3 b_law_nested := ⟨(fun _ _ _ _ _ _ us hl => match us, hl with | [_], _ => rfl), ⟨["block", "found", "part"], [], [], [], [], 200, rfl, by decide, ⟨rfl, rfl, rfl, by decide +kernel, rfl, by decide +kernel, by decide +kernel⟩, by kernel_rfl⟩, rfl⟩
theorem tx_law_right : DefTx tp false "_law_right" (topS 72) ["state", "source"] 8 b_law_right := ⟨(fun _ _ _ _ _ _ us hl => match us, hl with | [_, _], _ => rfl), ⟨["state", "source", "dues", "given", "before", "told", "v", "k"], ["source", "dues", "told"], [2, 5], [], [], 200, rfl, by decide, ⟨rfl, rfl, rfl, by decide +kernel, rfl, by decide +kernel, by decide +kernel⟩, by kernel_rfl⟩, rfl⟩
theorem tx_law_wrong : DefTx tp false "_law_wrong" (topS 73) ["state", "source"] 5 b_law_wrong := ⟨(fun _ _ _ _ _ _ us hl => match us, hl with | [_, _], _ => rfl), ⟨["state", "source", "given", "told", "one"], [], [3], [], [], 200, rfl, by decide, ⟨rfl, rfl, rfl, by decide +kernel, rfl, by decide +kernel, by decide +kernel⟩, by kernel_rfl⟩, rfl⟩
theorem tx_law_wrong_amount : DefTx tp false "_law_wrong_amount" (topS 74) ["state"] 3 b_law_wrong_amount := ⟨(fun _ _ _ _ _ _ us hl => match us, hl with | [_], _ => rfl), ⟨["state", "a", "rows"], [], [2], [], [], 200, rfl, by decide, ⟨rfl, rfl, rfl, by decide +kernel, rfl, by decide +kernel, by decide +kernel⟩, by kernel_rfl⟩, rfl⟩
theorem tx_law_wrong_test : DefTx tp false "_law_wrong_test" (topS 75) ["state"] 4 b_law_wrong_test := ⟨(fun _ _ _ _ _ _ us hl => match us, hl with | [_], _ => rfl), ⟨["state", "a", "t", "rows"], [], [3], [], [], 200, rfl, by decide, ⟨rfl, rfl, rfl, by decide +kernel, rfl, by decide +kernel, by decide +kernel⟩, by kernel_rfl⟩, rfl⟩
theorem tx_law_wrong_part : DefTx tp false "_law_wrong_part" (topS 76) ["state"] 4 b_law_wrong_part := ⟨(fun _ _ _ _ _ _ us hl => match us, hl with | [_], _ => rfl), ⟨["state", "a", "t", "rows"], [], [3], [], [], 200, rfl, by decide, ⟨rfl, rfl, rfl, by decide +kernel, rfl, by decide +kernel, by decide +kernel⟩, by kernel_rfl⟩, rfl⟩
theorem tx_law_around_amount : DefTx tp false "_law_around_amount" (topS 77) ["x", "pick"] 3 b_law_around_amount := ⟨(fun _ _ _ _ _ _ us hl => match us, hl with | [_, _], _ => rfl), ⟨["x", "pick", "t"], [], [], [], [], 200, rfl, by decide, ⟨rfl, rfl, rfl, by decide +kernel, rfl, by decide +kernel, by decide +kernel⟩, by kernel_rfl⟩, rfl⟩
theorem tx_law_around_test : DefTx tp false "_law_around_test" (topS 78) ["y", "pick"] 3 b_law_around_test := ⟨(fun _ _ _ _ _ _ us hl => match us, hl with | [_, _], _ => rfl), ⟨["y", "pick", "t"], [], [], [], [], 200, rfl, by decide, ⟨rfl, rfl, rfl, by decide +kernel, rfl, by decide +kernel, by decide +kernel⟩, by kernel_rfl⟩, rfl⟩
theorem tx_law_around_part : DefTx tp false "_law_around_part" (topS 79) ["z", "many", "at", "pick"] 7 b_law_around_part := ⟨(fun _ _ _ _ _ _ us hl => match us, hl with | [_, _, _, _], _ => rfl), ⟨["z", "many", "at", "pick", "t", "others", "block"], [], [5], [], [], 200, rfl, by decide, ⟨rfl, rfl, rfl, by decide +kernel, rfl, by decide +kernel, by decide +kernel⟩, by kernel_rfl⟩, rfl⟩
theorem tx_law_one_place : DefTx tp false "_law_one_place" (topS 80) ["state"] 8 b_law_one_place := ⟨(fun _ _ _ _ _ _ us hl => match us, hl with | [_], _ => rfl), ⟨["state", "pick", "within", "many", "at", "around", "good", "bad"], [], [], [], [], 200, rfl, by decide, ⟨rfl, rfl, rfl, by decide +kernel, rfl, by decide +kernel, by decide +kernel⟩, by kernel_rfl⟩, rfl⟩
theorem tx_law_full_block : DefTx tp false "_law_full_block" (topS 81) ["state", "many", "pick"] 7 b_law_full_block := ⟨(fun _ _ _ _ _ _ us hl => match us, hl with | [_, _, _], _ => rfl), ⟨["state", "many", "pick", "parts", "t", "block", "k"], ["state"], [3], [], [], 200, rfl, by decide, ⟨rfl, rfl, rfl, by decide +kernel, rfl, by decide +kernel, by decide +kernel⟩, by kernel_rfl⟩, rfl⟩
theorem tx_law (pl : Plain T 60 5 1 (fun ds => ds ++ []) 19 b_law) : LawTx T tp (topS 82) 60 := ⟨(fun _ _ _ _ _ _ us hl => match us, hl with | [_], _ => rfl), ["script", "state", "k", "pick", "whole"], [], [4], [], 200, 1, 19, (defBody (topS 82)).getD 0 (.Pass ⟨0, 0, 0, 0⟩), (defBody (topS 82)).drop 1, [], [], b_law, ⟨rfl, rfl, rfl, by decide +kernel, rfl, by decide +kernel, by decide +kernel⟩, rfl, by kernel_rfl, by kernel_rfl, by decide, by decide, (fun c ρ g => by simp [evL, ev]), pl⟩
end K61


set_option Elab.async false
set_option maxRecDepth 10000
set_option linter.unusedSimpArgs false
set_option linter.unusedVariables false
/-! k61: drawn, begun, alike, raised. -/
namespace K61
open PySem L2 Mi Mi.Pl
section
variable {k : Nat} {g : Gs}
/-! ### the draws' list -/
def mkG (a b c : Int) : Gs := ⟨[.num a, .num b, .num c], []⟩
structure Ok (g : Gs) : Prop where
  ex : ∃ a b c, g = mkG a b c ∧ 0 ≤ a ∧ a < 2147483647
section
variable {a b c v : Int}
theorem r0 : ixG (mkG a b c) .st (.int 0) = some (.int a) := (rfl)
theorem r1 : ixG (mkG a b c) .st (.int 1) = some (.int b) := (rfl)
theorem r2 : ixG (mkG a b c) .st (.int 2) = some (.int c) := (rfl)
theorem s0 : setG (mkG a b c) .st (.int 0) (.int v) = some (mkG v b c) := (rfl)
theorem s1 : setG (mkG a b c) .st (.int 1) (.int v) = some (mkG a v c) := (rfl)
theorem s2 : setG (mkG a b c) .st (.int 2) (.int v) = some (mkG a b v) := (rfl)
end
theorem draw_ok (h : Ok g) {m : Int} (h0 : 0 < m) (h9 : m < 18446744073709551616) : ∃ w g', Mi.call T (k + 1) 20 [.st, .int m] g = .ok (.int w) g' ∧ 0 ≤ w ∧ w < m ∧ Ok g' := by
  obtain ⟨a, b, c, rfl, ha, ha2⟩ := h.ex
  rw [call_def d_law_draw rfl]
  unfold b_law_draw
  by_cases hb : 0 < b ∧ c + 1 ≤ 150
  · have w1 := Int.emod_nonneg b (b := m) (by omega)
    have w2 := Int.emod_lt_of_pos b (b := m) h0
    refine ⟨b % m, mkG a (b / m) (c + 1), ?_, w1, w2, ⟨_, _, _, rfl, ha, ha2⟩⟩
    simp [r0, r1, r2, s0, s1, s2, hb.1, hb.2, h0, h9]
  · have n1 : smallI a = true := smallI_of (by omega) (by omega)
    have n2 : smallI 69621 = true := by decide
    have w1 := Int.emod_nonneg ((a * a + 69621 * (c + 1) + 5) % 2147483647 / 16) (b := m) (by omega)
    have w2 := Int.emod_lt_of_pos ((a * a + 69621 * (c + 1) + 5) % 2147483647 / 16) (b := m) h0
    refine ⟨(a * a + 69621 * (c + 1) + 5) % 2147483647 / 16 % m, mkG ((a * a + 69621 * (c + 1) + 5) % 2147483647) b (c + 1), ?_, w1, w2, ⟨_, _, _, rfl, by omega, by omega⟩⟩
    by_cases hb1 : 0 < b
    · have hb2 : ¬ (c + 1 ≤ 150) := fun z => hb ⟨hb1, z⟩
      simp [r0, r1, r2, s0, s1, s2, hb1, hb2, h0, h9, n1, n2]
    · simp [r0, r1, r2, s0, s1, s2, hb1, h0, h9, n1, n2]
theorem begin_ok {ns : List Int} (h : ns.length ≤ 63) : ∃ a b : Int, Mi.call T (k + 1) 19 [.scr ns] g = .ok (.lst [.int a, .int b, .int 0]) g ∧ 0 ≤ a ∧ a < 2147483647 := by
  rw [call_def d_law_begin rfl]
  unfold b_law_begin
  have e1 : cutD (ns.map D.int) none (some 63) = ns.map D.int := by
    rw [cutD_takeI _ _ (by omega), List.take_of_length_le (by rw [List.length_map]; exact h)]
  have hj : ∀ ρ : Mi.Env, ρ.get 0 = some (.val (.scr ns)) → evJ (Mi.call T k) (.iseq (.sl (.nm 0) (.lit .non) (.part (.lit (.int 63))))) ρ g = .ok (ns.map D.int) g := fun ρ hρ => by
    simp [partD, slD, e1, itemsD, hρ]
  obtain ⟨ρ', g', e2, a, x, eg, rfl, ha, ha2⟩ := forS_items (c := Mi.call T k) (i := 2) (it := .iseq (.sl (.nm 0) (.lit .non) (.part (.lit (.int 63)))))
    (body := [.asg 1 (.op .mod (.bi .int [(.op .add (.op .add (.op .mul (.nm 1) (.nm 1)) (.op .mul (.nm 2) (.lit (.int 48271)))) (.lit (.int 11)))]) (.lit (.int 2147483647)))])
    (g := g) (g1 := g) (ρ0 := [some (.val (.scr ns)), some (.val (.int 7)), none, none]) (ns.map D.int)
    (fun j ρ g' => ∃ (a : Int) (x : Option Cell), g = g' ∧ ρ = [some (.val (.scr ns)), some (.val (.int a)), x, none] ∧ 0 ≤ a ∧ a < 2147483647)
    ⟨7, none, rfl, rfl, by omega, by omega⟩ (hj _ rfl) fun j hjl ρ g' ⟨a, x, q1, q2, h1, h2⟩ => by
      subst q1
      subst q2
      have n1 : smallI a = true := smallI_of (by omega) (by omega)
      have n2 : smallI 48271 = true := by decide
      have e3 : (ns.map D.int)[j] = .int (ns[j]'(by simpa using hjl)) := by simp
      refine ⟨_, g, ?_, (a * a + (ns[j]'(by simpa using hjl)) * 48271 + 11) % 2147483647, some (.val (.int (ns[j]'(by simpa using hjl)))), rfl, rfl, by omega, by omega⟩
      rw [e3]
      simp [n1, n2]
  rw [← eg] at e2
  have p1 : opD .pow (.int 10) (.int 18) = some (.int 1000000000000000000) := (opD_pow (by decide) (by decide) (by decide)).trans (congrArg (fun i => some (D.int i)) (by decide +kernel))
  have c2 := ev_comp_filter (c := Mi.call T k) (g := g) (ρ := [some (.val (.scr ns)), some (.val (.int a)), x, none]) (tg := .nm 2) (it := .iseq (.sl (.nm 0) (.lit .non) (.part (.lit (.int 63))))) (cond := .cmp .ge (.nm 2) (.op .pow (.lit (.int 10)) (.lit (.int 18)))) (own := [2]) (elt := .bi .int [(.nm 2)]) ns D.int (fun z => decide (1000000000000000000 ≤ z)) D.int
    (fun i => [some (.val (.scr ns)), some (.val (.int a)), some (.val (.int i)), none])
    (by simp [partD, slD, e1, itemsD]) (fun i _ => rfl) (fun i _ => by simp [p1]) (fun i _ _ => by simp) (sizeLine_ge (by omega))
  generalize hbig : ns.filter (fun z => decide (1000000000000000000 ≤ z)) = big at c2
  rw [exL_cons]
  have a1 : exS (Mi.call T k) (.asg 1 (.lit (.int 7))) [some (.val (.scr ns)), none, none, none] g = .nx [some (.val (.scr ns)), some (.val (.int 7)), none, none] g := by simp
  show ∃ a b : Int, fin ((exS _ _ [some (.val (.scr ns)), none, none, none] g).seq _) = _ ∧ _
  rw [a1, SR.seq_nx, exL_cons, e2, SR.seq_nx]
  cases big with
  | nil => exact ⟨a, 0, by simp [c2], ha, ha2⟩
  | cons z r =>
    refine ⟨a, z, ?_, ha, ha2⟩
    have hl : (0 : Int) < ((r.length : Nat) : Int) + 1 := by omega
    simp [c2, hl]
theorem begin_row {a b : Int} : rowOf 0 [.int a, .int b, .int 0] = some ([.num a, .num b, .num 0], []) := by simp [rowOf]
/-! ### alike -/
theorem same_tup {n : Nat} {xs : List D} (hl : xs.length ≤ 1000000) (h : ∀ x ∈ xs, Mi.call T (k + n) 21 [x, x] g = .ok (.bl true) g) : Mi.call T (k + n + 1) 21 [.tup xs, .tup xs] g = .ok (.bl true) g := by
  rw [call_def d_law_same rfl]
  unfold b_law_same
  have c1 := ev_comp_filter (c := Mi.call T (k + n)) (g := g) (ρ := [some (.val (.tup xs)), some (.val (.tup xs)), none]) (tg := .nm 2) (it := .irng1 (.bi .len [(.nm 1)])) (cond := .tnot (.call 21 [(.ix (.nm 0) (.nm 2)), (.ix (.nm 1) (.nm 2))])) (own := [2]) (elt := .nm 2) (List.range xs.length) (fun j => D.int j) (fun _ => false) (fun j => D.int j)
    (fun j => [some (.val (.tup xs)), some (.val (.tup xs)), some (.val (.int j))])
    (by rw [evI_rng1 (n := xs.length) (by simp) hl]) (fun i _ => rfl) (fun j hj => by
      have hj : j < xs.length := by simpa using hj
      have e1 := h xs[j] (List.getElem_mem hj)
      have e2 : atI xs (j : Int) = some xs[j] := by rw [Mi.Pl.atI_nat, List.getElem?_eq_getElem hj]
      simp [e1, e2]) (fun i _ z => by cases z) (by rw [List.length_range]; exact sizeLine_ge (by omega))
  have t1 : cmpD .ne (.bl true) (.bl true) = some false := by decide +kernel
  have t2 : cmpD .ne (.bl false) (.bl false) = some false := by decide +kernel
  simp [c1, t1, t2, isiD, isiTy, tyOk]
theorem same_one {d : D} (h : (∃ i, d = .int i) ∨ (∃ s, d = .str s) ∨ d = .non) : Mi.call T (k + 1) 21 [d, d] g = .ok (.bl true) g := by
  rw [call_def d_law_same rfl]
  unfold b_law_same
  rcases h with ⟨i, rfl⟩ | ⟨s, rfl⟩ | rfl <;> simp [Mi.isNon, isBl]
/-! ### what was raised -/
theorem error_ok : Mi.call T (k + 1) 23 [.exn 5 [.int 0]] g = .ok (.tup [.str "raised", .str "source", .int 0]) g := by
  unfold T
  kernel_rfl
end
end K61


set_option Elab.async false
set_option maxRecDepth 10000
set_option linter.unusedSimpArgs false
set_option linter.unusedVariables false
/-! k61: texts told apart; fine data. -/
namespace K61
open PySem L2 Mi Mi.Pl
theorem ofS_inj {a b : String} (h : Str.ofString a = Str.ofString b) : a = b := by
  rw [Str.ofString_eq_byList] at h
  unfold Str.ofStringByList at h
  have h1 : (a.toList.map Char.toNat) = (b.toList.map Char.toNat) := by
    have := congrArg (fun x : Str => x.cps.toList) h
    simpa using this
  have h2 : ∀ xs ys : List Char, xs.map Char.toNat = ys.map Char.toNat → xs = ys := by
    intro xs
    induction xs with
    | nil => intro ys e; cases ys with
      | nil => rfl
      | cons => simp at e
    | cons x xs ih => intro ys e; cases ys with
      | nil => simp at e
      | cons y ys =>
        simp only [List.map_cons, List.cons.injEq] at e
        have : x = y := Char.toNat_inj.mp e.1
        rw [this, ih ys e.2]
  exact String.toList_inj.mp (h2 _ _ h1)
theorem ofS_beq (a b : String) : (Str.ofString a == Str.ofString b) = (a == b) := by
  by_cases h : a = b
  · subst h; simp
  · rw [beq_eq_false_iff_ne.mpr h, beq_eq_false_iff_ne.mpr (fun z => h (ofS_inj z))]
example : (("num" : Str) == "byte") = false := by simp [ofS_beq]
example : (("num" : Str) == "num") = true := by simp [ofS_beq]
end K61


set_option Elab.async false
set_option maxRecDepth 10000
set_option maxHeartbeats 1000000
set_option linter.unusedSimpArgs false
set_option linter.unusedVariables false
/-! k61: the parts of a value. -/
namespace K61
open PySem L2 Mi Mi.Pl
inductive Kd where | bl | ln | am | te
def Kd.s : Kd → Str
  | .bl => "block" | .ln => "line" | .am => "amount" | .te => "test"
mutual
def fineD : D → Bool
  | .tup xs => decide (xs.length ≤ 1000) && fineDs xs
  | .lst xs => decide (xs.length ≤ 1000) && fineDs xs
  | .str s => PyData.strOk s
  | .int _ => true
  | .bl _ => true
  | .non => true
  | .st => false
  | .sub _ => false
  | .scr _ => false
  | .exn _ _ => false
def fineDs : List D → Bool
  | [] => true
  | x :: xs => fineD x && fineDs xs
end
def inR (lo hi : Int) : D → Bool
  | .int i => decide (lo ≤ i) && decide (i ≤ hi)
  | _ => false
def opTab : List (Str × Str) := [("add", "k"), ("sub", "k"), ("mul", "k"), ("and", "k"), ("or", "k"), ("xor", "k"), ("left", "s"), ("right", "s"), ("div", "n"), ("mod", "n")]
def fitF (f : Str) (d : D) : Bool := if f == "k" then inR 0 65535 d else if f == "n" then inR 0 65535 d && inR 1 65535 d else inR 0 15 d
def opFits (o c : D) : Bool := match o with
  | .str z => match opTab.lookup z with
    | some f => fitF f c
    | none => false
  | _ => false
def withN (o : D) : Bool := match o with
  | .str z => ("add" == z) || (("sub" == z) || (("div" == z) || ("mod" == z)))
  | _ => false
def amP (s : Str) : List D → Option (List (Kd × D))
  | [] => if s == "len" then some [] else none
  | [a] => if s == "num" then (if inR 0 65535 a then some [] else none) else if s == "byte" then (if inR 0 65535 a then some [] else none) else if s == "var" then (if inR 0 3 a then some [] else none) else none
  | [a, b] => if s == "byteat" then (if inR 0 3 a && inR 0 65535 b then some [] else none) else none
  | [a, b, c] => if s == "op" then (if opFits a c then some [(.am, b)] else none) else if s == "with" then (if withN a && inR 0 3 c then some [(.am, b)] else none) else none
  | _ => none
def teP (s : Str) : List D → Option (List (Kd × D))
  | [a] => if s == "not" then some [(.te, a)] else none
  | [a, b] => if s == "eq" || s == "more" || s == "bits" then (if inR 0 65535 b then some [(.am, a)] else none)
    else if s == "same" || s == "above" then (if inR 0 3 b then some [(.am, a)] else none)
    else if s == "and" || s == "or" then some [(.te, a), (.te, b)] else none
  | _ => none
def lnP (s : Str) : List D → Option (List (Kd × D))
  | [a] => if s == "give" then some [(.am, a)] else none
  | [a, b] => if s == "let" then (if inR 0 3 a then some [(.am, b)] else none) else if s == "loop" then (if inR 0 3 a then some [(.bl, b)] else none) else none
  | [a, b, c] => if s == "if" then some [(.te, a), (.bl, b), (.bl, c)] else none
  | _ => none
def rowOfD : D → Option (List D)
  | .tup xs => some xs
  | .lst xs => some xs
  | _ => none
def partsP (kd : Kd) (d : D) : Option (List (Kd × D)) := match rowOfD d with
  | none => none
  | some xs => match kd with
    | .bl => if xs.length ≤ 20 then some (xs.map fun x => (.ln, x)) else none
    | .am => match xs with
      | .str s :: r => amP s r
      | _ => none
    | .te => match xs with
      | .str s :: r => teP s r
      | _ => none
    | .ln => match xs with
      | .str s :: r => lnP s r
      | _ => none
def encP : Option (List (Kd × D)) → D
  | none => .non
  | some ps => .lst (ps.map fun p => .tup [.str p.1.s, p.2])
section
variable {k : Nat} {g : Gs}
theorem fromto_ok {d : D} (h : fineD d = true) (lo hi : Int) : Mi.call T (k + 1) 0 [d, .int lo, .int hi] g = .ok (.bl (inR lo hi d)) g := by
  rw [call_def d_is_from_to rfl]
  unfold b_is_from_to
  cases d with
  | int i => by_cases h : lo ≤ i <;> simp [isiD, isiTy, tyOk, cmpD, inR, h]
  | st => cases h
  | sub => cases h
  | scr => cases h
  | exn => cases h
  | _ => simp [isiD, isiTy, tyOk, cmpD, inR]
theorem row_ok {d : D} (h : fineD d = true) : Mi.call T (k + 1) 1 [d] g = .ok (.bl (rowOfD d).isSome) g := by
  rw [call_def d_is_row rfl]
  unfold b_is_row
  cases d with
  | st => cases h
  | sub => cases h
  | scr => cases h
  | exn => cases h
  | _ => simp [isiD, isiTy, tyOk, rowOfD]
theorem word_ok {d : D} (h : fineD d = true) : Mi.call T (k + 2) 2 [d] g = .ok (.bl (inR 0 65535 d)) g := by
  rw [call_def d_is_word rfl]
  unfold b_is_word
  simp [fromto_ok h]
theorem var_ok {d : D} (h : fineD d = true) : Mi.call T (k + 2) 5 [d] g = .ok (.bl (inR 0 3 d)) g := by
  rw [call_def d_is_variable rfl]
  unfold b_is_variable
  simp [fromto_ok h]
theorem fits_ok {d : D} (h : fineD d = true) {f : Str} (hf : f = "k" ∨ f = "n" ∨ f = "s") : Mi.call T (k + 3) 4 [.str f, d, .int 0] g = .ok (.bl (fitF f d)) g := by
  rw [call_def d_fits_form rfl]
  unfold b_fits_form
  have c : ∀ a b : Str, cmpD .eq (.str a) (.str b) = some (a == b) := fun a b => rfl
  rcases hf with rfl | rfl | rfl
  · simp [word_ok h, fitF, c, ofS_beq]
  · cases hw : inR 0 65535 d with
    | false => simp [word_ok h, fitF, c, ofS_beq, hw]
    | true =>
      cases d with
      | int i =>
        have : 0 ≤ i ∧ i ≤ 65535 := by simpa [inR] using hw
        by_cases h1 : 0 < i
        · have h2 : 1 ≤ i := by omega
          simp [word_ok h, fitF, c, ofS_beq, h1, inR, h2, this.1, this.2]
        · have h2 : ¬ 1 ≤ i := by omega
          simp [word_ok h, fitF, c, ofS_beq, h1, inR, h2, this.1, this.2]
      | _ => simp [inR] at hw
  · simp [fromto_ok h, fitF, c, ofS_beq]
theorem form_eq {s z : Str} {n m : Int} (hs : PyData.strOk s = true) (hz : PyData.strOk z = true) : cmpD .eq (.tup [.str s, .int n]) (.tup [.str z, .int m]) = some (s == z && n == m) := by
  have e : ∀ (s : Str) (n : Int), D.toP (.tup [.str s, .int n]) = some (.tuple [.str s, .int n]) := fun s n => (rfl)
  unfold cmpD
  show eqD _ _ = _
  unfold eqD
  simp only [e]
  have sh : ∀ (s : Str) (n : Int), PyData.strOk s = true → SeqAt.shaped (.tuple [.str s, .int n]) = true := fun s n h => by
    simp [SeqAt.shaped, PyData.canLay0, PyData.canLayAll0, PyData.depth, PyData.depthAll, h]
  rw [if_pos ⟨sh s n hs, sh z m hz⟩]
  simp [PyData.eqv, PyData.eqvAll]
theorem form_in {s z z' : Str} {n m m' : Int} (hs : PyData.strOk s = true) (hz : PyData.strOk z = true) (hz' : PyData.strOk z' = true) :
    inD (.tup [.str s, .int n]) [.tup [.str z, .int m], .tup [.str z', .int m']] = some ((z == s && m == n) || (z' == s && m' == n)) := by
  unfold inD
  rw [if_neg (by simp [flatD])]
  have e : ∀ (s : Str) (n : Int), D.toP (.tup [.str s, .int n]) = some (.tuple [.str s, .int n]) := fun s n => (rfl)
  have e2 : D.toPs [.tup [.str z, .int m], .tup [.str z', .int m']] = some [.tuple [.str z, .int m], .tuple [.str z', .int m']] := (rfl)
  rw [e, e2]
  simp only
  rw [if_pos (by simp [PyData.canLay0, PyData.canLayAll0, PyData.depth, PyData.depthAll, hs, hz, hz'])]
  simp [PyData.eqv, PyData.eqvAll]
end
end K61


set_option Elab.async false
set_option maxRecDepth 10000
set_option maxHeartbeats 2000000
set_option linter.unusedSimpArgs false
set_option linter.unusedVariables false
/-! k61: what the shapes' defs tell. -/
namespace K61
open PySem L2 Mi Mi.Pl
def opNames : List D := [.str "add", .str "sub", .str "mul", .str "and", .str "or", .str "xor", .str "left", .str "right", .str "div", .str "mod"]
theorem op_cases (z : Str) : (∃ f, opTab.lookup z = some f ∧ dc_FORMS.lookup z = some f ∧ (f = "k" ∨ f = "n" ∨ f = "s") ∧ inD (.str z) opNames = some true) ∨ (opTab.lookup z = none ∧ inD (.str z) opNames = some false) := by
  by_cases h : z ∈ (["add", "sub", "mul", "and", "or", "xor", "left", "right", "div", "mod"] : List Str)
  · left
    simp only [List.mem_cons, List.not_mem_nil, or_false] at h
    rcases h with rfl | rfl | rfl | rfl | rfl | rfl | rfl | rfl | rfl | rfl
    all_goals first
      | exact ⟨"k", by decide +kernel⟩
      | exact ⟨"s", by decide +kernel⟩
      | exact ⟨"n", by decide +kernel⟩
  · right
    simp only [List.mem_cons, List.not_mem_nil, or_false, not_or] at h
    obtain ⟨h1, h2, h3, h4, h5, h6, h7, h8, h9, h10⟩ := h
    have n : ∀ a : Str, ¬ z = a → (z == a) = false := fun a h => beq_eq_false_iff_ne.mpr h
    have m : ∀ a : Str, ¬ z = a → (a == z) = false := fun a h => beq_eq_false_iff_ne.mpr (fun e => h e.symm)
    refine ⟨by simp only [opTab, List.lookup, n _ h1, n _ h2, n _ h3, n _ h4, n _ h5, n _ h6, n _ h7, n _ h8, n _ h9, n _ h10], ?_⟩
    unfold inD opNames
    rw [if_pos ⟨rfl, rfl⟩]
    simp only [List.any, eqF, m _ h1, m _ h2, m _ h3, m _ h4, m _ h5, m _ h6, m _ h7, m _ h8, m _ h9, m _ h10, Bool.or_self]
section
variable {k : Nat} {g : Gs}
theorem at0 {α : Type} (a : α) (r : List α) : atI (a :: r) 0 = some a := by rw [show (0 : Int) = ((0 : Nat) : Int) from rfl, Mi.Pl.atI_nat]; rfl
theorem at1 {α : Type} (a b : α) (r : List α) : atI (a :: b :: r) 1 = some b := by rw [show (1 : Int) = ((1 : Nat) : Int) from rfl, Mi.Pl.atI_nat]; rfl
theorem at2 {α : Type} (a b c : α) (r : List α) : atI (a :: b :: c :: r) 2 = some c := by rw [show (2 : Int) = ((2 : Nat) : Int) from rfl, Mi.Pl.atI_nat]; rfl
theorem at3 {α : Type} (a b c d : α) (r : List α) : atI (a :: b :: c :: d :: r) 3 = some d := by rw [show (3 : Int) = ((3 : Nat) : Int) from rfl, Mi.Pl.atI_nat]; rfl
theorem sok (w : String) (h : PyData.strOk (w : Str) = true) : PyData.strOk (Str.ofString w) = true := h
theorem w1 : PyData.strOk ("num" : Str) = true := by decide +kernel
theorem w2 : PyData.strOk ("byte" : Str) = true := by decide +kernel
theorem w3 : PyData.strOk ("var" : Str) = true := by decide +kernel
theorem w4 : PyData.strOk ("len" : Str) = true := by decide +kernel
theorem w5 : PyData.strOk ("byteat" : Str) = true := by decide +kernel
theorem w6 : PyData.strOk ("op" : Str) = true := by decide +kernel
theorem w7 : PyData.strOk ("with" : Str) = true := by decide +kernel
theorem beq_comm' (a b : Str) : (a == b) = (b == a) := Bool.eq_iff_iff.mpr (by rw [beq_iff_eq, beq_iff_eq]; exact eq_comm)
/-- an operation with a number: what the row's second word allows -/
theorem op_test {o b c d : D} {s : Str} (ho : fineD o = true) (hc : fineD c = true) (hd : d = .tup [.str s, o, b, c] ∨ d = .lst [.str s, o, b, c]) (ρ : Mi.Env) (h0 : ρ.get 0 = some (.val d)) (q : Mi.Env → Mi.Env) :
    ∃ n : Bool, ev (Mi.call T (k + 3)) (.and (.isi (.ix (.nm 0) (.lit (.int 1))) [.str] false) (.cmp .mem (.ix (.nm 0) (.lit (.int 1))) (.lit (.tup opNames)))) ρ g = .ok (.bl n) g ∧
      ∀ ρ2 : Mi.Env, ρ2.get 0 = some (.val d) → ρ2.get 2 = some (.val (.bl n)) → brw (.tand (.nm 2) (.call 4 [(.dget dc_FORMS (.ix (.nm 0) (.lit (.int 1)))), (.ix (.nm 0) (.lit (.int 3))), (.lit (.int 0))])) ρ2 g (ev (Mi.call T (k + 3)) (.tand (.nm 2) (.call 4 [(.dget dc_FORMS (.ix (.nm 0) (.lit (.int 1)))), (.ix (.nm 0) (.lit (.int 3))), (.lit (.int 0))])) ρ2 g) = .ok (.bl (opFits o c)) g := by
  cases o with
  | str z =>
    rcases op_cases z with ⟨f, e1, e2, e3, e4⟩ | ⟨e1, e4⟩
    · refine ⟨true, ?_, fun ρ2 h2 h3 => ?_⟩
      · rcases hd with rfl | rfl <;> simp [h0, at1, isiD, isiTy, tyOk, e4]
      · rcases hd with rfl | rfl <;> simp [h2, h3, at1, at3, e2, fits_ok hc e3, opFits, e1]
    · refine ⟨false, ?_, fun ρ2 h2 h3 => ?_⟩
      · rcases hd with rfl | rfl <;> simp [h0, at1, isiD, isiTy, tyOk, e4]
      · rcases hd with rfl | rfl <;> simp [h2, h3, opFits, e1]
  | st => cases ho
  | sub => cases ho
  | scr => cases ho
  | exn => cases ho
  | _ =>
    refine ⟨false, ?_, fun ρ2 h2 h3 => ?_⟩
    · rcases hd with rfl | rfl <;> simp [h0, at1, isiD, isiTy, tyOk]
    · rcases hd with rfl | rfl <;> simp [h2, h3, opFits]
end
end K61


set_option Elab.async false
set_option maxRecDepth 10000
set_option maxHeartbeats 4000000
set_option linter.unusedSimpArgs false
set_option linter.unusedVariables false
/-! k61: what the shapes' defs tell, by the rows' forms. -/
namespace K61
open PySem L2 Mi Mi.Pl
section
variable {k : Nat} {g : Gs}
theorem fine1 {a : D} (h : fineDs [a] = true) : fineD a = true := by unfold fineDs at h; rw [Bool.and_eq_true] at h; exact h.1
theorem fine2 {a b : D} (h : fineDs [a, b] = true) : fineD a = true ∧ fineD b = true := by unfold fineDs at h; rw [Bool.and_eq_true] at h; exact ⟨h.1, fine1 h.2⟩
theorem fine3 {a b c : D} (h : fineDs [a, b, c] = true) : fineD a = true ∧ fineD b = true ∧ fineD c = true := by unfold fineDs at h; rw [Bool.and_eq_true] at h; exact ⟨h.1, fine2 h.2⟩
theorem am_ok {s : Str} {xs : List D} {d : D} (hd : d = .tup (.str s :: xs) ∨ d = .lst (.str s :: xs)) (hs : PyData.strOk s = true) (hx : fineDs xs = true) : Mi.call T (k + 4) 6 [d] g = .ok (encP (amP s xs)) g := by
  rw [call_def d_amount_shape rfl]
  unfold b_amount_shape
  have fe : ∀ (z : Str) (n m : Int), PyData.strOk z = true → cmpD .eq (.tup [.str s, .int n]) (.tup [.str z, .int m]) = some (s == z && n == m) := fun z n m h => form_eq hs h
  have fi : ∀ (n : Int), inD (.tup [.str s, .int n]) [.tup [.str "num", .int 2], .tup [.str "byte", .int 2]] = some ((s == "num" && 2 == n) || (s == "byte" && 2 == n)) := fun n => by
    rw [form_in hs w1 w2, beq_comm' "num" s, beq_comm' "byte" s]
  have big : ∀ n : Nat, (2 == ((n : Nat) : Int) + 1 + 1 + 1 + 1 + 1) = false ∧ (((n : Nat) : Int) + 1 + 1 + 1 + 1 + 1 == 2) = false ∧ (((n : Nat) : Int) + 1 + 1 + 1 + 1 + 1 == 1) = false ∧ (((n : Nat) : Int) + 1 + 1 + 1 + 1 + 1 == 3) = false ∧ (((n : Nat) : Int) + 1 + 1 + 1 + 1 + 1 == 4) = false := fun n => by
    refine ⟨?_, ?_, ?_, ?_, ?_⟩ <;> exact beq_eq_false_iff_ne.mpr (by omega)
  match xs, hx with
  | [], _ =>
    cases h4 : s == "len" <;> rcases hd with rfl | rfl <;> simp [at0, fi, fe, w3, w4, w5, w6, w7, h4, amP, encP, isFr]
  | [a], hx =>
    have ha := fine1 hx
    cases h1 : s == "num"
    · cases h2 : s == "byte"
      · cases h3 : s == "var"
        · rcases hd with rfl | rfl <;> simp [at0, at1, fi, fe, w3, w4, w5, w6, w7, h1, h2, h3, amP, encP, word_ok ha, var_ok ha]
        · cases h9 : inR 0 3 a <;> rcases hd with rfl | rfl <;> simp [at0, at1, fi, fe, w3, w4, w5, w6, w7, h1, h2, h3, h9, amP, encP, word_ok ha, var_ok ha]
      · cases h9 : inR 0 65535 a <;> rcases hd with rfl | rfl <;> simp [at0, at1, fi, fe, w3, w4, w5, w6, w7, h1, h2, h9, amP, encP, word_ok ha, var_ok ha]
    · cases h9 : inR 0 65535 a <;> rcases hd with rfl | rfl <;> simp [at0, at1, fi, fe, w3, w4, w5, w6, w7, h1, h9, amP, encP, word_ok ha, var_ok ha]
  | [a, b], hx =>
    obtain ⟨ha, hb⟩ := fine2 hx
    cases h1 : s == "byteat"
    · rcases hd with rfl | rfl <;> simp [at0, at1, at2, fi, fe, w3, w4, w5, w6, w7, h1, amP, encP]
    · cases h8 : inR 0 3 a <;> cases h9 : inR 0 65535 b <;> rcases hd with rfl | rfl <;> simp [at0, at1, at2, fi, fe, w3, w4, w5, w6, w7, h1, h8, h9, amP, encP, word_ok hb, var_ok ha]
  | [a, b, c], hx =>
    obtain ⟨ha, hb, hc⟩ := fine3 hx
    cases h1 : s == "op"
    · cases h2 : s == "with"
      · rcases hd with rfl | rfl <;> simp [at0, at1, at2, fi, fe, w3, w4, w5, w6, w7, h1, h2, amP, encP]
      · have wi : ∀ z : Str, inD (.str z) [.str "add", .str "sub", .str "div", .str "mod"] = some (withN (.str z)) := fun z => by simp [inD, flatD, eqF, withN]
        cases a with
        | str z =>
          cases h8 : withN (.str z) <;> cases h9 : inR 0 3 c <;> rcases hd with rfl | rfl <;> simp [at0, at1, at2, at3, fi, fe, w3, w4, w5, w6, w7, h1, h2, h8, h9, amP, encP, Kd.s, wi, isiD, isiTy, tyOk, var_ok hc]
        | st => cases ha
        | sub => cases ha
        | scr => cases ha
        | exn => cases ha
        | _ => rcases hd with rfl | rfl <;> simp [at0, at1, at2, at3, fi, fe, w3, w4, w5, w6, w7, h1, h2, amP, encP, Kd.s, wi, isiD, isiTy, tyOk, withN]
    · cases a with
      | str z =>
        rcases op_cases z with ⟨f, e1, e2, e3, e4⟩ | ⟨e1, e4⟩ <;> unfold opNames at e4
        · cases h9 : fitF f c <;> rcases hd with rfl | rfl <;> simp [at0, at1, at2, at3, fi, fe, w3, w4, w5, w6, w7, h1, h9, e1, e2, e4, amP, encP, Kd.s, isiD, isiTy, tyOk, opFits, fits_ok hc e3]
        · rcases hd with rfl | rfl <;> simp [at0, at1, at2, at3, fi, fe, w3, w4, w5, w6, w7, h1, e1, e4, amP, encP, isiD, isiTy, tyOk, opFits]
      | st => cases ha
      | sub => cases ha
      | scr => cases ha
      | exn => cases ha
      | _ => rcases hd with rfl | rfl <;> simp [at0, at1, at2, at3, fi, fe, w3, w4, w5, w6, w7, h1, amP, encP, isiD, isiTy, tyOk, opFits]
  | a :: b :: c :: e :: r, _ =>
    obtain ⟨q1, q2, q3, q4, q5⟩ := big r.length
    rcases hd with rfl | rfl <;> simp [at0, at1, at2, fi, fe, w3, w4, w5, w6, w7, q1, q2, q3, q4, q5, amP, encP]
end
end K61


set_option Elab.async false
set_option maxRecDepth 10000
set_option maxHeartbeats 4000000
set_option linter.unusedSimpArgs false
set_option linter.unusedVariables false
/-! k61: tests, lines, parts. -/
namespace K61
open PySem L2 Mi Mi.Pl
section
variable {k : Nat} {g : Gs}
theorem te_ok {s : Str} {xs : List D} {d : D} (hd : d = .tup (.str s :: xs) ∨ d = .lst (.str s :: xs)) (hx : fineDs xs = true) : Mi.call T (k + 3) 7 [d] g = .ok (encP (teP s xs)) g := by
  rw [call_def d_test_shape rfl]
  unfold b_test_shape
  have i3 : inD (.str s) [.str "eq", .str "more", .str "bits"] = some (s == "eq" || s == "more" || s == "bits") := by
    rw [beq_comm' s "eq", beq_comm' s "more", beq_comm' s "bits"]; simp [inD, flatD, eqF, Bool.or_assoc]
  have i2 : inD (.str s) [.str "and", .str "or"] = some (s == "and" || s == "or") := by
    rw [beq_comm' s "and", beq_comm' s "or"]; simp [inD, flatD, eqF]
  have dw : (dc_WITH_TESTS.lookup s).isSome = (s == "same" || s == "above") := by
    unfold dc_WITH_TESTS
    cases h1 : s == "same" <;> cases h2 : s == "above" <;> simp [List.lookup, h1, h2]
  have big : ∀ n : Nat, (((n : Nat) : Int) + 1 + 1 + 1 + 1 == 3) = false ∧ (((n : Nat) : Int) + 1 + 1 + 1 + 1 == 2) = false := fun n => by
    refine ⟨?_, ?_⟩ <;> exact beq_eq_false_iff_ne.mpr (by omega)
  match xs, hx with
  | [], _ => rcases hd with rfl | rfl <;> simp [at0, i3, i2, dw, teP, encP]
  | [a], hx =>
    cases h1 : s == "not" <;> rcases hd with rfl | rfl <;> simp [at0, at1, i3, i2, dw, h1, teP, encP, Kd.s]
  | [a, b], hx =>
    obtain ⟨ha, hb⟩ := fine2 hx
    cases h1 : (s == "eq" || s == "more" || s == "bits")
    · cases h2 : (s == "same" || s == "above")
      · cases h3 : (s == "and" || s == "or") <;> rcases hd with rfl | rfl <;> simp only [teP, h1, h2, h3] <;> simp [at0, at1, at2, i3, i2, dw, h1, h2, h3, encP, Kd.s]
      · cases h9 : inR 0 3 b <;> rcases hd with rfl | rfl <;> simp only [teP, h1, h2, h9] <;> simp [at0, at1, at2, i3, i2, dw, h1, h2, h9, encP, Kd.s, var_ok hb]
    · cases h9 : inR 0 65535 b <;> rcases hd with rfl | rfl <;> simp only [teP, h1, h9] <;> simp [at0, at1, at2, i3, i2, dw, h1, h9, encP, Kd.s, word_ok hb]
  | a :: b :: c :: r, _ =>
    obtain ⟨q1, q2⟩ := big r.length
    rcases hd with rfl | rfl <;> simp [at0, at1, at2, i3, i2, dw, q1, q2, teP, encP]
theorem ln_ok {s : Str} {xs : List D} {d : D} (hd : d = .tup (.str s :: xs) ∨ d = .lst (.str s :: xs)) (hx : fineDs xs = true) : Mi.call T (k + 3) 8 [d] g = .ok (encP (lnP s xs)) g := by
  rw [call_def d_line_shape rfl]
  unfold b_line_shape
  have big : ∀ n : Nat, (((n : Nat) : Int) + 1 + 1 + 1 + 1 + 1 == 3) = false ∧ (((n : Nat) : Int) + 1 + 1 + 1 + 1 + 1 == 2) = false ∧ (((n : Nat) : Int) + 1 + 1 + 1 + 1 + 1 == 4) = false := fun n => by
    refine ⟨?_, ?_, ?_⟩ <;> exact beq_eq_false_iff_ne.mpr (by omega)
  match xs, hx with
  | [], _ => rcases hd with rfl | rfl <;> simp [at0, lnP, encP]
  | [a], hx =>
    cases h1 : s == "give" <;> rcases hd with rfl | rfl <;> simp [at0, at1, h1, lnP, encP, Kd.s]
  | [a, b], hx =>
    obtain ⟨ha, hb⟩ := fine2 hx
    cases h1 : s == "let"
    · cases h2 : s == "loop"
      · rcases hd with rfl | rfl <;> simp [at0, at1, at2, h1, h2, lnP, encP, Kd.s]
      · cases h9 : inR 0 3 a <;> rcases hd with rfl | rfl <;> simp [at0, at1, at2, h1, h2, h9, lnP, encP, Kd.s, var_ok ha]
    · cases h9 : inR 0 3 a <;> rcases hd with rfl | rfl <;> simp [at0, at1, at2, h1, h9, lnP, encP, Kd.s, var_ok ha]
  | [a, b, c], hx =>
    cases h1 : s == "if" <;> rcases hd with rfl | rfl <;> simp [at0, at1, at2, at3, h1, lnP, encP, Kd.s]
  | a :: b :: c :: e :: r, _ =>
    obtain ⟨q1, q2, q3⟩ := big r.length
    rcases hd with rfl | rfl <;> simp [at0, at1, at2, q1, q2, q3, lnP, encP]
theorem fine_row {d : D} {xs : List D} (h : fineD d = true) (e : rowOfD d = some xs) : xs.length ≤ 1000 ∧ fineDs xs = true ∧ (d = .tup xs ∨ d = .lst xs) := by
  cases d with
  | tup ys => cases e; unfold fineD at h; rw [Bool.and_eq_true] at h; exact ⟨of_decide_eq_true h.1, h.2, .inl rfl⟩
  | lst ys => cases e; unfold fineD at h; rw [Bool.and_eq_true] at h; exact ⟨of_decide_eq_true h.1, h.2, .inr rfl⟩
  | _ => cases e
theorem fines_mem : ∀ {xs : List D} {x : D}, fineDs xs = true → x ∈ xs → fineD x = true
  | _ :: _, _, h, .head _ => by unfold fineDs at h; rw [Bool.and_eq_true] at h; exact h.1
  | _ :: _, _, h, .tail _ m => by unfold fineDs at h; rw [Bool.and_eq_true] at h; exact fines_mem h.2 m
theorem parts_ok {kd : Kd} {d : D} (h : fineD d = true) : Mi.call T (k + 5) 9 [.str kd.s, d] g = .ok (encP (partsP kd d)) g := by
  rw [call_def d_parts_of rfl]
  unfold b_parts_of
  cases e : rowOfD d with
  | none => simp [row_ok h, e, partsP, encP]
  | some xs =>
    obtain ⟨hl, hx, hd⟩ := fine_row h e
    cases kd with
    | bl =>
      by_cases h20 : xs.length ≤ 20
      · have c1 := ev_comp_map (c := Mi.call T (k + 4)) (g := g) (ρ := [some (.val (.str (Kd.s .bl))), some (.val d), none]) (tg := .nm 2) (it := .iseq (.nm 1)) (own := [2]) (elt := .tup [(.lit (.str "line")), (.nm 2)]) xs (fun x => x) (fun x => .tup [.str "line", x])
          (fun x => [some (.val (.str (Kd.s .bl))), some (.val d), some (.val x)])
          (by rcases hd with rfl | rfl <;> simp [itemsD]) (fun i _ => rfl) (fun i _ => by simp) (sizeLine_ge (by omega))
        have l1 : ((xs.length : Nat) : Int) ≤ 20 := by omega
        rcases hd with rfl | rfl <;> simp [row_ok h, rowOfD, Kd.s, ofS_beq, partsP, encP, c1, h20, l1] at c1 ⊢ <;> simp [c1, l1]
      · have l1 : ¬ ((xs.length : Nat) : Int) ≤ 20 := by omega
        rcases hd with rfl | rfl <;> simp [row_ok h, rowOfD, Kd.s, ofS_beq, partsP, encP, h20, l1]
    | am =>
      cases xs with
      | nil => rcases hd with rfl | rfl <;> simp [row_ok h, rowOfD, Kd.s, ofS_beq, partsP, encP]
      | cons x r =>
        have nz : (((r.length : Nat) : Int) + 1 == 0) = false := beq_eq_false_iff_ne.mpr (by omega)
        cases x with
        | str s =>
          unfold fineDs at hx
          rw [Bool.and_eq_true] at hx
          have hs : PyData.strOk s = true := hx.1
          have c1 := am_ok (k := k) (g := g) hd hs hx.2
          rcases hd with rfl | rfl <;> simp [row_ok h, rowOfD, Kd.s, ofS_beq, partsP, at0, isiD, isiTy, tyOk, nz, c1]
        | st => unfold fineDs at hx; rw [Bool.and_eq_true] at hx; cases hx.1
        | sub => unfold fineDs at hx; rw [Bool.and_eq_true] at hx; cases hx.1
        | scr => unfold fineDs at hx; rw [Bool.and_eq_true] at hx; cases hx.1
        | exn => unfold fineDs at hx; rw [Bool.and_eq_true] at hx; cases hx.1
        | _ => rcases hd with rfl | rfl <;> simp [row_ok h, rowOfD, Kd.s, ofS_beq, partsP, at0, isiD, isiTy, tyOk, nz, encP]
    | te =>
      cases xs with
      | nil => rcases hd with rfl | rfl <;> simp [row_ok h, rowOfD, Kd.s, ofS_beq, partsP, encP]
      | cons x r =>
        have nz : (((r.length : Nat) : Int) + 1 == 0) = false := beq_eq_false_iff_ne.mpr (by omega)
        cases x with
        | str s =>
          unfold fineDs at hx
          rw [Bool.and_eq_true] at hx
          have hs : PyData.strOk s = true := hx.1
          have c1 := te_ok (k := k + 1) (g := g) hd hx.2
          rcases hd with rfl | rfl <;> simp [row_ok h, rowOfD, Kd.s, ofS_beq, partsP, at0, isiD, isiTy, tyOk, nz, c1]
        | st => unfold fineDs at hx; rw [Bool.and_eq_true] at hx; cases hx.1
        | sub => unfold fineDs at hx; rw [Bool.and_eq_true] at hx; cases hx.1
        | scr => unfold fineDs at hx; rw [Bool.and_eq_true] at hx; cases hx.1
        | exn => unfold fineDs at hx; rw [Bool.and_eq_true] at hx; cases hx.1
        | _ => rcases hd with rfl | rfl <;> simp [row_ok h, rowOfD, Kd.s, ofS_beq, partsP, at0, isiD, isiTy, tyOk, nz, encP]
    | ln =>
      cases xs with
      | nil => rcases hd with rfl | rfl <;> simp [row_ok h, rowOfD, Kd.s, ofS_beq, partsP, encP]
      | cons x r =>
        have nz : (((r.length : Nat) : Int) + 1 == 0) = false := beq_eq_false_iff_ne.mpr (by omega)
        cases x with
        | str s =>
          unfold fineDs at hx
          rw [Bool.and_eq_true] at hx
          have hs : PyData.strOk s = true := hx.1
          have c1 := ln_ok (k := k + 1) (g := g) hd hx.2
          rcases hd with rfl | rfl <;> simp [row_ok h, rowOfD, Kd.s, ofS_beq, partsP, at0, isiD, isiTy, tyOk, nz, c1]
        | st => unfold fineDs at hx; rw [Bool.and_eq_true] at hx; cases hx.1
        | sub => unfold fineDs at hx; rw [Bool.and_eq_true] at hx; cases hx.1
        | scr => unfold fineDs at hx; rw [Bool.and_eq_true] at hx; cases hx.1
        | exn => unfold fineDs at hx; rw [Bool.and_eq_true] at hx; cases hx.1
        | _ => rcases hd with rfl | rfl <;> simp [row_ok h, rowOfD, Kd.s, ofS_beq, partsP, at0, isiD, isiTy, tyOk, nz, encP]
end
end K61


set_option Elab.async false
set_option maxRecDepth 10000
set_option maxHeartbeats 4000000
set_option linter.unusedSimpArgs false
set_option linter.unusedVariables false
/-! k61: how many parts there are, in plain; what the count tells. -/
namespace K61
open PySem L2 Mi Mi.Pl
mutual
def dpt : D → Nat
  | .tup xs => dpts xs + 1
  | .lst xs => dpts xs + 1
  | _ => 0
def dpts : List D → Nat
  | [] => 0
  | x :: xs => max (dpt x) (dpts xs)
end
theorem dpts_cons (x : D) (xs : List D) : dpts (x :: xs) = max (dpt x) (dpts xs) := by rw [dpts]
theorem dpt_tup (xs : List D) : dpt (.tup xs) = dpts xs + 1 := by rw [dpt]
theorem dpt_lst (xs : List D) : dpt (.lst xs) = dpts xs + 1 := by rw [dpt]
theorem dpts_mem : ∀ {xs : List D} {x : D}, x ∈ xs → dpt x ≤ dpts xs
  | _ :: _, _, .head _ => by rw [dpts_cons]; omega
  | _ :: _, _, .tail _ m => by have := dpts_mem m; rw [dpts_cons]; omega
theorem dpt_row {d x : D} {xs : List D} (e : rowOfD d = some xs) (h : x ∈ xs) : dpt x < dpt d := by
  have := dpts_mem h
  cases d with
  | tup ys => cases e; rw [dpt_tup]; omega
  | lst ys => cases e; rw [dpt_lst]; omega
  | _ => cases e
theorem am_sub {s : Str} {r : List D} {ps : List (Kd × D)} (h : amP s r = some ps) : ∀ p ∈ ps, p.2 ∈ r := by
  unfold amP at h
  repeat' split at h
  all_goals first
    | (cases h; done)
    | (cases h; intro p hp; simp only [List.mem_cons, List.not_mem_nil, or_false] at hp; first | (subst hp; simp; done) | (rcases hp with rfl | rfl <;> simp; done))
    | (cases h; intro p hp; cases hp; done)
theorem te_sub {s : Str} {r : List D} {ps : List (Kd × D)} (h : teP s r = some ps) : ∀ p ∈ ps, p.2 ∈ r := by
  unfold teP at h
  repeat' split at h
  all_goals first
    | (cases h; done)
    | (cases h; intro p hp; simp only [List.mem_cons, List.not_mem_nil, or_false] at hp; first | (subst hp; simp; done) | (rcases hp with rfl | rfl <;> simp; done))
    | (cases h; intro p hp; cases hp; done)
theorem ln_sub {s : Str} {r : List D} {ps : List (Kd × D)} (h : lnP s r = some ps) : ∀ p ∈ ps, p.2 ∈ r := by
  unfold lnP at h
  repeat' split at h
  all_goals first
    | (cases h; done)
    | (cases h; intro p hp; simp only [List.mem_cons, List.not_mem_nil, or_false] at hp; first | (subst hp; simp; done) | (rcases hp with rfl | rfl <;> simp; done) | (rcases hp with rfl | rfl | rfl <;> simp; done))
    | (cases h; intro p hp; cases hp; done)
theorem parts_sub {kd : Kd} {d : D} {ps : List (Kd × D)} (h : partsP kd d = some ps) : ∃ xs, rowOfD d = some xs ∧ ∀ p ∈ ps, p.2 ∈ xs := by
  unfold partsP at h
  cases e : rowOfD d with
  | none => rw [e] at h; cases h
  | some xs =>
    rw [e] at h
    refine ⟨xs, rfl, ?_⟩
    cases kd with
    | bl =>
      simp only at h
      split at h
      · cases h; intro p hp; obtain ⟨x, hx, rfl⟩ := List.mem_map.mp hp; exact hx
      · cases h
    | am =>
      simp only at h
      split at h
      · intro p hp; exact List.mem_cons_of_mem _ (am_sub h p hp)
      · cases h
    | te =>
      simp only at h
      split at h
      · intro p hp; exact List.mem_cons_of_mem _ (te_sub h p hp)
      · cases h
    | ln =>
      simp only at h
      split at h
      · intro p hp; exact List.mem_cons_of_mem _ (ln_sub h p hp)
      · cases h
def isB : Kd → Bool
  | .bl => true
  | _ => false
def one (kd : Kd) : Nat := if isB kd then 0 else 1
def down (kd : Kd) (dp : Int) : Int := if isB kd then dp else dp + 1
def dpc (kd : Kd) (b : Int) : Int := if isB kd then b else (if 0 > b then 0 else b)
abbrev It := Kd × D × Int
def kids (kd : Kd) (dp : Int) (ps : List (Kd × D)) : List It := ps.map fun p => (p.1, p.2, dpc p.1 (down kd dp))
def addO (a b : Option Nat) : Option Nat := match a, b with
  | some a, some b => some (a + b)
  | _, _ => none
def tots (f : It → Option Nat) (l : List It) : Option Nat := l.foldr (fun x acc => addO (f x) acc) (some 0)
def wt : Nat → It → Option Nat
  | 0, _ => none
  | n + 1, (kd, d, dp) => match partsP kd d with
    | none => none
    | some ps => if (!isB kd) && decide (12 < dp) then none else addO (some (one kd)) (tots (wt n) (kids kd dp ps))
theorem tots_congr {f g : It → Option Nat} : ∀ {l : List It}, (∀ x ∈ l, f x = g x) → tots f l = tots g l
  | [], _ => rfl
  | x :: l, h => by
    show addO (f x) (tots f l) = addO (g x) (tots g l)
    rw [h x List.mem_cons_self, tots_congr fun y hy => h y (List.mem_cons_of_mem _ hy)]
theorem wt_fuel : ∀ (n m : Nat) (x : It), dpt x.2.1 < n → dpt x.2.1 < m → wt n x = wt m x
  | 0, _, _, h, _ => by omega
  | _, 0, _, _, h => by omega
  | n + 1, m + 1, (kd, d, dp), h1, h2 => by
    unfold wt
    cases e : partsP kd d with
    | none => rfl
    | some ps =>
      simp only
      obtain ⟨xs, e1, e2⟩ := parts_sub e
      rw [tots_congr (f := wt n) (g := wt m) fun y hy => by
        obtain ⟨p, hp, rfl⟩ := List.mem_map.mp hy
        have := dpt_row e1 (e2 p hp)
        exact wt_fuel n m _ (by simp only at h1 ⊢; omega) (by simp only at h2 ⊢; omega)]
def W (x : It) : Option Nat := wt (dpt x.2.1 + 1) x
theorem W_eq (kd : Kd) (d : D) (dp : Int) : W (kd, d, dp) = match partsP kd d with
    | none => none
    | some ps => if (!isB kd) && decide (12 < dp) then none else addO (some (one kd)) (tots W (kids kd dp ps)) := by
  show wt (dpt d + 1) (kd, d, dp) = _
  unfold wt
  cases e : partsP kd d with
  | none => rfl
  | some ps =>
    simp only
    obtain ⟨xs, e1, e2⟩ := parts_sub e
    rw [tots_congr (f := wt (dpt d)) (g := W) fun y hy => by
      obtain ⟨p, hp, rfl⟩ := List.mem_map.mp hy
      have := dpt_row e1 (e2 p hp)
      exact wt_fuel _ _ _ this (by omega)]
theorem addO_none (a : Option Nat) : addO a none = none := by cases a <;> rfl
theorem addO_assoc (a b c : Option Nat) : addO (addO a b) c = addO a (addO b c) := by
  cases a <;> cases b <;> cases c <;> simp [addO, Nat.add_assoc]
theorem addO_comm (a b : Option Nat) : addO a b = addO b a := by
  cases a <;> cases b <;> simp [addO, Nat.add_comm]
theorem addO_zero (a : Option Nat) : addO (some 0) a = a := by cases a <;> simp [addO]
theorem tots_cons (f : It → Option Nat) (x : It) (l : List It) : tots f (x :: l) = addO (f x) (tots f l) := rfl
theorem tots_app (f : It → Option Nat) : ∀ (l m : List It), tots f (l ++ m) = addO (tots f l) (tots f m)
  | [], m => (addO_zero _).symm
  | x :: l, m => by rw [List.cons_append, tots_cons, tots_cons, tots_app f l m, addO_assoc]
theorem tots_rev (f : It → Option Nat) : ∀ l : List It, tots f l.reverse = tots f l
  | [] => rfl
  | x :: l => by
    rw [List.reverse_cons, tots_app, tots_rev f l, tots_cons, tots_cons, addO_comm]
    congr 1
    cases f x <;> simp [tots, addO]
/-- what the count answers -/
def cntP (d : D) : Option Nat := match W (.bl, d, -1) with
  | some t => if t ≤ 200 then some t else none
  | none => none
def encI (x : It) : D := .tup [.str x.1.s, x.2.1, .int x.2.2]
def blks : List It → Nat
  | [] => 0
  | x :: l => (if isB x.1 then 1 else 0) + blks l
end K61


set_option Elab.async false
set_option maxRecDepth 10000
set_option maxHeartbeats 4000000
set_option linter.unusedSimpArgs false
set_option linter.unusedVariables false
/-! k61: the count's loop. -/
namespace K61
open PySem L2 Mi Mi.Pl
def cntB : List Mi.S := [
    .popT [3, 4, 5] 1,
    .asg 6 (.call 9 [(.nm 3), (.nm 4)]),
    .ife (.cmp .isN (.nm 6) (.lit .non)) [
      .ret (.lit .non)] [],
    .aug 2 .add (.bi .int [(.cmp .ne (.nm 3) (.lit (.str "block")))]),
    .ife (.tor (.cmp .gt (.nm 2) (.lit (.int 200))) (.tand (.cmp .ne (.nm 3) (.lit (.str "block"))) (.cmp .gt (.nm 5) (.lit (.int 12))))) [
      .ret (.lit .non)] [],
    .asg 7 (.ite (.cmp .eq (.nm 3) (.lit (.str "block"))) (.nm 5) (.op .add (.nm 5) (.lit (.int 1)))),
    .ext 1 (.comp (.tup [8, 9]) (.iseq (.nm 6)) (.lit (.bl true)) [8, 9] (.tup [(.nm 8), (.nm 9), (.ite (.cmp .eq (.nm 8) (.lit (.str "block"))) (.nm 7) (.bi .max2 [(.nm 7), (.lit (.int 0))]))]))]
theorem cnt_def : b_count_parts = [.asg 1 (.lst [(.tup [(.lit (.str "block")), (.nm 0), (.neg (.lit (.int 1)))])]), .asg 2 (.lit (.int 0)), .whl [] (.cmp .gt (.bi .len [(.nm 1)]) (.lit (.int 0))) cntB, .ret (.nm 2)] := rfl
def cntE (d : D) (st : List It) (m : Nat) (c3 c4 c5 c6 c7 c8 c9 : Option Cell) : Mi.Env := [some (.val d), some (.own (st.map encI).reverse), some (.val (.int (m : Nat))), c3, c4, c5, c6, c7, c8, c9]
section
variable {k : Nat} {g : Gs}
theorem kd_bl (kd : Kd) : (kd.s == ("block" : Str)) = isB kd := by cases kd <;> simp [Kd.s, isB, ofS_beq]
theorem cmp_ne (a b : Str) : cmpD .ne (.str a) (.str b) = some (!(a == b)) := (rfl)
theorem one_i (kd : Kd) : (if isB kd = false then (1 : Int) else 0) = ((one kd : Nat) : Int) := by cases kd <;> rfl
theorem turn_none {d0 d : D} {kd : Kd} {dp : Int} {st : List It} {m : Nat} {c3 c4 c5 c6 c7 c8 c9 : Option Cell} (hf : fineD d = true) (hp : partsP kd d = none) :
    exL (Mi.call T (k + 5)) cntB (cntE d0 ((kd, d, dp) :: st) m c3 c4 c5 c6 c7 c8 c9) g = .rt .non g := by
  unfold cntB cntE
  have c1 := parts_ok (k := k) (g := g) (kd := kd) hf
  rw [hp] at c1
  simp [encI, bindTg, c1, encP, Mi.isNon]
theorem turn_over {d0 d : D} {kd : Kd} {dp : Int} {st : List It} {m : Nat} {ps : List (Kd × D)} {c3 c4 c5 c6 c7 c8 c9 : Option Cell} (hf : fineD d = true) (hp : partsP kd d = some ps) (ho : 200 < m + one kd ∨ (isB kd = false ∧ 12 < dp)) :
    exL (Mi.call T (k + 5)) cntB (cntE d0 ((kd, d, dp) :: st) m c3 c4 c5 c6 c7 c8 c9) g = .rt .non g := by
  unfold cntB cntE
  have c1 := parts_ok (k := k) (g := g) (kd := kd) hf
  rw [hp] at c1
  by_cases h : 200 < m + one kd
  · have h2 : (200 : Int) < ((m : Nat) : Int) + ((one kd : Nat) : Int) := by omega
    simp [encI, bindTg, c1, encP, Mi.isNon, cmp_ne, kd_bl, onInts, h2, one_i]
  · obtain ⟨hb, hd⟩ := ho.resolve_left h
    have h2 : ¬ (200 : Int) < ((m : Nat) : Int) + 1 := by rw [show one kd = 1 by unfold one; rw [hb]; rfl] at h; omega
    simp [encI, bindTg, c1, encP, Mi.isNon, cmp_ne, kd_bl, onInts, h2, hb, hd]
theorem turn_go {d0 d : D} {kd : Kd} {dp : Int} {st : List It} {m : Nat} {ps : List (Kd × D)} {c3 c4 c5 c6 c7 c8 c9 : Option Cell} (hf : fineD d = true) (hp : partsP kd d = some ps) (h1 : m + one kd ≤ 200) (h2 : isB kd = true ∨ dp ≤ 12)
    (hl : st.length ≤ 100000) (hl2 : ps.length ≤ 20) :
    ∃ c3' c4' c5' c6' c7', exL (Mi.call T (k + 5)) cntB (cntE d0 ((kd, d, dp) :: st) m c3 c4 c5 c6 c7 c8 c9) g = .nx (cntE d0 ((kids kd dp ps).reverse ++ st) (m + one kd) c3' c4' c5' c6' c7' c8 c9) g := by
  have c1 := parts_ok (k := k) (g := g) (kd := kd) hf
  rw [hp] at c1
  refine ⟨some (.val (.str kd.s)), some (.val d), some (.val (.int dp)), some (.val (encP (some ps))), some (.val (.int (down kd dp))), ?_⟩
  have n2 : ¬ (200 : Int) < ((m : Nat) : Int) + ((one kd : Nat) : Int) := by omega
  have cm := ev_comp_map (c := Mi.call T (k + 5)) (g := g) (ρ := [some (.val d0), some (.own (st.map encI).reverse), some (.val (.int (((m : Nat) : Int) + ((one kd : Nat) : Int)))), some (.val (.str kd.s)), some (.val d), some (.val (.int dp)), some (.val (.lst (ps.map fun p => .tup [.str p.1.s, p.2]))), some (.val (.int (down kd dp))), c8, c9])
    (tg := .tup [8, 9]) (it := .iseq (.nm 6)) (own := [8, 9]) (elt := .tup [(.nm 8), (.nm 9), (.ite (.cmp .eq (.nm 8) (.lit (.str "block"))) (.nm 7) (.bi .max2 [(.nm 7), (.lit (.int 0))]))]) ps (fun p => .tup [.str p.1.s, p.2]) (fun p => encI (p.1, p.2, dpc p.1 (down kd dp)))
    (fun p => [some (.val d0), some (.own (st.map encI).reverse), some (.val (.int (((m : Nat) : Int) + ((one kd : Nat) : Int)))), some (.val (.str kd.s)), some (.val d), some (.val (.int dp)), some (.val (.lst (ps.map fun p => .tup [.str p.1.s, p.2]))), some (.val (.int (down kd dp))), some (.val (.str p.1.s)), some (.val p.2)])
    (by simp [itemsD]) (fun p _ => by simp [bindTg, wipeE]) (fun p _ => by
      cases h : isB p.1 <;> simp [kd_bl, h, encI, dpc]) (sizeLine_ge (by omega))
  have len1 : st.length + (kids kd dp ps).length ≤ sizeLine := by unfold kids; rw [List.length_map]; exact sizeLine_ge (by omega)
  have e3 : (ps.map fun p => encI (p.1, p.2, dpc p.1 (down kd dp))) = (kids kd dp ps).map encI := by unfold kids; rw [List.map_map]; rfl
  rw [e3] at cm
  unfold cntB cntE
  cases hb : isB kd with
  | true =>
    have ed : down kd dp = dp := by unfold down; rw [hb]; rfl
    have o1 : one kd = 0 := by unfold one; rw [hb]; rfl
    rw [o1] at n2
    rw [ed, o1] at cm
    rw [ed, o1]
    have n3 : ¬ (200 : Int) < ((m : Nat) : Int) := by omega
    have z : ((m : Nat) : Int) + ((0 : Nat) : Int) = ((m : Nat) : Int) := by omega
    rw [z] at cm
    simp [encI, bindTg, c1, encP, Mi.isNon, cmp_ne, kd_bl, onInts, n3, hb, cm, len1]
  | false =>
    have ed : down kd dp = dp + 1 := by unfold down; rw [hb]; rfl
    have h12 : ¬ 12 < dp := by have := h2.resolve_left (by rw [hb]; exact Bool.false_ne_true); omega
    have o1 : one kd = 1 := by unfold one; rw [hb]; rfl
    rw [o1] at n2
    rw [ed, o1] at cm
    rw [ed, o1]
    have n3 : ¬ (200 : Int) < ((m : Nat) : Int) + 1 := by omega
    have z : ((m : Nat) : Int) + ((1 : Nat) : Int) = ((m : Nat) : Int) + 1 := by omega
    rw [z] at cm
    simp [encI, bindTg, c1, encP, Mi.isNon, cmp_ne, kd_bl, onInts, n3, hb, h12, cm, len1]
theorem parts_few {kd : Kd} {d : D} {ps : List (Kd × D)} (h : partsP kd d = some ps) (dp : Int) : ps.length ≤ 20 ∧ blks (kids kd dp ps) ≤ 2 * one kd := by
  unfold partsP at h
  cases e : rowOfD d with
  | none => rw [e] at h; cases h
  | some xs =>
    rw [e] at h
    cases kd with
    | bl =>
      simp only at h
      split at h
      · rename_i hl
        cases h
        refine ⟨by rw [List.length_map]; exact hl, ?_⟩
        have : ∀ ys : List D, blks (kids .bl dp (ys.map fun x => (Kd.ln, x))) = 0 := by
          intro ys
          induction ys with
          | nil => rfl
          | cons y ys ih =>
            show (if isB .ln = true then 1 else 0) + blks (kids .bl dp (ys.map fun x => (Kd.ln, x))) = 0
            rw [ih]; rfl
        rw [this]; exact Nat.zero_le _
      · cases h
    | am =>
      simp only at h
      split at h
      · unfold amP at h
        repeat' split at h
        all_goals first
          | (cases h; done)
          | (cases h; exact ⟨by simp, by simp [kids, blks, one, isB]⟩)
      · cases h
    | te =>
      simp only at h
      split at h
      · unfold teP at h
        repeat' split at h
        all_goals first
          | (cases h; done)
          | (cases h; exact ⟨by simp, by simp [kids, blks, one, isB]⟩)
      · cases h
    | ln =>
      simp only at h
      split at h
      · unfold lnP at h
        repeat' split at h
        all_goals first
          | (cases h; done)
          | (cases h; exact ⟨by simp, by simp [kids, blks, one, isB]⟩)
      · cases h
theorem blks_app : ∀ a b : List It, blks (a ++ b) = blks a + blks b
  | [], b => by simp [blks]
  | x :: a, b => by rw [List.cons_append, blks, blks, blks_app a b]; omega
theorem blks_rev : ∀ a : List It, blks a.reverse = blks a
  | [] => rfl
  | x :: a => by rw [List.reverse_cons, blks_app, blks_rev a, blks, blks, blks]; omega
def cntRes (g : Gs) (d0 : D) (st : List It) (m : Nat) (r : SR) : Prop := match tots W st with
  | some t => if m + t ≤ 200 then ∃ c3 c4 c5 c6 c7 c8 c9, r = .nx (cntE d0 [] (m + t) c3 c4 c5 c6 c7 c8 c9) g else r = .rt .non g
  | none => r = .rt .non g
abbrev cntW (k : Nat) (F : Nat) (ρ : Mi.Env) (g : Gs) : SR := whlL [] (fun ρ g => brw (.cmp .gt (.bi .len [(.nm 1)]) (.lit (.int 0))) ρ g (ev (Mi.call T (k + 5)) (.cmp .gt (.bi .len [(.nm 1)]) (.lit (.int 0))) ρ g)) (fun ρ g => exL (Mi.call T (k + 5)) cntB ρ g) F ρ g
theorem test_ok {d0 : D} {st : List It} {m : Nat} {c3 c4 c5 c6 c7 c8 c9 : Option Cell} : brw (.cmp .gt (.bi .len [(.nm 1)]) (.lit (.int 0))) (cntE d0 st m c3 c4 c5 c6 c7 c8 c9) g (ev (Mi.call T (k + 5)) (.cmp .gt (.bi .len [(.nm 1)]) (.lit (.int 0))) (cntE d0 st m c3 c4 c5 c6 c7 c8 c9) g) = .ok (.bl (!st.isEmpty)) g := by
  unfold cntE
  cases st with
  | nil => simp
  | cons x st =>
    have h : (0 : Int) < ((st.length : Nat) : Int) + 1 := by omega
    simp [h]
theorem loop_ok : ∀ (F : Nat) (d0 : D) (st : List It) (m : Nat) (c3 c4 c5 c6 c7 c8 c9 : Option Cell), 3 * (201 - m) + blks st < F → m ≤ 200 → st.length + 20 * (3 * (201 - m) + blks st) ≤ 100000 → (∀ x ∈ st, fineD x.2.1 = true) →
    cntRes g d0 st m (cntW k F (cntE d0 st m c3 c4 c5 c6 c7 c8 c9) g)
  | 0, _, _, _, _, _, _, _, _, _, _, h, _, _, _ => by omega
  | F + 1, d0, st, m, c3, c4, c5, c6, c7, c8, c9, h, hm, hl, hf => by
    have fz : freeze (cntE d0 st m c3 c4 c5 c6 c7 c8 c9) [] = cntE d0 st m c3 c4 c5 c6 c7 c8 c9 := rfl
    unfold cntW whlL
    rw [fz, test_ok, R.st_ok]
    cases st with
    | nil =>
      show cntRes g d0 [] m (SR.nx _ g)
      unfold cntRes
      rw [show tots W [] = some 0 from rfl]
      simp only [Nat.add_zero]
      rw [if_pos hm]
      exact ⟨c3, c4, c5, c6, c7, c8, c9, rfl⟩
    | cons x st =>
      obtain ⟨kd, d, dp⟩ := x
      have hd : fineD d = true := hf _ List.mem_cons_self
      show cntRes g d0 ((kd, d, dp) :: st) m (SR.turn (exL (Mi.call T (k + 5)) cntB (cntE d0 ((kd, d, dp) :: st) m c3 c4 c5 c6 c7 c8 c9) g) (fun ρ g => cntW k F ρ g))
      cases e : partsP kd d with
      | none =>
        rw [turn_none hd e, SR.turn_rt]
        unfold cntRes
        rw [tots_cons, W_eq, e]
        rfl
      | some ps =>
        obtain ⟨q1, q2⟩ := parts_few e dp
        by_cases ho : 200 < m + one kd ∨ (isB kd = false ∧ 12 < dp)
        · rw [turn_over hd e ho, SR.turn_rt]
          unfold cntRes
          rw [tots_cons, W_eq, e]
          simp only
          rcases ho with ho | ⟨hb, hdp⟩
          · split
            · rename_i t ht
              have : one kd ≤ t := by
                split at ht
                · cases ht
                · cases h1 : tots W (kids kd dp ps) with
                  | none => rw [h1, addO_none] at ht; cases ht
                  | some a =>
                    rw [h1] at ht
                    cases h2 : tots W st with
                    | none => rw [h2, addO_none] at ht; cases ht
                    | some b =>
                      rw [h2] at ht
                      have : one kd + a + b = t := Option.some.inj ht
                      omega
              rw [if_neg (by omega)]
              trivial
            · trivial
          · rw [if_pos (by rw [hb]; simpa using hdp)]
            have z : addO none (tots W st) = none := rfl
            rw [z]
            trivial
        · have ho1 : m + one kd ≤ 200 := by
            by_cases z : m + one kd ≤ 200
            · exact z
            · exact absurd (.inl (by omega)) ho
          have ho2 : isB kd = true ∨ dp ≤ 12 := by
            cases hb : isB kd with
            | true => exact .inl rfl
            | false =>
              right
              by_cases z : dp ≤ 12
              · exact z
              · exact absurd (.inr ⟨hb, by omega⟩) ho
          have hlen : st.length ≤ 100000 := by rw [List.length_cons] at hl; omega
          obtain ⟨c3', c4', c5', c6', c7', e1⟩ := turn_go (k := k) (g := g) (d0 := d0) (st := st) (m := m) (c3 := c3) (c4 := c4) (c5 := c5) (c6 := c6) (c7 := c7) (c8 := c8) (c9 := c9) hd e ho1 ho2 hlen q1
          rw [e1, SR.turn_nx]
          have hone : one kd = if isB kd then 0 else 1 := rfl
          have hb1 : blks ((kd, d, dp) :: st) = (if isB kd then 1 else 0) + blks st := rfl
          have hb2 : blks ((kids kd dp ps).reverse ++ st) = blks (kids kd dp ps) + blks st := by rw [blks_app, blks_rev]
          have hl2 : ((kids kd dp ps).reverse ++ st).length = ps.length + st.length := by rw [List.length_append, List.length_reverse]; unfold kids; rw [List.length_map]
          have meas : 3 * (201 - (m + one kd)) + blks ((kids kd dp ps).reverse ++ st) + 1 ≤ 3 * (201 - m) + blks ((kd, d, dp) :: st) := by
            rw [hb1, hb2]
            cases hb : isB kd <;> rw [hb] at hone <;> simp at hone ⊢ <;> omega
          have ih := loop_ok F d0 ((kids kd dp ps).reverse ++ st) (m + one kd) c3' c4' c5' c6' c7' c8 c9 (by omega) ho1 (by rw [hl2]; rw [List.length_cons] at hl; omega) (fun x hx => by
            rcases List.mem_append.mp hx with hx | hx
            · obtain ⟨p, hp, rfl⟩ := List.mem_map.mp (List.mem_reverse.mp hx)
              obtain ⟨xs, z1, z2⟩ := parts_sub e
              exact fines_mem (fine_row hd z1).2.1 (z2 p hp)
            · exact hf x (List.mem_cons_of_mem _ hx))
          unfold cntRes at ih ⊢
          rw [tots_app, tots_rev] at ih
          rw [tots_cons, W_eq, e]
          simp only
          rw [if_neg (by
            rcases ho2 with z | z
            · rw [z]; simp
            · simp; intro _; omega)]
          cases h1 : tots W (kids kd dp ps) with
          | none => rw [h1] at ih; exact ih
          | some a =>
            rw [h1] at ih
            cases h2 : tots W st with
            | none => rw [h2] at ih; exact ih
            | some b =>
              rw [h2] at ih
              have ea : addO (addO (some (one kd)) (some a)) (some b) = some (one kd + a + b) := rfl
              have eb : addO (some a) (some b) = some (a + b) := rfl
              rw [ea]
              rw [eb] at ih
              simp only at ih ⊢
              rw [show m + (one kd + a + b) = m + one kd + (a + b) by omega]
              exact ih
theorem count_ok {d : D} (hf : fineD d = true) : Mi.call T (k + 6) 10 [d] g = .ok (match cntP d with | some t => .int (t : Nat) | none => .non) g := by
  rw [call_def d_count_parts rfl, cnt_def]
  have l := loop_ok (g := g) (k := k) turns d [(.bl, d, -1)] 0 none none none none none none none (by unfold turns; simp [blks, isB]) (by omega) (by simp [blks, isB]) (fun x hx => by rw [List.mem_singleton.mp hx]; exact hf)
  rw [exL_cons]
  have a1 : exS (Mi.call T (k + 5)) (.asg 1 (.lst [(.tup [(.lit (.str "block")), (.nm 0), (.neg (.lit (.int 1)))])])) [some (.val d), none, none, none, none, none, none, none, none, none] g = .nx [some (.val d), some (.own [encI (.bl, d, -1)]), none, none, none, none, none, none, none, none] g := by
    have sl : 0 < sizeLine := by decide
    simp [encI, Kd.s, sl, mkCell]
  show fin ((exS _ _ [some (.val d), none, none, none, none, none, none, none, none, none] g).seq _) = _
  rw [a1, SR.seq_nx, exL_cons]
  have a2 : exS (Mi.call T (k + 5)) (.asg 2 (.lit (.int 0))) [some (.val d), some (.own [encI (.bl, d, -1)]), none, none, none, none, none, none, none, none] g = .nx (cntE d [(.bl, d, -1)] 0 none none none none none none none) g := by
    simp [cntE]
  rw [a2, SR.seq_nx, exL_cons]
  have a3 : exS (Mi.call T (k + 5)) (.whl [] (.cmp .gt (.bi .len [(.nm 1)]) (.lit (.int 0))) cntB) (cntE d [(.bl, d, -1)] 0 none none none none none none none) g = cntW k turns (cntE d [(.bl, d, -1)] 0 none none none none none none none) g := by rw [exS]
  rw [a3]
  unfold cntRes at l
  have et : tots W [(.bl, d, -1)] = W (.bl, d, -1) := by
    rw [tots_cons]; cases W (.bl, d, -1) <;> simp [tots, addO]
  rw [et] at l
  unfold cntP
  cases hw : W (.bl, d, -1) with
  | none =>
    rw [hw] at l
    simp only at l
    rw [l]
    rfl
  | some t =>
    rw [hw] at l
    simp only at l
    by_cases ht : t ≤ 200
    · rw [if_pos (by omega)] at l
      obtain ⟨c3, c4, c5, c6, c7, c8, c9, l⟩ := l
      rw [l, SR.seq_nx]
      simp [cntE, ht]
    · rw [if_neg (by omega)] at l
      rw [l]
      simp [ht]
end
end K61


set_option Elab.async false
set_option maxRecDepth 10000
set_option maxHeartbeats 4000000
set_option linter.unusedSimpArgs false
set_option linter.unusedVariables false
/-! k61: right sources as trees; what is counted of them. -/
namespace K61
open PySem L2 Mi Mi.Pl
inductive Am where
  | num (i : Int) | var (v : Int) | len | byte (i : Int) | byteat (v i : Int) | op (z : Str) (a : Am) (c : Int) | wth (z : Str) (a : Am) (v : Int)
inductive Te where
  | cmp (z : Str) (a : Am) (c : Int) | cmv (z : Str) (a : Am) (v : Int) | not (t : Te) | two (z : Str) (t u : Te)
mutual
inductive Pt where
  | lt (v : Int) (a : Am) | gv (a : Am) | ife (t : Te) (x y : Bk) | lp (v : Int) (b : Bk)
inductive Bk where
  | nil | cons (p : Pt) (b : Bk)
end
def Am.d : Am → D
  | .num i => .tup [.str "num", .int i]
  | .var v => .tup [.str "var", .int v]
  | .len => .tup [.str "len"]
  | .byte i => .tup [.str "byte", .int i]
  | .byteat v i => .tup [.str "byteat", .int v, .int i]
  | .op z a c => .tup [.str "op", .str z, a.d, .int c]
  | .wth z a v => .tup [.str "with", .str z, a.d, .int v]
def Te.d : Te → D
  | .cmp z a c => .tup [.str z, a.d, .int c]
  | .cmv z a v => .tup [.str z, a.d, .int v]
  | .not t => .tup [.str "not", t.d]
  | .two z t u => .tup [.str z, t.d, u.d]
mutual
def Pt.d : Pt → D
  | .lt v a => .tup [.str "let", .int v, a.d]
  | .gv a => .tup [.str "give", a.d]
  | .ife t x y => .tup [.str "if", t.d, .tup x.ds, .tup y.ds]
  | .lp v b => .tup [.str "loop", .int v, .tup b.ds]
def Bk.ds : Bk → List D
  | .nil => []
  | .cons p b => p.d :: b.ds
end
def Bk.d (b : Bk) : D := .tup b.ds
def vr (v : Int) : Bool := decide (0 ≤ v) && decide (v ≤ 3)
def wd (v : Int) : Bool := decide (0 ≤ v) && decide (v ≤ 65535)
def Am.ok : Am → Bool
  | .num i => wd i
  | .var v => vr v
  | .len => true
  | .byte i => wd i
  | .byteat v i => vr v && wd i
  | .op z a c => opFits (.str z) (.int c) && PyData.strOk z && a.ok
  | .wth z a v => withN (.str z) && vr v && PyData.strOk z && a.ok
def isCmp (z : Str) : Bool := z == "eq" || z == "more" || z == "bits"
def isCmv (z : Str) : Bool := z == "same" || z == "above"
def isTwo (z : Str) : Bool := z == "and" || z == "or"
def Te.ok : Te → Bool
  | .cmp z a c => isCmp z && wd c && a.ok
  | .cmv z a v => isCmv z && vr v && a.ok
  | .not t => t.ok
  | .two z t u => isTwo z && t.ok && u.ok
mutual
def Pt.ok : Pt → Bool
  | .lt v a => vr v && a.ok
  | .gv a => a.ok
  | .ife t x y => t.ok && (x.ok && decide (x.ds.length ≤ 20)) && (y.ok && decide (y.ds.length ≤ 20))
  | .lp v b => vr v && (b.ok && decide (b.ds.length ≤ 20))
def Bk.ok : Bk → Bool
  | .nil => true
  | .cons p b => p.ok && b.ok
end
def Am.h : Am → Nat
  | .op _ a _ => a.h + 1
  | .wth _ a _ => a.h + 1
  | _ => 0
def Te.h : Te → Nat
  | .cmp _ a _ => a.h + 1
  | .cmv _ a _ => a.h + 1
  | .not t => t.h + 1
  | .two _ t u => max t.h u.h + 1
mutual
def Pt.h : Pt → Nat
  | .lt _ a => a.h + 1
  | .gv a => a.h + 1
  | .ife t x y => max (t.h + 1) (max x.h y.h)
  | .lp _ b => b.h
def Bk.h : Bk → Nat
  | .nil => 0
  | .cons p b => max (p.h + 1) b.h
end
def Am.c : Am → Nat
  | .op _ a _ => a.c + 1
  | .wth _ a _ => a.c + 1
  | _ => 1
def Te.c : Te → Nat
  | .cmp _ a _ => a.c + 1
  | .cmv _ a _ => a.c + 1
  | .not t => t.c + 1
  | .two _ t u => t.c + u.c + 1
mutual
def Pt.c : Pt → Nat
  | .lt _ a => a.c + 1
  | .gv a => a.c + 1
  | .ife t x y => t.c + x.c + y.c + 1
  | .lp _ b => b.c + 1
def Bk.c : Bk → Nat
  | .nil => 0
  | .cons p b => p.c + b.c
end
/-! ### the parts -/
def Am.ps : Am → List (Kd × D)
  | .op _ a _ => [(.am, a.d)]
  | .wth _ a _ => [(.am, a.d)]
  | _ => []
def Te.ps : Te → List (Kd × D)
  | .cmp _ a _ => [(.am, a.d)]
  | .cmv _ a _ => [(.am, a.d)]
  | .not t => [(.te, t.d)]
  | .two _ t u => [(.te, t.d), (.te, u.d)]
def Pt.ps : Pt → List (Kd × D)
  | .lt _ a => [(.am, a.d)]
  | .gv a => [(.am, a.d)]
  | .ife t x y => [(.te, t.d), (.bl, x.d), (.bl, y.d)]
  | .lp _ b => [(.bl, b.d)]
theorem wd_in {i : Int} : inR 0 65535 (.int i) = wd i := rfl
theorem vr_in {i : Int} : inR 0 3 (.int i) = vr i := rfl
theorem amParts {a : Am} (h : a.ok = true) : partsP .am a.d = some a.ps := by
  cases a with
  | num i => simp only [Am.ok] at h; simp [Am.d, Am.ps, partsP, rowOfD, amP, wd_in, h]
  | var v => simp only [Am.ok] at h; simp [Am.d, Am.ps, partsP, rowOfD, amP, vr_in, h, ofS_beq]
  | len => simp [Am.d, Am.ps, partsP, rowOfD, amP]
  | byte i => simp only [Am.ok] at h; simp [Am.d, Am.ps, partsP, rowOfD, amP, wd_in, h, ofS_beq]
  | byteat v i => simp only [Am.ok, Bool.and_eq_true] at h; simp [Am.d, Am.ps, partsP, rowOfD, amP, wd_in, vr_in, h.1, h.2]
  | op z a c => simp only [Am.ok, Bool.and_eq_true] at h; simp [Am.d, Am.ps, partsP, rowOfD, amP, h.1.1]
  | wth z a v => simp only [Am.ok, Bool.and_eq_true] at h; simp [Am.d, Am.ps, partsP, rowOfD, amP, h.1.1.1, vr_in, h.1.1.2, ofS_beq]
theorem cmp_cases {z : Str} (h : isCmp z = true) : z = "eq" ∨ z = "more" ∨ z = "bits" := by simpa [isCmp, or_assoc] using h
theorem cmv_cases {z : Str} (h : isCmv z = true) : z = "same" ∨ z = "above" := by simpa [isCmv] using h
theorem two_cases {z : Str} (h : isTwo z = true) : z = "and" ∨ z = "or" := by simpa [isTwo] using h
theorem teParts {t : Te} (h : t.ok = true) : partsP .te t.d = some t.ps := by
  cases t with
  | cmp z a c =>
    simp only [Te.ok, Bool.and_eq_true] at h
    rcases cmp_cases h.1.1 with rfl | rfl | rfl <;> simp [Te.d, Te.ps, partsP, rowOfD, teP, wd_in, h.1.2, ofS_beq]
  | cmv z a v =>
    simp only [Te.ok, Bool.and_eq_true] at h
    rcases cmv_cases h.1.1 with rfl | rfl <;> simp [Te.d, Te.ps, partsP, rowOfD, teP, vr_in, h.1.2, ofS_beq]
  | not t => simp [Te.d, Te.ps, partsP, rowOfD, teP]
  | two z t u =>
    simp only [Te.ok, Bool.and_eq_true] at h
    rcases two_cases h.1.1 with rfl | rfl <;> simp [Te.d, Te.ps, partsP, rowOfD, teP, ofS_beq]
theorem ptParts {p : Pt} (h : p.ok = true) : partsP .ln p.d = some p.ps := by
  cases p with
  | lt v a => simp only [Pt.ok, Bool.and_eq_true] at h; simp [Pt.d, Pt.ps, partsP, rowOfD, lnP, vr_in, h.1]
  | gv a => simp [Pt.d, Pt.ps, partsP, rowOfD, lnP]
  | ife t x y => simp [Pt.d, Pt.ps, partsP, rowOfD, lnP, Bk.d]
  | lp v b => simp only [Pt.ok, Bool.and_eq_true] at h; simp [Pt.d, Pt.ps, partsP, rowOfD, lnP, vr_in, h.1, ofS_beq, Bk.d]
theorem bkParts (b : Bk) : partsP .bl b.d = if b.ds.length ≤ 20 then some (b.ds.map fun x => (.ln, x)) else none := by
  simp [Bk.d, partsP, rowOfD]
/-! ### the count -/
theorem dpc_up {kd : Kd} {dp : Int} (h : 0 ≤ dp) : dpc kd dp = dp := by
  unfold dpc
  split
  · rfl
  · rw [if_neg (by omega)]
theorem kids_up {kd : Kd} {dp : Int} {ps : List (Kd × D)} (hb : isB kd = false) (h : 0 ≤ dp) : kids kd dp ps = ps.map fun p => (p.1, p.2, dp + 1) := by
  unfold kids down
  rw [hb]
  refine List.map_congr_left fun p _ => ?_
  simp only [Bool.false_eq_true, if_false]
  rw [dpc_up (by omega)]
theorem W_am : ∀ (a : Am) (dp : Int), a.ok = true → 0 ≤ dp → W (.am, a.d, dp) = if dp + a.h ≤ 12 then some a.c else none := by
  intro a
  induction a with
  | op z a c ih =>
    intro dp h h0
    have ha : a.ok = true := by simp only [Am.ok, Bool.and_eq_true] at h; exact h.2
    rw [W_eq, amParts h]
    simp only
    rw [kids_up rfl h0]
    simp only [Am.ps, List.map_cons, List.map_nil, tots_cons, ih (dp + 1) ha (by omega)]
    show _ = if dp + ((a.h + 1 : Nat) : Int) ≤ 12 then some (a.c + 1) else none
    by_cases h1 : 12 < dp
    · rw [if_pos (by simp [isB, h1]), if_neg (by omega)]
    · rw [if_neg (by simp [isB]; omega)]
      by_cases h2 : dp + 1 + a.h ≤ 12
      · rw [if_pos h2, if_pos (by omega)]; simp [addO, tots, one, isB]; omega
      · rw [if_neg h2, if_neg (by omega)]; rfl
  | wth z a v ih =>
    intro dp h h0
    have ha : a.ok = true := by simp only [Am.ok, Bool.and_eq_true] at h; exact h.2
    rw [W_eq, amParts h]
    simp only
    rw [kids_up rfl h0]
    simp only [Am.ps, List.map_cons, List.map_nil, tots_cons, ih (dp + 1) ha (by omega)]
    show _ = if dp + ((a.h + 1 : Nat) : Int) ≤ 12 then some (a.c + 1) else none
    by_cases h1 : 12 < dp
    · rw [if_pos (by simp [isB, h1]), if_neg (by omega)]
    · rw [if_neg (by simp [isB]; omega)]
      by_cases h2 : dp + 1 + a.h ≤ 12
      · rw [if_pos h2, if_pos (by omega)]; simp [addO, tots, one, isB]; omega
      · rw [if_neg h2, if_neg (by omega)]; rfl
  | _ =>
    intro dp h h0
    rw [W_eq, amParts h]
    simp only [Am.ps, kids, List.map_nil]
    show _ = if dp + ((0 : Nat) : Int) ≤ 12 then some 1 else none
    by_cases h1 : 12 < dp
    · rw [if_pos (by simp [isB, h1]), if_neg (by omega)]
    · rw [if_neg (by simp [isB]; omega), if_pos (by omega)]; simp [addO, tots, one, isB]
theorem W_te : ∀ (t : Te) (dp : Int), t.ok = true → 0 ≤ dp → W (.te, t.d, dp) = if dp + t.h ≤ 12 then some t.c else none := by
  intro t
  induction t with
  | cmp z a c =>
    intro dp h h0
    have ha : a.ok = true := by simp only [Te.ok, Bool.and_eq_true] at h; exact h.2
    rw [W_eq, teParts h]
    simp only
    rw [kids_up rfl h0]
    simp only [Te.ps, List.map_cons, List.map_nil, tots_cons, W_am a (dp + 1) ha (by omega)]
    show _ = if dp + ((a.h + 1 : Nat) : Int) ≤ 12 then some (a.c + 1) else none
    by_cases h1 : 12 < dp
    · rw [if_pos (by simp [isB, h1]), if_neg (by omega)]
    · rw [if_neg (by simp [isB]; omega)]
      by_cases h2 : dp + 1 + a.h ≤ 12
      · rw [if_pos h2, if_pos (by omega)]; simp [addO, tots, one, isB]; omega
      · rw [if_neg h2, if_neg (by omega)]; rfl
  | cmv z a c =>
    intro dp h h0
    have ha : a.ok = true := by simp only [Te.ok, Bool.and_eq_true] at h; exact h.2
    rw [W_eq, teParts h]
    simp only
    rw [kids_up rfl h0]
    simp only [Te.ps, List.map_cons, List.map_nil, tots_cons, W_am a (dp + 1) ha (by omega)]
    show _ = if dp + ((a.h + 1 : Nat) : Int) ≤ 12 then some (a.c + 1) else none
    by_cases h1 : 12 < dp
    · rw [if_pos (by simp [isB, h1]), if_neg (by omega)]
    · rw [if_neg (by simp [isB]; omega)]
      by_cases h2 : dp + 1 + a.h ≤ 12
      · rw [if_pos h2, if_pos (by omega)]; simp [addO, tots, one, isB]; omega
      · rw [if_neg h2, if_neg (by omega)]; rfl
  | not t ih =>
    intro dp h h0
    have ht : t.ok = true := by simpa only [Te.ok] using h
    rw [W_eq, teParts h]
    simp only
    rw [kids_up rfl h0]
    simp only [Te.ps, List.map_cons, List.map_nil, tots_cons, ih (dp + 1) ht (by omega)]
    show _ = if dp + ((t.h + 1 : Nat) : Int) ≤ 12 then some (t.c + 1) else none
    by_cases h1 : 12 < dp
    · rw [if_pos (by simp [isB, h1]), if_neg (by omega)]
    · rw [if_neg (by simp [isB]; omega)]
      by_cases h2 : dp + 1 + t.h ≤ 12
      · rw [if_pos h2, if_pos (by omega)]; simp [addO, tots, one, isB]; omega
      · rw [if_neg h2, if_neg (by omega)]; rfl
  | two z t u iht ihu =>
    intro dp h h0
    have ht : t.ok = true := by simp only [Te.ok, Bool.and_eq_true] at h; exact h.1.2
    have hu : u.ok = true := by simp only [Te.ok, Bool.and_eq_true] at h; exact h.2
    rw [W_eq, teParts h]
    simp only
    rw [kids_up rfl h0]
    simp only [Te.ps, List.map_cons, List.map_nil, tots_cons, iht (dp + 1) ht (by omega), ihu (dp + 1) hu (by omega)]
    show _ = if dp + ((max t.h u.h + 1 : Nat) : Int) ≤ 12 then some (t.c + u.c + 1) else none
    by_cases h1 : 12 < dp
    · rw [if_pos (by simp [isB, h1]), if_neg (by omega)]
    · rw [if_neg (by simp [isB]; omega)]
      by_cases h2 : dp + 1 + t.h ≤ 12
      · by_cases h3 : dp + 1 + u.h ≤ 12
        · rw [if_pos h2, if_pos h3, if_pos (by omega)]; simp [addO, tots, one, isB]; omega
        · rw [if_pos h2, if_neg h3, if_neg (by omega)]; rfl
      · rw [if_neg h2]
        have z : ∀ q, addO none q = none := fun q => rfl
        rw [z, addO_none, if_neg (by omega)]
mutual
theorem W_ln : ∀ (p : Pt) (dp : Int), p.ok = true → 0 ≤ dp → W (.ln, p.d, dp) = if dp + p.h ≤ 12 then some p.c else none
  | .lt v a, dp, h, h0 => by
    have ha : a.ok = true := by simp only [Pt.ok, Bool.and_eq_true] at h; exact h.2
    rw [W_eq, ptParts h]
    simp only
    rw [kids_up rfl h0]
    simp only [Pt.ps, List.map_cons, List.map_nil, tots_cons, W_am a (dp + 1) ha (by omega)]
    show _ = if dp + ((a.h + 1 : Nat) : Int) ≤ 12 then some (a.c + 1) else none
    by_cases h1 : 12 < dp
    · rw [if_pos (by simp [isB, h1]), if_neg (by omega)]
    · rw [if_neg (by simp [isB]; omega)]
      by_cases h2 : dp + 1 + a.h ≤ 12
      · rw [if_pos h2, if_pos (by omega)]; simp [addO, tots, one, isB]; omega
      · rw [if_neg h2, if_neg (by omega)]; rfl
  | .gv a, dp, h, h0 => by
    have ha : a.ok = true := by simpa only [Pt.ok] using h
    rw [W_eq, ptParts h]
    simp only
    rw [kids_up rfl h0]
    simp only [Pt.ps, List.map_cons, List.map_nil, tots_cons, W_am a (dp + 1) ha (by omega)]
    show _ = if dp + ((a.h + 1 : Nat) : Int) ≤ 12 then some (a.c + 1) else none
    by_cases h1 : 12 < dp
    · rw [if_pos (by simp [isB, h1]), if_neg (by omega)]
    · rw [if_neg (by simp [isB]; omega)]
      by_cases h2 : dp + 1 + a.h ≤ 12
      · rw [if_pos h2, if_pos (by omega)]; simp [addO, tots, one, isB]; omega
      · rw [if_neg h2, if_neg (by omega)]; rfl
  | .ife t x y, dp, h, h0 => by
    have h9 := h
    simp only [Pt.ok, Bool.and_eq_true, decide_eq_true_eq] at h9
    obtain ⟨⟨ht, hx, lx⟩, hy, ly⟩ := h9
    rw [W_eq, ptParts h]
    simp only
    rw [kids_up rfl h0]
    show _ = if dp + ((max (t.h + 1) (max x.h y.h) : Nat) : Int) ≤ 12 then some (t.c + x.c + y.c + 1) else none
    by_cases h1 : 12 < dp
    · rw [if_pos (by simp [isB, h1]), if_neg (by omega)]
    · rw [if_neg (by simp [isB]; omega)]
      simp only [Pt.ps, List.map_cons, List.map_nil, tots_cons, W_te t (dp + 1) ht (by omega), W_bl x (dp + 1) hx lx (by omega) (by omega), W_bl y (dp + 1) hy ly (by omega) (by omega)]
      by_cases h2 : dp + 1 + t.h ≤ 12
      · by_cases h3 : dp + 1 + x.h ≤ 13
        · by_cases h4 : dp + 1 + y.h ≤ 13
          · rw [if_pos h2, if_pos h3, if_pos h4, if_pos (by omega)]; simp [addO, tots, one, isB]; omega
          · rw [if_pos h2, if_pos h3, if_neg h4, if_neg (by omega)]; rfl
        · rw [if_pos h2, if_neg h3]
          have z : ∀ q, addO none q = none := fun q => rfl
          rw [z, addO_none, addO_none, if_neg (by omega)]
      · rw [if_neg h2]
        have z : ∀ q, addO none q = none := fun q => rfl
        rw [z, addO_none, if_neg (by omega)]
  | .lp v b, dp, h, h0 => by
    have h9 := h
    simp only [Pt.ok, Bool.and_eq_true, decide_eq_true_eq] at h9
    obtain ⟨_, hb, lb⟩ := h9
    rw [W_eq, ptParts h]
    simp only
    rw [kids_up rfl h0]
    show _ = if dp + ((b.h : Nat) : Int) ≤ 12 then some (b.c + 1) else none
    by_cases h1 : 12 < dp
    · rw [if_pos (by simp [isB, h1]), if_neg (by omega)]
    · rw [if_neg (by simp [isB]; omega)]
      simp only [Pt.ps, List.map_cons, List.map_nil, tots_cons, W_bl b (dp + 1) hb lb (by omega) (by omega)]
      by_cases h2 : dp + 1 + b.h ≤ 13
      · rw [if_pos h2, if_pos (by omega)]; simp [addO, tots, one, isB]; omega
      · rw [if_neg h2, if_neg (by omega)]; rfl
theorem W_bl : ∀ (b : Bk) (dp : Int), b.ok = true → b.ds.length ≤ 20 → 0 ≤ dp → dp ≤ 13 → W (.bl, b.d, dp) = if dp + b.h ≤ 13 then some b.c else none
  | b, dp, h, hl, h0, h9 => by
    rw [W_eq, bkParts, if_pos hl]
    simp only
    rw [if_neg (by simp [isB])]
    have e : kids .bl dp (b.ds.map fun x => (Kd.ln, x)) = b.ds.map fun x => (Kd.ln, x, dp) := by
      unfold kids down
      rw [List.map_map]
      refine List.map_congr_left fun x _ => ?_
      simp only [Function.comp, isB, if_true, dpc_up h0]
    rw [e, T_bl b dp h h0 h9]
    split <;> simp [addO, one, isB]
theorem T_bl : ∀ (b : Bk) (dp : Int), b.ok = true → 0 ≤ dp → dp ≤ 13 → tots W (b.ds.map fun x => (Kd.ln, x, dp)) = if dp + b.h ≤ 13 then some b.c else none
  | .nil, dp, _, h0, h9 => by
    show _ = if dp + ((0 : Nat) : Int) ≤ 13 then some 0 else none
    rw [if_pos (by omega)]
    rfl
  | .cons p b, dp, h, h0, h9 => by
    simp only [Bk.ok, Bool.and_eq_true] at h
    simp only [Bk.ds, List.map_cons, tots_cons]
    rw [W_ln p dp h.1 h0, T_bl b dp h.2 h0 h9]
    show _ = if dp + ((max (p.h + 1) b.h : Nat) : Int) ≤ 13 then some (p.c + b.c) else none
    by_cases h2 : dp + p.h ≤ 12
    · by_cases h3 : dp + b.h ≤ 13
      · rw [if_pos h2, if_pos h3, if_pos (by omega)]; rfl
      · rw [if_pos h2, if_neg h3, if_neg (by omega)]; rfl
    · rw [if_neg h2]
      have z : ∀ q, addO none q = none := fun q => rfl
      rw [z, if_neg (by omega)]
end
theorem cnt_bk {b : Bk} (h : b.ok = true) : cntP b.d = if b.ds.length ≤ 20 ∧ b.h ≤ 13 ∧ b.c ≤ 200 then some b.c else none := by
  unfold cntP
  have e0 : W (.bl, b.d, -1) = if b.ds.length ≤ 20 then (if b.h ≤ 13 then some b.c else none) else none := by
    rw [W_eq, bkParts]
    by_cases hl : b.ds.length ≤ 20
    · rw [if_pos hl, if_pos hl]
      simp only
      rw [if_neg (by simp [isB])]
      have e : kids .bl (-1) (b.ds.map fun x => (Kd.ln, x)) = b.ds.map fun x => (Kd.ln, x, (0 : Int)) := by
        unfold kids down
        rw [List.map_map]
        rfl
      rw [e, T_bl b 0 h (by omega) (by omega)]
      by_cases h1 : b.h ≤ 13
      · rw [if_pos (by omega), if_pos h1]; simp [addO, one, isB]
      · rw [if_neg (by omega), if_neg h1]; rfl
    · rw [if_neg hl, if_neg hl]
  rw [e0]
  by_cases hl : b.ds.length ≤ 20
  · rw [if_pos hl]
    by_cases h1 : b.h ≤ 13
    · rw [if_pos h1]
      by_cases h2 : b.c ≤ 200
      · simp [hl, h1, h2]
      · simp [hl, h1, h2]
    · simp [h1]
  · simp [hl]
end K61


set_option Elab.async false
set_option maxRecDepth 10000
set_option maxHeartbeats 4000000
set_option linter.unusedSimpArgs false
set_option linter.unusedVariables false
/-! k61: lists in the place of tuples; tuples again. -/
namespace K61
open PySem L2 Mi Mi.Pl
mutual
def lsD : D → D
  | .tup xs => .lst (lsDs xs)
  | .lst xs => .lst (lsDs xs)
  | .non => .non | .bl b => .bl b | .int i => .int i | .str s => .str s | .st => .st | .sub k => .sub k | .scr n => .scr n | .exn k f => .exn k f
def lsDs : List D → List D
  | [] => []
  | x :: xs => lsD x :: lsDs xs
end
mutual
def tpD : D → D
  | .tup xs => .tup (tpDs xs)
  | .lst xs => .tup (tpDs xs)
  | .non => .non | .bl b => .bl b | .int i => .int i | .str s => .str s | .st => .st | .sub k => .sub k | .scr n => .scr n | .exn k f => .exn k f
def tpDs : List D → List D
  | [] => []
  | x :: xs => tpD x :: tpDs xs
end
theorem lsDs_map : ∀ xs : List D, lsDs xs = xs.map lsD
  | [] => rfl
  | x :: xs => by rw [lsDs, lsDs_map xs]; rfl
theorem tpDs_map : ∀ xs : List D, tpDs xs = xs.map tpD
  | [] => rfl
  | x :: xs => by rw [tpDs, tpDs_map xs]; rfl
theorem lsD_tup (xs : List D) : lsD (.tup xs) = .lst (xs.map lsD) := by rw [lsD, lsDs_map]
theorem lsD_lst (xs : List D) : lsD (.lst xs) = .lst (xs.map lsD) := by rw [lsD, lsDs_map]
theorem tpD_tup (xs : List D) : tpD (.tup xs) = .tup (xs.map tpD) := by rw [tpD, tpDs_map]
theorem tpD_lst (xs : List D) : tpD (.lst xs) = .tup (xs.map tpD) := by rw [tpD, tpDs_map]
theorem lsD_str (s : Str) : lsD (.str s) = .str s := by rw [lsD]
theorem lsD_int (s : Int) : lsD (.int s) = .int s := by rw [lsD]
theorem rowOf_ls (d : D) : rowOfD (lsD d) = (rowOfD d).map (List.map lsD) := by
  cases d with
  | tup xs => rw [lsD_tup]; rfl
  | lst xs => rw [lsD_lst]; rfl
  | _ => rw [lsD] <;> first | rfl | simp
theorem inR_ls (lo hi : Int) (d : D) : inR lo hi (lsD d) = inR lo hi d := by
  cases d with
  | tup xs => rw [lsD_tup]; rfl
  | lst xs => rw [lsD_lst]; rfl
  | _ => rw [lsD] <;> first | rfl | simp
theorem fitF_ls (f : Str) (d : D) : fitF f (lsD d) = fitF f d := by unfold fitF; rw [inR_ls, inR_ls, inR_ls]
theorem opFits_ls (a c : D) : opFits (lsD a) (lsD c) = opFits a c := by
  cases a with
  | tup xs => rw [lsD_tup]; rfl
  | lst xs => rw [lsD_lst]; rfl
  | str s =>
    rw [lsD_str]
    show (match opTab.lookup s with | some f => fitF f (lsD c) | none => false) = match opTab.lookup s with | some f => fitF f c | none => false
    cases opTab.lookup s with
    | none => rfl
    | some f => exact fitF_ls f c
  | _ => rw [lsD] <;> first | rfl | simp
theorem withN_ls (a : D) : withN (lsD a) = withN a := by
  cases a with
  | tup xs => rw [lsD_tup]; rfl
  | lst xs => rw [lsD_lst]; rfl
  | _ => rw [lsD] <;> first | rfl | simp
def onP (o : Option (List (Kd × D))) : Option (List (Kd × D)) := o.map (List.map fun p => (p.1, lsD p.2))
theorem am_ls (s : Str) (r : List D) : amP s (r.map lsD) = onP (amP s r) := by
  match r with
  | [] => simp only [List.map_nil, amP]; split <;> rfl
  | [a] => simp only [List.map_cons, List.map_nil, amP, inR_ls]; repeat' split
           all_goals rfl
  | [a, b] => simp only [List.map_cons, List.map_nil, amP, inR_ls]; repeat' split
              all_goals rfl
  | [a, b, c] => simp only [List.map_cons, List.map_nil, amP, inR_ls, opFits_ls, withN_ls]; repeat' split
                 all_goals rfl
  | a :: b :: c :: d :: r => rfl
theorem te_ls (s : Str) (r : List D) : teP s (r.map lsD) = onP (teP s r) := by
  match r with
  | [] => rfl
  | [a] => simp only [List.map_cons, List.map_nil, teP]; split <;> rfl
  | [a, b] => simp only [List.map_cons, List.map_nil, teP, inR_ls]; repeat' split
              all_goals rfl
  | a :: b :: c :: r => rfl
theorem ln_ls (s : Str) (r : List D) : lnP s (r.map lsD) = onP (lnP s r) := by
  match r with
  | [] => rfl
  | [a] => simp only [List.map_cons, List.map_nil, lnP]; split <;> rfl
  | [a, b] => simp only [List.map_cons, List.map_nil, lnP, inR_ls]; repeat' split
              all_goals rfl
  | [a, b, c] => simp only [List.map_cons, List.map_nil, lnP]; split <;> rfl
  | a :: b :: c :: d :: r => rfl
def hdS : List D → Option (Str × List D)
  | .str s :: r => some (s, r)
  | _ => none
theorem partsP_eq (kd : Kd) (d : D) : partsP kd d = match rowOfD d with
    | none => none
    | some xs => match kd with
      | .bl => if xs.length ≤ 20 then some (xs.map fun x => (.ln, x)) else none
      | .am => (hdS xs).bind fun q => amP q.1 q.2
      | .te => (hdS xs).bind fun q => teP q.1 q.2
      | .ln => (hdS xs).bind fun q => lnP q.1 q.2 := by
  unfold partsP
  cases rowOfD d with
  | none => rfl
  | some xs =>
    cases kd with
    | bl => rfl
    | _ =>
      cases xs with
      | nil => rfl
      | cons x r => cases x <;> rfl
theorem hdS_ls (xs : List D) : hdS (xs.map lsD) = (hdS xs).map fun q => (q.1, q.2.map lsD) := by
  cases xs with
  | nil => rfl
  | cons x r =>
    rw [List.map_cons]
    cases x with
    | tup ys => rw [lsD_tup]; rfl
    | lst ys => rw [lsD_lst]; rfl
    | _ => rw [lsD] <;> first | rfl | simp
theorem parts_ls (kd : Kd) (d : D) : partsP kd (lsD d) = onP (partsP kd d) := by
  rw [partsP_eq, partsP_eq, rowOf_ls]
  cases rowOfD d with
  | none => rfl
  | some xs =>
    simp only [Option.map_some]
    cases kd with
    | bl =>
      simp only [List.length_map]
      split
      · simp [onP]
      · rfl
    | am =>
      simp only [hdS_ls]
      cases hdS xs with
      | none => rfl
      | some q => exact am_ls _ _
    | te =>
      simp only [hdS_ls]
      cases hdS xs with
      | none => rfl
      | some q => exact te_ls _ _
    | ln =>
      simp only [hdS_ls]
      cases hdS xs with
      | none => rfl
      | some q => exact ln_ls _ _
theorem tots_map {f h : It → Option Nat} {u : It → It} : ∀ {l : List It}, (∀ x ∈ l, f (u x) = h x) → tots f (l.map u) = tots h l
  | [], _ => rfl
  | x :: l, q => by rw [List.map_cons, tots_cons, tots_cons, q x List.mem_cons_self, tots_map fun y hy => q y (List.mem_cons_of_mem _ hy)]
theorem W_ls : ∀ (n : Nat) (kd : Kd) (d : D) (dp : Int), dpt d < n → W (kd, lsD d, dp) = W (kd, d, dp)
  | 0, _, _, _, h => by omega
  | n + 1, kd, d, dp, h => by
    rw [W_eq, W_eq, parts_ls]
    cases e : partsP kd d with
    | none => rfl
    | some ps =>
      obtain ⟨xs, e1, e2⟩ := parts_sub e
      show (if (!isB kd && decide (12 < dp)) = true then none else addO (some (one kd)) (tots W (kids kd dp (ps.map fun p => (p.1, lsD p.2))))) = if (!isB kd && decide (12 < dp)) = true then none else addO (some (one kd)) (tots W (kids kd dp ps))
      have z : kids kd dp (ps.map fun p => (p.1, lsD p.2)) = (kids kd dp ps).map fun x => (x.1, lsD x.2.1, x.2.2) := by
        unfold kids
        rw [List.map_map, List.map_map]
        rfl
      rw [z, tots_map fun y hy => by
        obtain ⟨p, hp, rfl⟩ := List.mem_map.mp hy
        have := dpt_row e1 (e2 p hp)
        exact W_ls n p.1 p.2 _ (by omega)]
theorem cnt_ls (d : D) : cntP (lsD d) = cntP d := by unfold cntP; rw [W_ls (dpt d + 1) .bl d (-1) (by omega)]
/-! ### the defs that turn -/
section
variable {k : Nat} {g : Gs}
theorem lists_ok : ∀ (n : Nat) (d : D), dpt d ≤ n → fineD d = true → Mi.call T (k + n + 1) 22 [d] g = .ok (lsD d) g
  | 0, d, h, hf => by
    rw [call_def d_law_lists rfl]
    unfold b_law_lists
    cases d with
    | tup xs => rw [dpt_tup] at h; omega
    | lst xs => rw [dpt_lst] at h; omega
    | st => cases hf
    | sub => cases hf
    | scr => cases hf
    | exn => cases hf
    | _ => simp [isiD, isiTy, tyOk, lsD]
  | n + 1, d, h, hf => by
    rw [← Nat.add_assoc, call_def d_law_lists rfl]
    unfold b_law_lists
    cases e : rowOfD d with
    | none =>
      cases d with
      | tup xs => cases e
      | lst xs => cases e
      | st => cases hf
      | sub => cases hf
      | scr => cases hf
      | exn => cases hf
      | _ => simp [isiD, isiTy, tyOk, lsD]
    | some xs =>
      obtain ⟨hl, hx, hd⟩ := fine_row hf e
      have c1 := ev_comp_map (c := Mi.call T (k + n + 1)) (g := g) (ρ := [some (.val d), none]) (tg := .nm 1) (it := .iseq (.nm 0)) (own := [1]) (elt := .call 22 [(.nm 1)]) xs (fun x => x) lsD
        (fun x => [some (.val d), some (.val x)]) (by rcases hd with rfl | rfl <;> simp [itemsD]) (fun i _ => rfl) (fun x hx' => by
          have := dpt_row e hx'
          simp [lists_ok n x (by omega) (fines_mem hx hx')]) (sizeLine_ge (by omega))
      rcases hd with rfl | rfl <;> simp [isiD, isiTy, tyOk, c1, lsD_tup, lsD_lst]
theorem tupled_ok : ∀ (n : Nat) (d : D) (m : Nat), dpt d ≤ n → dpt d ≤ m → fineD d = true → Mi.call T (k + n + 2) 3 [d, .int (m : Nat)] g = .ok (tpD d) g
  | 0, d, m, h, hm, hf => by
    rw [call_def d_tupled rfl]
    unfold b_tupled
    have r1 := row_ok (k := k) (g := g) hf
    cases d with
    | tup xs => rw [dpt_tup] at h; omega
    | lst xs => rw [dpt_lst] at h; omega
    | st => cases hf
    | sub => cases hf
    | scr => cases hf
    | exn => cases hf
    | _ => by_cases h0 : 0 < m <;> simp [h0, r1, rowOfD, tpD]
  | n + 1, d, m, h, hm, hf => by
    rw [← Nat.add_assoc, call_def d_tupled rfl]
    unfold b_tupled
    have r1 := row_ok (k := k + n + 1) (g := g) hf
    cases e : rowOfD d with
    | none =>
      rw [e] at r1
      cases d with
      | tup xs => cases e
      | lst xs => cases e
      | st => cases hf
      | sub => cases hf
      | scr => cases hf
      | exn => cases hf
      | _ => by_cases h0 : 0 < m <;> simp [h0, r1, rowOfD, tpD]
    | some xs =>
      obtain ⟨hl, hx, hd⟩ := fine_row hf e
      have hm1 : 1 ≤ m := by
        rcases hd with rfl | rfl
        · rw [dpt_tup] at hm; omega
        · rw [dpt_lst] at hm; omega
      have h0 : 0 < m := by omega
      have mm : ((m : Nat) : Int) - 1 = ((m - 1 : Nat) : Int) := by omega
      have c1 := ev_comp_map (c := Mi.call T (k + n + 2)) (g := g) (ρ := [some (.val d), some (.val (.int (m : Nat))), none]) (tg := .nm 2) (it := .iseq (.nm 0)) (own := [2]) (elt := .call 3 [(.nm 2), (.op .sub (.nm 1) (.lit (.int 1)))]) xs (fun x => x) tpD
        (fun x => [some (.val d), some (.val (.int (m : Nat))), some (.val x)]) (by rcases hd with rfl | rfl <;> simp [itemsD]) (fun i _ => rfl) (fun x hx' => by
          have := dpt_row e hx'
          have t1 := tupled_ok n x (m - 1) (by omega) (by omega) (fines_mem hx hx')
          simp [mm, t1]) (sizeLine_ge (by omega))
      rw [e] at r1
      rcases hd with rfl | rfl <;> simp [h0, r1, c1, tpD_tup, tpD_lst]
end
end K61


set_option Elab.async false
set_option maxRecDepth 10000
set_option maxHeartbeats 4000000
set_option linter.unusedSimpArgs false
set_option linter.unusedVariables false
/-! k61: of the trees: fine, how deep, all tuples; the law's own count. -/
namespace K61
open PySem L2 Mi Mi.Pl
theorem fine_tup {xs : List D} (hl : xs.length ≤ 1000) (h : fineDs xs = true) : fineD (.tup xs) = true := by unfold fineD; simp [hl, h]
theorem fineDs_cons {x : D} {xs : List D} (h : fineD x = true) (t : fineDs xs = true) : fineDs (x :: xs) = true := by rw [fineDs, h, t]; rfl
theorem fine_str {s : Str} (h : PyData.strOk s = true) : fineD (.str s) = true := by rw [fineD]; exact h
theorem fine_int {i : Int} : fineD (.int i) = true := by rw [fineD]
theorem fine_nil : fineDs [] = true := by rw [fineDs]
theorem x1 : PyData.strOk ("let" : Str) = true := by decide +kernel
theorem x2 : PyData.strOk ("if" : Str) = true := by decide +kernel
theorem x3 : PyData.strOk ("loop" : Str) = true := by decide +kernel
theorem x4 : PyData.strOk ("give" : Str) = true := by decide +kernel
theorem x5 : PyData.strOk ("not" : Str) = true := by decide +kernel
theorem x6 : PyData.strOk ("and" : Str) = true := by decide +kernel
theorem x7 : PyData.strOk ("or" : Str) = true := by decide +kernel
theorem x8 : PyData.strOk ("eq" : Str) = true := by decide +kernel
theorem x9 : PyData.strOk ("more" : Str) = true := by decide +kernel
theorem x10 : PyData.strOk ("bits" : Str) = true := by decide +kernel
theorem x11 : PyData.strOk ("same" : Str) = true := by decide +kernel
theorem x12 : PyData.strOk ("above" : Str) = true := by decide +kernel
theorem am_fine : ∀ {a : Am}, a.ok = true → fineD a.d = true
  | .num i, _ => fine_tup (by simp) (fineDs_cons (fine_str w1) (fineDs_cons fine_int fine_nil))
  | .var i, _ => fine_tup (by simp) (fineDs_cons (fine_str w3) (fineDs_cons fine_int fine_nil))
  | .len, _ => fine_tup (by simp) (fineDs_cons (fine_str w4) fine_nil)
  | .byte i, _ => fine_tup (by simp) (fineDs_cons (fine_str w2) (fineDs_cons fine_int fine_nil))
  | .byteat v i, _ => fine_tup (by simp) (fineDs_cons (fine_str w5) (fineDs_cons fine_int (fineDs_cons fine_int fine_nil)))
  | .op z a c, h => by
    simp only [Am.ok, Bool.and_eq_true] at h
    exact fine_tup (by simp) (fineDs_cons (fine_str w6) (fineDs_cons (fine_str h.1.2) (fineDs_cons (am_fine h.2) (fineDs_cons fine_int fine_nil))))
  | .wth z a c, h => by
    simp only [Am.ok, Bool.and_eq_true] at h
    exact fine_tup (by simp) (fineDs_cons (fine_str w7) (fineDs_cons (fine_str h.1.2) (fineDs_cons (am_fine h.2) (fineDs_cons fine_int fine_nil))))
theorem cmp_str {z : Str} (h : isCmp z = true) : PyData.strOk z = true := by rcases cmp_cases h with rfl | rfl | rfl <;> first | exact x8 | exact x9 | exact x10
theorem cmv_str {z : Str} (h : isCmv z = true) : PyData.strOk z = true := by rcases cmv_cases h with rfl | rfl <;> first | exact x11 | exact x12
theorem two_str {z : Str} (h : isTwo z = true) : PyData.strOk z = true := by rcases two_cases h with rfl | rfl <;> first | exact x6 | exact x7
theorem te_fine : ∀ {t : Te}, t.ok = true → fineD t.d = true
  | .cmp z a c, h => by
    simp only [Te.ok, Bool.and_eq_true] at h
    exact fine_tup (by simp) (fineDs_cons (fine_str (cmp_str h.1.1)) (fineDs_cons (am_fine h.2) (fineDs_cons fine_int fine_nil)))
  | .cmv z a c, h => by
    simp only [Te.ok, Bool.and_eq_true] at h
    exact fine_tup (by simp) (fineDs_cons (fine_str (cmv_str h.1.1)) (fineDs_cons (am_fine h.2) (fineDs_cons fine_int fine_nil)))
  | .not t, h => by
    simp only [Te.ok] at h
    exact fine_tup (by simp) (fineDs_cons (fine_str x5) (fineDs_cons (te_fine h) fine_nil))
  | .two z t u, h => by
    simp only [Te.ok, Bool.and_eq_true] at h
    exact fine_tup (by simp) (fineDs_cons (fine_str (two_str h.1.1)) (fineDs_cons (te_fine h.1.2) (fineDs_cons (te_fine h.2) fine_nil)))
mutual
theorem pt_fine : ∀ {p : Pt}, p.ok = true → fineD p.d = true
  | .lt v a, h => by
    simp only [Pt.ok, Bool.and_eq_true] at h
    exact fine_tup (by simp) (fineDs_cons (fine_str x1) (fineDs_cons fine_int (fineDs_cons (am_fine h.2) fine_nil)))
  | .gv a, h => by
    simp only [Pt.ok] at h
    exact fine_tup (by simp) (fineDs_cons (fine_str x4) (fineDs_cons (am_fine h) fine_nil))
  | .ife t x y, h => by
    simp only [Pt.ok, Bool.and_eq_true, decide_eq_true_eq] at h
    exact fine_tup (by simp) (fineDs_cons (fine_str x2) (fineDs_cons (te_fine h.1.1) (fineDs_cons (fine_tup (by omega) (bk_fines h.1.2.1)) (fineDs_cons (fine_tup (by omega) (bk_fines h.2.1)) fine_nil))))
  | .lp v b, h => by
    simp only [Pt.ok, Bool.and_eq_true, decide_eq_true_eq] at h
    exact fine_tup (by simp) (fineDs_cons (fine_str x3) (fineDs_cons fine_int (fineDs_cons (fine_tup (by omega) (bk_fines h.2.1)) fine_nil)))
theorem bk_fines : ∀ {b : Bk}, b.ok = true → fineDs b.ds = true
  | .nil, _ => fine_nil
  | .cons p b, h => by
    simp only [Bk.ok, Bool.and_eq_true] at h
    exact fineDs_cons (pt_fine h.1) (bk_fines h.2)
end
theorem bk_fine {b : Bk} (h : b.ok = true) (hl : b.ds.length ≤ 1000) : fineD b.d = true := fine_tup hl (bk_fines h)
/-! ### how deep -/
theorem dpt_str (s : Str) : dpt (.str s) = 0 := by rw [dpt] <;> simp
theorem dpt_int (s : Int) : dpt (.int s) = 0 := by rw [dpt] <;> simp
theorem dpts_nil : dpts [] = 0 := by rw [dpts]
theorem am_dpt : ∀ a : Am, dpt a.d ≤ a.h + 1
  | .num i => by simp only [Am.d, dpt_tup, dpts_cons, dpts_nil, dpt_str, dpt_int]; omega
  | .var i => by simp only [Am.d, dpt_tup, dpts_cons, dpts_nil, dpt_str, dpt_int]; omega
  | .len => by simp only [Am.d, dpt_tup, dpts_cons, dpts_nil, dpt_str, dpt_int]; omega
  | .byte i => by simp only [Am.d, dpt_tup, dpts_cons, dpts_nil, dpt_str, dpt_int]; omega
  | .byteat v i => by simp only [Am.d, dpt_tup, dpts_cons, dpts_nil, dpt_str, dpt_int]; omega
  | .op z a c => by have := am_dpt a; simp only [Am.d, Am.h, dpt_tup, dpts_cons, dpts_nil, dpt_str, dpt_int]; omega
  | .wth z a c => by have := am_dpt a; simp only [Am.d, Am.h, dpt_tup, dpts_cons, dpts_nil, dpt_str, dpt_int]; omega
theorem te_dpt : ∀ t : Te, dpt t.d ≤ t.h + 1
  | .cmp z a c => by have := am_dpt a; simp only [Te.d, Te.h, dpt_tup, dpts_cons, dpts_nil, dpt_str, dpt_int]; omega
  | .cmv z a c => by have := am_dpt a; simp only [Te.d, Te.h, dpt_tup, dpts_cons, dpts_nil, dpt_str, dpt_int]; omega
  | .not t => by have := te_dpt t; simp only [Te.d, Te.h, dpt_tup, dpts_cons, dpts_nil, dpt_str, dpt_int]; omega
  | .two z t u => by have := te_dpt t; have := te_dpt u; simp only [Te.d, Te.h, dpt_tup, dpts_cons, dpts_nil, dpt_str, dpt_int]; omega
mutual
theorem pt_dpt : ∀ p : Pt, dpt p.d ≤ 2 * p.h + 2
  | .lt v a => by have := am_dpt a; simp only [Pt.d, Pt.h, dpt_tup, dpts_cons, dpts_nil, dpt_str, dpt_int]; omega
  | .gv a => by have := am_dpt a; simp only [Pt.d, Pt.h, dpt_tup, dpts_cons, dpts_nil, dpt_str, dpt_int]; omega
  | .ife t x y => by
    have := te_dpt t; have := bk_dpts x; have := bk_dpts y
    simp only [Pt.d, Pt.h, dpt_tup, dpts_cons, dpts_nil, dpt_str, dpt_int]; omega
  | .lp v b => by have := bk_dpts b; simp only [Pt.d, Pt.h, dpt_tup, dpts_cons, dpts_nil, dpt_str, dpt_int]; omega
theorem bk_dpts : ∀ b : Bk, dpts b.ds ≤ 2 * b.h
  | .nil => by simp only [Bk.ds, dpts_nil]; omega
  | .cons p b => by have := pt_dpt p; have := bk_dpts b; simp only [Bk.ds, Bk.h, dpts_cons]; omega
end
theorem bk_dpt (b : Bk) : dpt b.d ≤ 2 * b.h + 1 := by have := bk_dpts b; unfold Bk.d; rw [dpt_tup]; omega
/-! ### tuples again -/
theorem tpD_str (s : Str) : tpD (.str s) = .str s := by rw [tpD]
theorem tpD_int (s : Int) : tpD (.int s) = .int s := by rw [tpD]
theorem tp_ls : ∀ (n : Nat) (d : D), dpt d ≤ n → tpD (lsD d) = tpD d
  | n, d, h => by
    cases d with
    | tup xs =>
      rw [lsD_tup, tpD_lst, tpD_tup, List.map_map]
      rw [dpt_tup] at h
      congr 1
      refine List.map_congr_left fun x hx => ?_
      have := dpts_mem hx
      match n, h with
      | n + 1, h => exact tp_ls n x (by omega)
    | lst xs =>
      rw [lsD_lst, tpD_lst, tpD_lst, List.map_map]
      rw [dpt_lst] at h
      congr 1
      refine List.map_congr_left fun x hx => ?_
      have := dpts_mem hx
      match n, h with
      | n + 1, h => exact tp_ls n x (by omega)
    | _ => rw [lsD] <;> simp
theorem am_tp : ∀ a : Am, tpD a.d = a.d
  | .num i => by simp only [Am.d, tpD_tup, List.map_cons, List.map_nil, tpD_str, tpD_int]
  | .var i => by simp only [Am.d, tpD_tup, List.map_cons, List.map_nil, tpD_str, tpD_int]
  | .len => by simp only [Am.d, tpD_tup, List.map_cons, List.map_nil, tpD_str, tpD_int]
  | .byte i => by simp only [Am.d, tpD_tup, List.map_cons, List.map_nil, tpD_str, tpD_int]
  | .byteat v i => by simp only [Am.d, tpD_tup, List.map_cons, List.map_nil, tpD_str, tpD_int]
  | .op z a c => by simp only [Am.d, tpD_tup, List.map_cons, List.map_nil, tpD_str, tpD_int, am_tp a]
  | .wth z a c => by simp only [Am.d, tpD_tup, List.map_cons, List.map_nil, tpD_str, tpD_int, am_tp a]
theorem te_tp : ∀ t : Te, tpD t.d = t.d
  | .cmp z a c => by simp only [Te.d, tpD_tup, List.map_cons, List.map_nil, tpD_str, tpD_int, am_tp a]
  | .cmv z a c => by simp only [Te.d, tpD_tup, List.map_cons, List.map_nil, tpD_str, tpD_int, am_tp a]
  | .not t => by simp only [Te.d, tpD_tup, List.map_cons, List.map_nil, tpD_str, tpD_int, te_tp t]
  | .two z t u => by simp only [Te.d, tpD_tup, List.map_cons, List.map_nil, tpD_str, tpD_int, te_tp t, te_tp u]
mutual
theorem pt_tp : ∀ p : Pt, tpD p.d = p.d
  | .lt v a => by simp only [Pt.d, tpD_tup, List.map_cons, List.map_nil, tpD_str, tpD_int, am_tp a]
  | .gv a => by simp only [Pt.d, tpD_tup, List.map_cons, List.map_nil, tpD_str, tpD_int, am_tp a]
  | .ife t x y => by simp only [Pt.d, tpD_tup, List.map_cons, List.map_nil, tpD_str, tpD_int, te_tp t, bk_tps x, bk_tps y]
  | .lp v b => by simp only [Pt.d, tpD_tup, List.map_cons, List.map_nil, tpD_str, tpD_int, bk_tps b]
theorem bk_tps : ∀ b : Bk, b.ds.map tpD = b.ds
  | .nil => rfl
  | .cons p b => by simp only [Bk.ds, List.map_cons, pt_tp p, bk_tps b]
end
theorem bk_tp (b : Bk) : tpD b.d = b.d := by unfold Bk.d; rw [tpD_tup, bk_tps]
/-! ### the law's own count -/
section
variable {k : Nat} {g : Gs}
theorem lp_not {d : D} (h : fineD d = true) (hd : ∀ xs, d ≠ .tup xs) : Mi.call T (k + 1) 24 [d] g = .ok (.int 0) g := by
  rw [call_def d_law_parts rfl]
  unfold b_law_parts
  cases d with
  | tup xs => exact absurd rfl (hd xs)
  | st => cases h
  | sub => cases h
  | scr => cases h
  | exn => cases h
  | _ => simp [isiD, isiTy, tyOk]
theorem intsD_map {α : Type} (f : α → Int) : ∀ xs : List α, intsD (xs.map fun x => D.int (f x)) = some (xs.map f)
  | [] => rfl
  | x :: xs => by rw [List.map_cons, intsD, intsD_map f xs]; rfl
def hd1 : List D → Int
  | .str _ :: _ => 1
  | _ => 0
theorem lp_tup {xs : List D} (f : D → Int) (hx : fineDs xs = true) (hl : xs.length ≤ 1000) (h : ∀ x ∈ xs, Mi.call T k 24 [x] g = .ok (.int (f x)) g) : Mi.call T (k + 1) 24 [.tup xs] g = .ok (.int (hd1 xs + (xs.map f).sum)) g := by
  rw [call_def d_law_parts rfl]
  unfold b_law_parts
  have c1 : ∀ h9 : Option Cell, ev (Mi.call T k) (.comp (.nm 2) (.iseq (.nm 0)) (.lit (.bl true)) [2] (.call 24 [(.nm 2)])) [some (.val (.tup xs)), h9, none] g = .ok (.lst (xs.map fun x => .int (f x))) g := fun h9 => ev_comp_map (c := Mi.call T k) (g := g) (ρ := [some (.val (.tup xs)), h9, none]) (tg := .nm 2) (it := .iseq (.nm 0)) (own := [2]) (elt := .call 24 [(.nm 2)]) xs (fun x => x) (fun x => .int (f x))
    (fun x => [some (.val (.tup xs)), h9, some (.val x)]) (by simp [itemsD]) (fun i _ => rfl) (fun x hx => by simp [h x hx]) (sizeLine_ge (by omega))
  have s1 := bi_sum (g := g) (intsD_map f xs)
  cases xs with
  | nil => simp [isiD, isiTy, tyOk, c1, hd1] at s1 ⊢; simp [c1, s1]
  | cons x r =>
    have p1 : (0 : Int) < ((r.length : Nat) : Int) + 1 := by omega
    unfold fineDs at hx
    rw [Bool.and_eq_true] at hx
    cases x with
    | st => cases hx.1
    | sub => cases hx.1
    | scr => cases hx.1
    | exn => cases hx.1
    | str s => simp only [List.map_cons] at s1 c1; simp [isiD, isiTy, tyOk, c1, s1, hd1, p1, at0]
    | _ => simp only [List.map_cons] at s1 c1; simp [isiD, isiTy, tyOk, c1, s1, hd1, p1, at0]
end
end K61


set_option Elab.async false
set_option maxRecDepth 10000
set_option maxHeartbeats 4000000
set_option linter.unusedSimpArgs false
set_option linter.unusedVariables false
/-! k61: the law's count of the trees; nodes; all parts. -/
namespace K61
open PySem L2 Mi Mi.Pl
mutual
def cD : D → Int
  | .tup xs => hd1 xs + cDs xs
  | .lst _ => 0 | .non => 0 | .bl _ => 0 | .int _ => 0 | .str _ => 0 | .st => 0 | .sub _ => 0 | .scr _ => 0 | .exn _ _ => 0
def cDs : List D → Int
  | [] => 0
  | x :: xs => cD x + cDs xs
end
theorem cDs_sum : ∀ xs : List D, cDs xs = (xs.map cD).sum
  | [] => rfl
  | x :: xs => by rw [cDs, cDs_sum xs]; simp
theorem cD_tup (xs : List D) : cD (.tup xs) = hd1 xs + cDs xs := by rw [cD]
theorem cD_str (s : Str) : cD (.str s) = 0 := by rw [cD]
theorem cD_int (s : Int) : cD (.int s) = 0 := by rw [cD]
section
variable {k : Nat} {g : Gs}
theorem lp_ok : ∀ (n : Nat) (d : D), dpt d ≤ n → fineD d = true → Mi.call T (k + n + 1) 24 [d] g = .ok (.int (cD d)) g
  | n, d, h, hf => by
    cases d with
    | tup xs =>
      rw [dpt_tup] at h
      obtain ⟨hl, hx, _⟩ := fine_row hf rfl
      match n, h with
      | n + 1, h =>
        have := lp_tup (k := k + n + 1) (g := g) cD hx hl fun x hx' => by
          have := dpts_mem hx'
          exact lp_ok n x (by omega) (fines_mem hx hx')
        rw [show k + (n + 1) + 1 = k + n + 1 + 1 by omega, this, cD_tup, cDs_sum]
    | lst xs => rw [lp_not hf (fun _ z => by cases z)]; rw [cD]
    | _ => rw [lp_not hf (fun _ z => by cases z)]; rw [cD] <;> simp
end
theorem am_cD : ∀ a : Am, cD a.d = a.c
  | .num i => by simp only [Am.d, cD_tup, hd1, cDs, cD_str, cD_int]; rfl
  | .var i => by simp only [Am.d, cD_tup, hd1, cDs, cD_str, cD_int]; rfl
  | .len => by simp only [Am.d, cD_tup, hd1, cDs, cD_str, cD_int]; rfl
  | .byte i => by simp only [Am.d, cD_tup, hd1, cDs, cD_str, cD_int]; rfl
  | .byteat v i => by simp only [Am.d, cD_tup, hd1, cDs, cD_str, cD_int]; rfl
  | .op z a c => by simp only [Am.d, cD_tup, hd1, cDs, cD_str, cD_int, am_cD a, Am.c]; omega
  | .wth z a c => by simp only [Am.d, cD_tup, hd1, cDs, cD_str, cD_int, am_cD a, Am.c]; omega
theorem te_cD : ∀ t : Te, cD t.d = t.c
  | .cmp z a c => by simp only [Te.d, cD_tup, hd1, cDs, cD_str, cD_int, am_cD a, Te.c]; omega
  | .cmv z a c => by simp only [Te.d, cD_tup, hd1, cDs, cD_str, cD_int, am_cD a, Te.c]; omega
  | .not t => by simp only [Te.d, cD_tup, hd1, cDs, cD_str, cD_int, te_cD t, Te.c]; omega
  | .two z t u => by simp only [Te.d, cD_tup, hd1, cDs, cD_str, cD_int, te_cD t, te_cD u, Te.c]; omega
theorem hd1_ds (b : Bk) : hd1 b.ds = 0 := by
  cases b with
  | nil => rfl
  | cons p b => simp only [Bk.ds]; cases p <;> simp only [Pt.d, hd1]
mutual
theorem pt_cD : ∀ p : Pt, cD p.d = p.c
  | .lt v a => by simp only [Pt.d, cD_tup, hd1, cDs, cD_str, cD_int, am_cD a, Pt.c]; omega
  | .gv a => by simp only [Pt.d, cD_tup, hd1, cDs, cD_str, cD_int, am_cD a, Pt.c]; omega
  | .ife t x y => by simp only [Pt.d, cD_tup, cDs, hd1_ds, cD_str, cD_int, te_cD t, bk_cDs x, bk_cDs y, Pt.c]; simp only [hd1]; omega
  | .lp v b => by simp only [Pt.d, cD_tup, cDs, hd1_ds, cD_str, cD_int, bk_cDs b, Pt.c]; simp only [hd1]; omega
theorem bk_cDs : ∀ b : Bk, cDs b.ds = b.c
  | .nil => rfl
  | .cons p b => by simp only [Bk.ds, cDs, pt_cD p, bk_cDs b, Bk.c]; omega
end
theorem bk_cD (b : Bk) : cD b.d = b.c := by unfold Bk.d; rw [cD_tup, hd1_ds, bk_cDs]; omega
/-! ### nodes -/
inductive Nd where
  | bl (b : Bk) | ln (p : Pt) | am (a : Am) | te (t : Te)
def Nd.kd : Nd → Kd
  | .bl _ => .bl | .ln _ => .ln | .am _ => .am | .te _ => .te
def Nd.d : Nd → D
  | .bl b => b.d | .ln p => p.d | .am a => a.d | .te t => t.d
def Nd.ok : Nd → Bool
  | .bl b => b.ok && decide (b.ds.length ≤ 20) | .ln p => p.ok | .am a => a.ok | .te t => t.ok
def Bk.l : Bk → List Pt
  | .nil => []
  | .cons p b => p :: b.l
theorem ds_l : ∀ b : Bk, b.ds = b.l.map Pt.d
  | .nil => rfl
  | .cons p b => by simp only [Bk.ds, Bk.l, List.map_cons, ds_l b]
def Nd.kids : Nd → List Nd
  | .bl b => b.l.map .ln
  | .ln (.lt _ a) => [.am a]
  | .ln (.gv a) => [.am a]
  | .ln (.ife t x y) => [.te t, .bl x, .bl y]
  | .ln (.lp _ b) => [.bl b]
  | .am (.op _ a _) => [.am a]
  | .am (.wth _ a _) => [.am a]
  | .am _ => []
  | .te (.cmp _ a _) => [.am a]
  | .te (.cmv _ a _) => [.am a]
  | .te (.not t) => [.te t]
  | .te (.two _ t u) => [.te t, .te u]
theorem nd_parts {x : Nd} (h : x.ok = true) : partsP x.kd x.d = some (x.kids.map fun y => (y.kd, y.d)) := by
  cases x with
  | bl b =>
    simp only [Nd.ok, Bool.and_eq_true, decide_eq_true_eq] at h
    show partsP .bl b.d = _
    rw [bkParts, if_pos h.2, ds_l]
    simp only [Nd.kids, List.map_map]
    rfl
  | ln p => show partsP .ln p.d = _; rw [ptParts h]; cases p <;> rfl
  | am a => show partsP .am a.d = _; rw [amParts h]; cases a <;> rfl
  | te t => show partsP .te t.d = _; rw [teParts h]; cases t <;> rfl
theorem l_ok : ∀ {b : Bk}, b.ok = true → ∀ p ∈ b.l, p.ok = true
  | .cons p b, h, q, hq => by
    simp only [Bk.ok, Bool.and_eq_true] at h
    rcases List.mem_cons.mp hq with rfl | hq
    · exact h.1
    · exact l_ok h.2 q hq
theorem kids_ok {x : Nd} (h : x.ok = true) : ∀ y ∈ x.kids, y.ok = true := by
  intro y hy
  cases x with
  | bl b =>
    simp only [Nd.ok, Bool.and_eq_true, decide_eq_true_eq] at h
    obtain ⟨p, hp, rfl⟩ := List.mem_map.mp hy
    exact l_ok h.1 p hp
  | ln p =>
    cases p <;> simp only [Nd.ok, Pt.ok, Nd.kids, Bool.and_eq_true, decide_eq_true_eq, List.mem_cons, List.not_mem_nil, or_false] at h hy
    · subst hy; exact h.2
    · subst hy; exact h
    · rcases hy with rfl | rfl | rfl
      · exact h.1.1
      · simp only [Nd.ok, Bool.and_eq_true, decide_eq_true_eq]; exact h.1.2
      · simp only [Nd.ok, Bool.and_eq_true, decide_eq_true_eq]; exact h.2
    · subst hy; simp only [Nd.ok, Bool.and_eq_true, decide_eq_true_eq]; exact h.2
  | am a =>
    cases a <;> simp only [Nd.ok, Am.ok, Nd.kids, Bool.and_eq_true, decide_eq_true_eq, List.mem_cons, List.not_mem_nil, or_false] at h hy
    all_goals (subst hy; exact h.2)
  | te t =>
    cases t <;> simp only [Nd.ok, Te.ok, Nd.kids, Bool.and_eq_true, decide_eq_true_eq, List.mem_cons, List.not_mem_nil, or_false] at h hy
    · subst hy; exact h.2
    · subst hy; exact h.2
    · subst hy; exact h
    · rcases hy with rfl | rfl
      · exact h.1.2
      · exact h.2
theorem nd_fine {x : Nd} (h : x.ok = true) : fineD x.d = true := by
  cases x with
  | bl b => simp only [Nd.ok, Bool.and_eq_true, decide_eq_true_eq] at h; exact bk_fine h.1 (by omega)
  | ln p => exact pt_fine h
  | am a => exact am_fine h
  | te t => exact te_fine h
/-! ### how many nodes -/
mutual
def Pt.n : Pt → Nat
  | .lt _ a => a.c + 1
  | .gv a => a.c + 1
  | .ife t x y => t.c + (x.n + 1) + (y.n + 1) + 1
  | .lp _ b => b.n + 1 + 1
def Bk.n : Bk → Nat
  | .nil => 0
  | .cons p b => p.n + b.n
end
def Nd.n : Nd → Nat
  | .bl b => b.n + 1 | .ln p => p.n | .am a => a.c | .te t => t.c
def sumN (l : List Nd) : Nat := (l.map Nd.n).sum
theorem sumN_cons (x : Nd) (l : List Nd) : sumN (x :: l) = x.n + sumN l := by simp [sumN]
theorem sumN_app (l m : List Nd) : sumN (l ++ m) = sumN l + sumN m := by simp [sumN]
theorem bkN : ∀ b : Bk, b.n = sumN (b.l.map .ln)
  | .nil => rfl
  | .cons p b => by rw [Bk.n, bkN b, Bk.l, List.map_cons, sumN_cons]; rfl
theorem nd_n (x : Nd) : x.n = sumN x.kids + 1 := by
  cases x with
  | bl b => show b.n + 1 = _; rw [bkN]; rfl
  | ln p => cases p <;> simp [Nd.n, Nd.kids, sumN, Pt.n] <;> omega
  | am a => cases a <;> simp [Nd.n, Nd.kids, sumN, Am.c]
  | te t => cases t <;> simp [Nd.n, Nd.kids, sumN, Te.c]
theorem nd_pos (x : Nd) : 1 ≤ x.n := by rw [nd_n]; omega
mutual
theorem pt_n : ∀ p : Pt, p.n ≤ 3 * p.c
  | .lt v a => by simp only [Pt.n, Pt.c]; omega
  | .gv a => by simp only [Pt.n, Pt.c]; omega
  | .ife t x y => by have := bk_n x; have := bk_n y; simp only [Pt.n, Pt.c]; omega
  | .lp v b => by have := bk_n b; simp only [Pt.n, Pt.c]; omega
theorem bk_n : ∀ b : Bk, b.n ≤ 3 * b.c
  | .nil => by simp [Bk.n]
  | .cons p b => by have := pt_n p; have := bk_n b; simp only [Bk.n, Bk.c]; omega
end
/-! ### all parts -/
def encN (x : Nd) : D := .tup [.str x.kd.s, x.d]
section
variable {k : Nat} {g : Gs}
theorem kids_len {x : Nd} (h : x.ok = true) : x.kids.length ≤ 20 := by
  cases x with
  | bl b =>
    simp only [Nd.ok, Bool.and_eq_true, decide_eq_true_eq] at h
    have := h.2
    rw [ds_l, List.length_map] at this
    simpa [Nd.kids] using this
  | ln p => cases p <;> simp [Nd.kids]
  | am a => cases a <;> simp [Nd.kids]
  | te t => cases t <;> simp [Nd.kids]
def allB : List Mi.S := [
    .ext 1 (.call 9 [(.ix (.ix (.nm 1) (.nm 2)) (.lit (.int 0))), (.ix (.ix (.nm 1) (.nm 2)) (.lit (.int 1)))]),
    .aug 2 .add (.lit (.int 1))]
theorem all_def : b_all_parts = [.asg 1 (.lst [(.tup [(.lit (.str "block")), (.nm 0)])]), .asg 2 (.lit (.int 0)), .whl [] (.cmp .lt (.nm 2) (.bi .len [(.nm 1)])) allB, .fz [1] (.ret (.nm 1))] := rfl
def allE (d : D) (dn td : List Nd) : Mi.Env := [some (.val d), some (.own ((dn ++ td).map encN)), some (.val (.int (dn.length : Nat)))]
theorem all_turn {d : D} {dn td : List Nd} {x : Nd} (hx : x.ok = true) (hl : dn.length + td.length ≤ 100000) : exL (Mi.call T (k + 5)) allB (allE d dn (x :: td)) g = .nx (allE d (dn ++ [x]) (td ++ x.kids)) g := by
  unfold allB allE
  have c1 := parts_ok (k := k) (g := g) (kd := x.kd) (nd_fine hx)
  rw [nd_parts hx] at c1
  have a1 : atI ((dn ++ x :: td).map encN) (dn.length : Int) = some (.tup [.str x.kd.s, x.d]) := by
    rw [Mi.Pl.atI_nat, List.map_append, List.getElem?_append_right (by simp)]
    simp [encN]
  have hk := kids_len hx
  have l1 : dn.length + (td.length + 1) + x.kids.length ≤ sizeLine := sizeLine_ge (by omega)
  have e2 : (x.kids.map fun y => (y.kd, y.d)).map (fun p : Kd × D => D.tup [.str p.1.s, p.2]) = x.kids.map encN := by rw [List.map_map]; rfl
  unfold encP at c1
  simp only at c1
  rw [e2] at c1
  simp only [List.map_append, List.map_cons] at a1
  simp [a1, at0, at1, c1, l1, onInts]
theorem all_loop : ∀ (F : Nat) (d : D) (dn td : List Nd), sumN td < F → (∀ x ∈ td, x.ok = true) → dn.length + sumN td ≤ 50000 → td.length ≤ sumN td →
    ∃ L : List Nd, whlL [] (fun ρ g => brw (.cmp .lt (.nm 2) (.bi .len [(.nm 1)])) ρ g (ev (Mi.call T (k + 5)) (.cmp .lt (.nm 2) (.bi .len [(.nm 1)])) ρ g)) (fun ρ g => exL (Mi.call T (k + 5)) allB ρ g) F (allE d dn td) g = .nx (allE d L []) g ∧
      L.length = dn.length + sumN td ∧ (∀ P : Nd → Prop, (∀ x ∈ dn, P x) → (∀ x ∈ td, P x) → (∀ x : Nd, x.ok = true → P x → ∀ y ∈ x.kids, P y) → ∀ x ∈ L, P x) ∧ (∀ x ∈ dn ++ td, x ∈ L) ∧ ∀ x ∈ L, x ∈ dn ∨ ∀ y ∈ x.kids, y ∈ L
  | 0, _, _, _, h, _, _, _ => by omega
  | F + 1, d, dn, td, h, hok, hl, hs => by
    unfold whlL
    have fz : freeze (allE d dn td) [] = allE d dn td := rfl
    rw [fz]
    cases td with
    | nil =>
      have t1 : brw (.cmp .lt (.nm 2) (.bi .len [(.nm 1)])) (allE d dn []) g (ev (Mi.call T (k + 5)) (.cmp .lt (.nm 2) (.bi .len [(.nm 1)])) (allE d dn []) g) = .ok (.bl false) g := by
        unfold allE
        simp
      rw [t1, R.st_ok]
      exact ⟨dn, rfl, by simp [sumN], fun P h1 _ _ => h1, fun x hx => by simpa using hx, fun x hx => .inl hx⟩
    | cons x td =>
      have t1 : brw (.cmp .lt (.nm 2) (.bi .len [(.nm 1)])) (allE d dn (x :: td)) g (ev (Mi.call T (k + 5)) (.cmp .lt (.nm 2) (.bi .len [(.nm 1)])) (allE d dn (x :: td)) g) = .ok (.bl true) g := by
        unfold allE
        have : ((dn.length : Nat) : Int) < ((dn.length : Nat) : Int) + (((td.length : Nat) : Int) + 1) := by omega
        simp [this]
      rw [t1, R.st_ok]
      have hx := hok x List.mem_cons_self
      rw [sumN_cons] at h hl hs
      have hp := nd_pos x
      have hn := nd_n x
      show ∃ L, SR.turn (exL (Mi.call T (k + 5)) allB (allE d dn (x :: td)) g) _ = _ ∧ _
      have tl : td.length ≤ sumN td := by
        have : ∀ l : List Nd, l.length ≤ sumN l := fun l => by
          induction l with
          | nil => exact Nat.zero_le _
          | cons y l ih => have := nd_pos y; rw [sumN_cons, List.length_cons]; omega
        exact this td
      rw [all_turn hx (by omega), SR.turn_nx]
      have kl : ∀ l : List Nd, l.length ≤ sumN l := fun l => by
        induction l with
        | nil => exact Nat.zero_le _
        | cons y l ih => have := nd_pos y; rw [sumN_cons, List.length_cons]; omega
      obtain ⟨L, e, e2, e3, e4, e5⟩ := all_loop F d (dn ++ [x]) (td ++ x.kids) (by rw [sumN_app]; omega) (fun y hy => (List.mem_append.mp hy).elim (fun z => hok y (List.mem_cons_of_mem _ z)) (fun z => kids_ok hx y z))
        (by rw [sumN_app, List.length_append, List.length_singleton]; omega) (kl _)
      refine ⟨L, e, by rw [e2, sumN_app, List.length_append, List.length_singleton, sumN_cons]; omega, fun P h1 h2 h3 => ?_, fun y hy => ?_, fun y hy => ?_⟩
      · refine e3 P (fun y hy => ?_) (fun y hy => ?_) h3
        · rcases List.mem_append.mp hy with z | z
          · exact h1 y z
          · rw [List.mem_singleton.mp z]; exact h2 x List.mem_cons_self
        · rcases List.mem_append.mp hy with z | z
          · exact h2 y (List.mem_cons_of_mem _ z)
          · exact h3 x hx (h2 x List.mem_cons_self) y z
      · refine e4 y ?_
        rcases List.mem_append.mp hy with z | z
        · simp [z]
        · rcases List.mem_cons.mp z with rfl | z
          · simp
          · simp [z]
      · rcases e5 y hy with z | z
        · rcases List.mem_append.mp z with z | z
          · exact .inl z
          · right
            rw [List.mem_singleton.mp z]
            intro w hw
            exact e4 w (by simp [hw])
        · exact .inr z
end
end K61


set_option Elab.async false
set_option maxRecDepth 10000
set_option maxHeartbeats 4000000
set_option linter.unusedSimpArgs false
set_option linter.unusedVariables false
/-! k61: the variables of a tree. -/
namespace K61
open PySem L2 Mi Mi.Pl
def Am.vs : Am → List Int
  | .num _ => [] | .var v => [v] | .len => [] | .byte _ => [] | .byteat v _ => [v] | .op _ a _ => a.vs | .wth _ a v => v :: a.vs
def Te.vs : Te → List Int
  | .cmp _ a _ => a.vs | .cmv _ a v => v :: a.vs | .not t => t.vs | .two _ t u => t.vs ++ u.vs
mutual
def Pt.vs : Pt → List Int
  | .lt v a => v :: a.vs | .gv a => a.vs | .ife t x y => t.vs ++ (x.vs ++ y.vs) | .lp v b => v :: b.vs
def Bk.vs : Bk → List Int
  | .nil => []
  | .cons p b => p.vs ++ b.vs
end
def Nd.vs : Nd → List Int
  | .bl b => b.vs | .ln p => p.vs | .am a => a.vs | .te t => t.vs
def Nd.own : Nd → List Int
  | .am (.var v) => [v] | .am (.byteat v _) => [v] | .am (.wth _ _ v) => [v]
  | .te (.cmv _ _ v) => [v] | .ln (.lt v _) => [v] | .ln (.lp v _) => [v] | _ => []
theorem bk_vs : ∀ (b : Bk) (v : Int), v ∈ b.vs ↔ ∃ p ∈ b.l, v ∈ p.vs
  | .nil, v => by simp [Bk.vs, Bk.l]
  | .cons p b, v => by simp only [Bk.vs, Bk.l, List.mem_append, List.mem_cons, bk_vs b v]; constructor
                       · rintro (h | ⟨q, hq, h⟩)
                         · exact ⟨p, .inl rfl, h⟩
                         · exact ⟨q, .inr hq, h⟩
                       · rintro ⟨q, rfl | hq, h⟩
                         · exact .inl h
                         · exact .inr ⟨q, hq, h⟩
theorem nd_vs (x : Nd) (v : Int) : v ∈ x.vs ↔ v ∈ x.own ∨ ∃ y ∈ x.kids, v ∈ y.vs := by
  cases x with
  | bl b =>
    show v ∈ b.vs ↔ _
    rw [bk_vs]
    simp only [Nd.own, Nd.kids, List.not_mem_nil, false_or, List.mem_map]
    constructor
    · rintro ⟨p, hp, h⟩; exact ⟨_, ⟨p, hp, rfl⟩, h⟩
    · rintro ⟨_, ⟨p, hp, rfl⟩, h⟩; exact ⟨p, hp, h⟩
  | ln p => cases p <;> simp [Nd.vs, Nd.own, Nd.kids, Pt.vs]
  | am a => cases a <;> simp [Nd.vs, Nd.own, Nd.kids, Am.vs]
  | te t => cases t <;> simp [Nd.vs, Nd.own, Nd.kids, Te.vs]
section
variable {k : Nat} {g : Gs}
theorem vars_in {x : Nd} (h : x.ok = true) : Mi.call T (k + 1) 15 [.str x.kd.s, x.d] g = .ok (.lst (x.own.map .int)) g := by
  rw [call_def d_variables_in rfl]
  unfold b_variables_in
  have i1 : ∀ s : Str, inD (.str s) [.str "var", .str "byteat"] = some (("var" : Str) == s || ("byteat" : Str) == s) := fun s => by simp [inD, flatD, eqF]
  have i2 : ∀ s : Str, inD (.str s) [.str "let", .str "loop"] = some (("let" : Str) == s || ("loop" : Str) == s) := fun s => by simp [inD, flatD, eqF]
  have dw : ∀ s : Str, (dc_WITH_TESTS.lookup s).isSome = (s == "same" || s == "above") := fun s => by
    unfold dc_WITH_TESTS
    cases h1 : s == "same" <;> cases h2 : s == "above" <;> simp [List.lookup, h1, h2]
  cases x with
  | bl b => simp [Nd.kd, Kd.s, Nd.own, ofS_beq]
  | ln p => cases p <;> simp [Nd.kd, Kd.s, Nd.d, Nd.own, ofS_beq, Pt.d, at0, at1, i2, isFr]
  | am a => cases a <;> simp [Nd.kd, Kd.s, Nd.d, Nd.own, ofS_beq, Am.d, at0, at1, at2, at3, i1, isFr]
  | te t =>
    cases t with
    | cmp z a c =>
      simp only [Nd.ok, Te.ok, Bool.and_eq_true] at h
      rcases cmp_cases h.1.1 with rfl | rfl | rfl <;> simp [Nd.kd, Kd.s, Nd.d, Nd.own, ofS_beq, Te.d, at0, at1, at2, dw, isFr]
    | cmv z a c =>
      simp only [Nd.ok, Te.ok, Bool.and_eq_true] at h
      rcases cmv_cases h.1.1 with rfl | rfl <;> simp [Nd.kd, Kd.s, Nd.d, Nd.own, ofS_beq, Te.d, at0, at1, at2, dw, isFr]
    | not t => simp [Nd.kd, Kd.s, Nd.d, Nd.own, ofS_beq, Te.d, at0, at1, at2, dw, isFr]
    | two z t u =>
      simp only [Nd.ok, Te.ok, Bool.and_eq_true] at h
      rcases two_cases h.1.1 with rfl | rfl <;> simp [Nd.kd, Kd.s, Nd.d, Nd.own, ofS_beq, Te.d, at0, at1, at2, dw, isFr]
theorem all_ok {b : Bk} (h : b.ok = true) (hl : b.ds.length ≤ 20) (hc : b.c ≤ 200) :
    ∃ L : List Nd, Mi.call T (k + 6) 14 [b.d] g = .ok (.lst (L.map encN)) g ∧ L.length ≤ 700 ∧ (∀ x ∈ L, x.ok = true) ∧ ∀ v, v ∈ L.flatMap Nd.own ↔ v ∈ b.vs := by
  have hn := bk_n b
  have hb : (Nd.bl b).ok = true := by simp only [Nd.ok, Bool.and_eq_true, decide_eq_true_eq]; exact ⟨h, hl⟩
  have hs : sumN [.bl b] = b.n + 1 := by rw [sumN_cons]; simp [sumN, Nd.n]
  obtain ⟨L, e1, e2, e3, e4, e5⟩ := all_loop (k := k) (g := g) turns b.d [] [.bl b] (by rw [hs]; unfold turns; omega) (fun x hx => by rw [List.mem_singleton.mp hx]; exact hb) (by rw [hs]; simp; omega) (by rw [hs]; simp)
  refine ⟨L, ?_, by rw [e2, hs]; simp; omega, e3 (fun x => x.ok = true) (by simp) (fun x hx => by rw [List.mem_singleton.mp hx]; exact hb) (fun x h1 _ => kids_ok h1), fun v => ⟨fun hv => ?_, fun hv => ?_⟩⟩
  · rw [call_def d_all_parts rfl, all_def, exL_cons]
    have sl : 0 < sizeLine := by decide
    have a1 : exS (Mi.call T (k + 5)) (.asg 1 (.lst [(.tup [(.lit (.str "block")), (.nm 0)])])) [some (.val b.d), none, none] g = .nx [some (.val b.d), some (.own [encN (.bl b)]), none] g := by
      simp [encN, Nd.kd, Nd.d, Kd.s, sl, mkCell]
    show fin ((exS _ _ [some (.val b.d), none, none] g).seq _) = _
    rw [a1, SR.seq_nx, exL_cons]
    have a2 : exS (Mi.call T (k + 5)) (.asg 2 (.lit (.int 0))) [some (.val b.d), some (.own [encN (.bl b)]), none] g = .nx (allE b.d [] [.bl b]) g := by
      simp [allE]
    rw [a2, SR.seq_nx, exL_cons]
    have a3 : exS (Mi.call T (k + 5)) (.whl [] (.cmp .lt (.nm 2) (.bi .len [(.nm 1)])) allB) (allE b.d [] [.bl b]) g = .nx (allE b.d L []) g := by rw [exS]; exact e1
    rw [a3, SR.seq_nx]
    simp [allE, freeze]
  · obtain ⟨x, hx, hv⟩ := List.mem_flatMap.mp hv
    exact e3 (fun x => ∀ w ∈ x.vs, w ∈ b.vs) (by simp) (fun y hy => by rw [List.mem_singleton.mp hy]; exact fun w hw => hw) (fun y _ hy z hz w hw => hy w ((nd_vs y w).mpr (.inr ⟨z, hz, hw⟩))) x hx v ((nd_vs x v).mpr (.inl hv))
  · have key : ∀ (n : Nat) (x : Nd), x.n ≤ n → x ∈ L → v ∈ x.vs → v ∈ L.flatMap Nd.own := by
      intro n
      induction n with
      | zero => intro x hx; have := nd_pos x; omega
      | succ n ih =>
        intro x hx hL hv
        rcases (nd_vs x v).mp hv with z | ⟨y, hy, z⟩
        · exact List.mem_flatMap.mpr ⟨x, hL, z⟩
        · have hyL : y ∈ L := (e5 x hL).elim (fun q => by cases q) (fun q => q y hy)
          have hlt : y.n < x.n := by
            rw [nd_n x]
            have : ∀ l : List Nd, y ∈ l → y.n ≤ sumN l := by
              intro l
              induction l with
              | nil => intro q; cases q
              | cons a l ihl =>
                intro q
                rw [sumN_cons]
                rcases List.mem_cons.mp q with rfl | q
                · omega
                · have := ihl q; omega
            have := this _ hy
            omega
          exact ih y (by omega) hyL z
    exact key _ (.bl b) (Nat.le_refl _) (e4 _ (by simp)) hv
end
end K61


set_option Elab.async false
set_option maxRecDepth 10000
set_option maxHeartbeats 4000000
set_option linter.unusedSimpArgs false
set_option linter.unusedVariables false
/-! k61: what the law and the program tell of variables and nests. -/
namespace K61
open PySem L2 Mi Mi.Pl
theorem vr_iff {v : Int} : vr v = true ↔ 0 ≤ v ∧ v ≤ 3 := by simp [vr]
theorem am_vr : ∀ {a : Am}, a.ok = true → ∀ v ∈ a.vs, vr v = true
  | .num i, _, v, hv => by simp [Am.vs] at hv
  | .var i, h, v, hv => by simp [Am.vs] at hv; subst hv; exact h
  | .len, _, v, hv => by simp [Am.vs] at hv
  | .byte i, _, v, hv => by simp [Am.vs] at hv
  | .byteat w i, h, v, hv => by simp [Am.vs] at hv; subst hv; simp only [Am.ok, Bool.and_eq_true] at h; exact h.1
  | .op z a c, h, v, hv => by simp only [Am.ok, Bool.and_eq_true] at h; exact am_vr h.2 v hv
  | .wth z a c, h, v, hv => by
    simp only [Am.ok, Bool.and_eq_true] at h
    rcases List.mem_cons.mp hv with rfl | hv
    · exact h.1.1.2
    · exact am_vr h.2 v hv
theorem te_vr : ∀ {t : Te}, t.ok = true → ∀ v ∈ t.vs, vr v = true
  | .cmp z a c, h, v, hv => by simp only [Te.ok, Bool.and_eq_true] at h; exact am_vr h.2 v hv
  | .cmv z a c, h, v, hv => by
    simp only [Te.ok, Bool.and_eq_true] at h
    rcases List.mem_cons.mp hv with rfl | hv
    · exact h.1.2
    · exact am_vr h.2 v hv
  | .not t, h, v, hv => by simp only [Te.ok] at h; exact te_vr h v hv
  | .two z t u, h, v, hv => by
    simp only [Te.ok, Bool.and_eq_true] at h
    rcases List.mem_append.mp hv with hv | hv
    · exact te_vr h.1.2 v hv
    · exact te_vr h.2 v hv
mutual
theorem pt_vr : ∀ {p : Pt}, p.ok = true → ∀ v ∈ p.vs, vr v = true
  | .lt w a, h, v, hv => by
    simp only [Pt.ok, Bool.and_eq_true] at h
    rcases List.mem_cons.mp hv with rfl | hv
    · exact h.1
    · exact am_vr h.2 v hv
  | .gv a, h, v, hv => by simp only [Pt.ok] at h; exact am_vr h v hv
  | .ife t x y, h, v, hv => by
    simp only [Pt.ok, Bool.and_eq_true] at h
    rcases List.mem_append.mp hv with hv | hv
    · exact te_vr h.1.1 v hv
    · rcases List.mem_append.mp hv with hv | hv
      · exact bk_vr h.1.2.1 v hv
      · exact bk_vr h.2.1 v hv
  | .lp w b, h, v, hv => by
    simp only [Pt.ok, Bool.and_eq_true] at h
    rcases List.mem_cons.mp hv with rfl | hv
    · exact h.1
    · exact bk_vr h.2.1 v hv
theorem bk_vr : ∀ {b : Bk}, b.ok = true → ∀ v ∈ b.vs, vr v = true
  | .cons p b, h, v, hv => by
    simp only [Bk.ok, Bool.and_eq_true] at h
    rcases List.mem_append.mp hv with hv | hv
    · exact pt_vr h.1 v hv
    · exact bk_vr h.2 v hv
end
def varsOf (b : Bk) : List Int := ((List.range 4).filter fun (j : Nat) => decide ((j : Int) ∈ b.vs)).map fun (j : Nat) => (j : Int)
theorem vars_eq {b : Bk} (h : b.ok = true) {ns : List Int} (hm : ∀ v, v ∈ ns ↔ v ∈ b.vs) : ssetI ns = varsOf b := by
  refine lt_one (sset_lt ns) ?_ fun j => ?_
  · unfold varsOf
    refine List.pairwise_map.mpr ?_
    exact (List.pairwise_lt_range.filter _).imp fun h => by omega
  · rw [sset_mem, hm]
    unfold varsOf
    simp only [List.mem_map, List.mem_filter, List.mem_range, decide_eq_true_eq]
    constructor
    · intro hv
      have := vr_iff.mp (bk_vr h j hv)
      refine ⟨j.toNat, ⟨by omega, ?_⟩, by omega⟩
      rw [show ((j.toNat : Nat) : Int) = j by omega]
      exact hv
    · rintro ⟨n, ⟨h1, h2⟩, rfl⟩
      exact h2
section
variable {k : Nat} {g : Gs}
theorem intsD_ints (ns : List Int) : intsD (ns.map D.int) = some ns := by simpa using intsD_map (fun i : Int => i) ns
theorem flat_len : ∀ (L : List Nd), (L.flatMap Nd.own).length ≤ L.length
  | [] => by simp
  | x :: L => by
    have := flat_len L
    have h1 : x.own.length ≤ 1 := by
      cases x with
      | bl b => simp [Nd.own]
      | ln p => cases p <;> simp [Nd.own]
      | am a => cases a <;> simp [Nd.own]
      | te t => cases t <;> simp [Nd.own]
    simp only [List.flatMap_cons, List.length_append, List.length_cons]
    omega
/-- what stands behind the check -/
theorem variables_ok {d : D} {b : Bk} (hc0 : Mi.call T (k + 6) 11 [d] g = .ok b.d g) (h : b.ok = true) (hl : b.ds.length ≤ 20) (hc : b.c ≤ 200) : Mi.call T (k + 7) 16 [d] g = .ok (.tup ((varsOf b).map .int)) g := by
  rw [call_def d_variables_of rfl]
  unfold b_variables_of
  obtain ⟨L, e1, e2, e3, e4⟩ := all_ok (k := k) (g := g) h hl hc
  have c1 := ev_comp2_map (c := Mi.call T (k + 6)) (g := g) (ρ := [some (.val d), some (.val (.lst (L.map encN))), none, none, none]) (tg := .tup [2, 3]) (it := .iseq (.nm 1)) (tg2 := .nm 4) (it2 := .iseq (.call 15 [(.nm 2), (.nm 3)])) (own := [2, 3, 4]) (own2 := [4]) (elt := .nm 4)
    L encN Nd.own D.int (fun _ v => .int v)
    (fun x => [some (.val d), some (.val (.lst (L.map encN))), some (.val (.str x.kd.s)), some (.val x.d), none])
    (fun x v => [some (.val d), some (.val (.lst (L.map encN))), some (.val (.str x.kd.s)), some (.val x.d), some (.val (.int v))])
    (by simp [itemsD]) (fun x _ => by simp [bindTg, wipeE, encN]) (fun x hx => by simp [itemsD, vars_in (k := k + 5) (e3 x hx)]) (fun x _ v _ => by simp [bindTg, wipeE]) (fun x _ v _ => by simp)
    (by
      have := flat_len L
      have e : (L.flatMap fun x => (x.own).map D.int).length = (L.flatMap Nd.own).length := by
        rw [List.length_flatMap, List.length_flatMap]
        congr 1
        exact List.map_congr_left fun x _ => by simp
      rw [e]
      exact sizeLine_ge (by omega))
  have e5 : (L.flatMap fun x => (x.own).map D.int) = (L.flatMap Nd.own).map D.int := by rw [List.map_flatMap]
  rw [e5] at c1
  have i1 := intsD_ints (L.flatMap Nd.own)
  have l1 : (L.flatMap Nd.own).length < 4000 := by have := flat_len L; omega
  have e6 := vars_eq h e4
  have l2 : (varsOf b).length < 64 := by
    unfold varsOf
    rw [List.length_map]
    have := List.length_filter_le (fun (j : Nat) => decide ((j : Int) ∈ b.vs)) (List.range 4)
    rw [List.length_range] at this
    omega
  generalize L.flatMap Nd.own = ns at c1 i1 l1 e6
  simp [hc0, e1, c1, i1, l1, e6, l2]
/-! ### nests -/
end
mutual
def Pt.ns : Pt → Nat
  | .lt _ _ => 0 | .gv _ => 0 | .ife _ x y => max x.ns y.ns + 1 | .lp _ b => b.ns + 1
def Bk.ns : Bk → Nat
  | .nil => 0
  | .cons p b => max p.ns b.ns
end
section
variable {k : Nat} {g : Gs}
mutual
theorem pt_ns_h : ∀ p : Pt, p.ns ≤ p.h + 1
  | .lt _ _ => by simp [Pt.ns]
  | .gv _ => by simp [Pt.ns]
  | .ife t x y => by have := bk_ns_h x; have := bk_ns_h y; simp only [Pt.ns, Pt.h]; omega
  | .lp _ b => by have := bk_ns_h b; simp only [Pt.ns, Pt.h]; omega
theorem bk_ns_h : ∀ b : Bk, b.ns ≤ b.h
  | .nil => by simp [Bk.ns]
  | .cons p b => by have := pt_ns_h p; have := bk_ns_h b; simp only [Bk.ns, Bk.h]; omega
end
def nsl (l : List Pt) : Nat := l.foldl (fun m p => max m p.ns) 0
theorem fold_ns : ∀ (b : Bk) (m : Nat), b.l.foldl (fun m p => max m p.ns) m = max m b.ns
  | .nil, m => by simp [Bk.l, Bk.ns]
  | .cons p b, m => by rw [Bk.l, List.foldl_cons, fold_ns b, Bk.ns]; omega
theorem nsl_bk (b : Bk) : nsl b.l = b.ns := by unfold nsl; rw [fold_ns]; omega
theorem nsl_take {l : List Pt} {j : Nat} (h : j < l.length) : nsl (l.take (j + 1)) = max (nsl (l.take j)) l[j].ns := by
  have e : l.take (j + 1) = l.take j ++ [l[j]] := by rw [List.take_add_one, List.getElem?_eq_getElem h]; rfl
  unfold nsl
  rw [e, List.foldl_append]
  rfl
theorem ns_mem : ∀ {b : Bk} {p : Pt}, p ∈ b.l → p.ns ≤ b.ns
  | .cons q b, p, h => by
    rw [Bk.ns]
    rcases List.mem_cons.mp h with rfl | h
    · omega
    · have := ns_mem h; omega
theorem mx2 (a b : Nat) : (if ((b : Nat) : Int) > (a : Int) then ((b : Nat) : Int) else (a : Int)) = ((max a b : Nat) : Int) := by split <;> omega
theorem mx3 (a b : Nat) : 1 + (if ((b : Nat) : Int) > (a : Int) then ((b : Nat) : Int) else (a : Int)) = ((max a b + 1 : Nat) : Int) := by split <;> omega
theorem l_get {b : Bk} {j : Nat} (h : j < b.ds.length) : ∃ p, ∃ h2 : j < b.l.length, b.l[j] = p ∧ b.ds[j] = p.d ∧ p ∈ b.l := by
  have h2 : j < b.l.length := by rw [ds_l, List.length_map] at h; exact h
  refine ⟨b.l[j], h2, rfl, ?_, List.getElem_mem h2⟩
  have : ∀ (xs : List D) (e : xs = b.l.map Pt.d) (hj : j < xs.length), xs[j] = (b.l[j]).d := by
    intro xs e hj
    subst e
    simp
  exact this b.ds (ds_l b) h
theorem lnest_ok : ∀ (n : Nat) (b : Bk), b.ns < n → Mi.call T (k + n) 39 [b.d] g = .ok (.int (b.ns : Nat)) g
  | 0, b, h => by omega
  | n + 1, b, h => by
    rw [← Nat.add_assoc, call_def d_law_nested rfl]
    unfold b_law_nested
    have i1 : exS (Mi.call T (k + n)) (.asg 1 (.lit (.int 0))) [some (.val b.d), none, none] g = .nx [some (.val b.d), some (.val (.int 0)), none] g := by simp
    obtain ⟨ρ', g', e2, c2, eg, rfl⟩ := forS_items (c := Mi.call T (k + n)) (i := 2) (it := .iseq (.nm 0))
      (body := [.ife (.cmp .eq (.ix (.nm 2) (.lit (.int 0))) (.lit (.str "loop"))) [
        .asg 1 (.bi .max2 [(.nm 1), (.op .add (.lit (.int 1)) (.call 39 [(.ix (.nm 2) (.lit (.int 2)))]))])] [
        .ife (.cmp .eq (.ix (.nm 2) (.lit (.int 0))) (.lit (.str "if"))) [
          .asg 1 (.bi .max3 [(.nm 1), (.op .add (.lit (.int 1)) (.call 39 [(.ix (.nm 2) (.lit (.int 2)))])), (.op .add (.lit (.int 1)) (.call 39 [(.ix (.nm 2) (.lit (.int 3)))]))])] []]])
      (g := g) (g1 := g) (ρ0 := [some (.val b.d), some (.val (.int 0)), none]) b.ds
      (fun j ρ g' => ∃ c2, g = g' ∧ ρ = [some (.val b.d), some (.val (.int (nsl (b.l.take j) : Nat))), c2])
      ⟨none, rfl, rfl⟩ (by simp [Bk.d, itemsD]) fun j hj ρ g' ⟨c2, q1, q2⟩ => by
        subst q1
        subst q2
        obtain ⟨p, h2, z1, z2, hp⟩ := l_get hj
        rw [z2]
        refine ⟨_, g, ?_, some (.val p.d), rfl, rfl⟩
        rw [nsl_take h2, z1]
        have hq := ns_mem hp
        cases p with
        | lt v a => simp [Pt.d, at0, ofS_beq, Pt.ns]
        | gv a => simp [Pt.d, at0, ofS_beq, Pt.ns]
        | ife t x y =>
          rw [Pt.ns] at hq
          have c1 := lnest_ok n x (by omega)
          have c2 := lnest_ok n y (by omega)
          unfold Bk.d at c1 c2
          simp [Pt.d, at0, at2, at3, ofS_beq, c1, c2]
          rw [Pt.ns]
          split <;> split <;> omega
        | lp v z =>
          rw [Pt.ns] at hq
          have c1 := lnest_ok n z (by omega)
          unfold Bk.d at c1
          simp [Pt.d, at0, at2, ofS_beq, c1]
          rw [Pt.ns]
          split <;> omega
    rw [← eg] at e2
    rw [exL_cons]
    show fin ((exS _ _ [some (.val b.d), none, none] g).seq _) = _
    rw [i1, SR.seq_nx, exL_cons, e2, SR.seq_nx]
    have et : b.l.take b.ds.length = b.l := List.take_of_length_le (by rw [ds_l, List.length_map]; omega)
    simp [et, nsl_bk]
theorem in_ok {b : Bk} (h : b.ok = true) {p : Pt} (hp : p ∈ b.l) : p.ok = true := l_ok h p hp
theorem pnest_ok : ∀ (n : Nat) (b : Bk), b.ns < n → b.ok = true → b.ds.length ≤ 1000 → Mi.call T (k + n) 17 [b.d] g = .ok (.int (b.ns : Nat)) g
  | 0, b, h, _, _ => by omega
  | n + 1, b, h, hok, hlen => by
    rw [← Nat.add_assoc, call_def d_nested_in rfl]
    unfold b_nested_in
    have sl : 0 < sizeLine := by decide
    have i1 : exS (Mi.call T (k + n)) (.asg 1 (.lst [(.lit (.int 0))])) [some (.val b.d), none, none] g = .nx [some (.val b.d), some (.own [.int 0]), none] g := by simp [sl, mkCell]
    obtain ⟨ρ', g', e2, c2, L, eg, rfl, hL1, hL2, hL3⟩ := forS_items (c := Mi.call T (k + n)) (i := 2) (it := .iseq (.nm 0))
      (body := [.ife (.cmp .eq (.ix (.nm 2) (.lit (.int 0))) (.lit (.str "if"))) [
        .app 1 (.op .add (.lit (.int 1)) (.bi .max2 [(.call 17 [(.ix (.nm 2) (.lit (.int 2)))]), (.call 17 [(.ix (.nm 2) (.lit (.int 3)))])]))] [
        .ife (.cmp .eq (.ix (.nm 2) (.lit (.int 0))) (.lit (.str "loop"))) [
          .app 1 (.op .add (.lit (.int 1)) (.call 17 [(.ix (.nm 2) (.lit (.int 2)))]))] []]])
      (g := g) (g1 := g) (ρ0 := [some (.val b.d), some (.own [.int 0]), none]) b.ds
      (fun j ρ g' => ∃ (c2 : Option Cell) (L : List Int), g = g' ∧ ρ = [some (.val b.d), some (.own ((0 :: L).map D.int)), c2] ∧ (∀ y ∈ L, y ≤ (nsl (b.l.take j) : Nat)) ∧ (nsl (b.l.take j) = 0 ∨ ((nsl (b.l.take j) : Nat) : Int) ∈ L) ∧ L.length ≤ j)
      ⟨none, [], rfl, rfl, by simp, .inl rfl, by simp⟩ (by simp [Bk.d, itemsD]) fun j hj ρ g' ⟨c2, L, q1, q2, h1, h2, h3⟩ => by
        subst q1
        subst q2
        obtain ⟨p, hp2, z1, z2, hp⟩ := l_get hj
        rw [z2]
        have hq := ns_mem hp
        have hpo := in_ok hok hp
        have len1 : L.length + 1 < sizeLine := by have := sizeLine_ge (n := 2000) (by omega); omega
        have nt := nsl_take hp2
        rw [z1] at nt
        have same : p.ns = 0 → ∃ ρ' g', SR.nx [some (.val b.d), some (.own ((0 :: L).map D.int)), some (.val p.d)] g = .nx ρ' g' ∧ ∃ (c2 : Option Cell) (L' : List Int), g = g' ∧ ρ' = [some (.val b.d), some (.own ((0 :: L').map D.int)), c2] ∧ (∀ y ∈ L', y ≤ (nsl (b.l.take (j + 1)) : Nat)) ∧ (nsl (b.l.take (j + 1)) = 0 ∨ ((nsl (b.l.take (j + 1)) : Nat) : Int) ∈ L') ∧ L'.length ≤ j + 1 := fun e => by
          rw [nt, e, Nat.max_zero]
          exact ⟨_, _, rfl, _, L, rfl, rfl, h1, h2, by omega⟩
        have more : ∀ v : Int, v = (p.ns : Nat) → ∃ ρ' g', SR.nx [some (.val b.d), some (.own ((0 :: L).map D.int ++ [.int v])), some (.val p.d)] g = .nx ρ' g' ∧ ∃ (c2 : Option Cell) (L' : List Int), g = g' ∧ ρ' = [some (.val b.d), some (.own ((0 :: L').map D.int)), c2] ∧ (∀ y ∈ L', y ≤ (nsl (b.l.take (j + 1)) : Nat)) ∧ (nsl (b.l.take (j + 1)) = 0 ∨ ((nsl (b.l.take (j + 1)) : Nat) : Int) ∈ L') ∧ L'.length ≤ j + 1 := fun v e => by
          subst e
          refine ⟨_, _, rfl, some (.val p.d), L ++ [((p.ns : Nat) : Int)], rfl, by simp, fun y hy => ?_, ?_, by simp; omega⟩
          · rw [nt]
            rcases List.mem_append.mp hy with q | q
            · have := h1 y q; omega
            · rw [List.mem_singleton.mp q]; omega
          · rw [nt]
            by_cases hm : nsl (b.l.take j) ≤ p.ns
            · right; rw [Nat.max_eq_right hm]; simp
            · rw [Nat.max_eq_left (by omega)]
              rcases h2 with q | q
              · omega
              · right; exact List.mem_append_left _ q
        cases p with
        | lt v a => simpa [Pt.d, at0, ofS_beq] using same (by rw [Pt.ns])
        | gv a => simpa [Pt.d, at0, ofS_beq] using same (by rw [Pt.ns])
        | ife t x y =>
          rw [Pt.ns] at hq
          simp only [Pt.ok, Bool.and_eq_true, decide_eq_true_eq] at hpo
          have c1 := pnest_ok n x (by omega) hpo.1.2.1 (by omega)
          have c2 := pnest_ok n y (by omega) hpo.2.1 (by omega)
          unfold Bk.d at c1 c2
          have := more (1 + (if ((y.ns : Nat) : Int) > ((x.ns : Nat) : Int) then ((y.ns : Nat) : Int) else ((x.ns : Nat) : Int))) (by rw [Pt.ns]; exact mx3 _ _)
          simpa [Pt.d, at0, at2, at3, ofS_beq, c1, c2, len1] using this
        | lp v z =>
          rw [Pt.ns] at hq
          simp only [Pt.ok, Bool.and_eq_true, decide_eq_true_eq] at hpo
          have c1 := pnest_ok n z (by omega) hpo.2.1 (by omega)
          unfold Bk.d at c1
          have := more (1 + ((z.ns : Nat) : Int)) (by rw [Pt.ns]; omega)
          simpa [Pt.d, at0, at2, ofS_beq, c1, len1] using this
    rw [← eg] at e2
    rw [exL_cons]
    show fin ((exS _ _ [some (.val b.d), none, none] g).seq _) = _
    rw [i1, SR.seq_nx, exL_cons, e2, SR.seq_nx]
    have et : b.l.take b.ds.length = b.l := List.take_of_length_le (by rw [ds_l, List.length_map]; omega)
    rw [et, nsl_bk] at hL1 hL2
    have im := intsD_ints (0 :: L)
    have hm : maxI (0 :: L) = some ((b.ns : Nat) : Int) := by
      have hh : ∃ m, maxI (0 :: L) = some m := ⟨_, rfl⟩
      obtain ⟨m, hm⟩ := hh
      rw [hm]
      congr 1
      refine (maxI_one hm (m' := ((b.ns : Nat) : Int)) ?_ fun y hy => ?_).symm
      · rcases hL2 with q | q
        · rw [q]; exact List.mem_cons_self
        · exact List.mem_cons_of_mem _ q
      · rcases List.mem_cons.mp hy with rfl | hy
        · omega
        · exact hL1 y hy
    generalize (0 :: L) = M at im hm ⊢
    simp [im, hm]
end
end K61


set_option Elab.async false
set_option maxRecDepth 10000
set_option maxHeartbeats 4000000
set_option linter.unusedSimpArgs false
set_option linter.unusedVariables false
/-! k61: what the law's own look for a variable tells. -/
namespace K61
open PySem L2 Mi Mi.Pl
mutual
theorem fine_toP : ∀ {d : D}, fineD d = true → ∃ p, D.toP d = some p ∧ p.canLay0 = true
  | .tup xs, h => by
    unfold fineD at h
    rw [Bool.and_eq_true] at h
    obtain ⟨ps, e1, e2⟩ := fine_toPs h.2
    exact ⟨.tuple ps, by unfold D.toP; rw [e1], by unfold PyData.canLay0; exact e2⟩
  | .lst xs, h => by
    unfold fineD at h
    rw [Bool.and_eq_true] at h
    obtain ⟨ps, e1, e2⟩ := fine_toPs h.2
    exact ⟨.list ps, by unfold D.toP; rw [e1], by unfold PyData.canLay0; exact e2⟩
  | .str s, h => ⟨.str s, by unfold D.toP; rfl, by unfold PyData.canLay0; unfold fineD at h; exact h⟩
  | .int i, h => ⟨.int i, by unfold D.toP; rfl, by unfold PyData.canLay0; rfl⟩
  | .bl i, h => ⟨.bool i, by unfold D.toP; rfl, by unfold PyData.canLay0; rfl⟩
  | .non, h => ⟨.none, by unfold D.toP; rfl, by unfold PyData.canLay0; rfl⟩
theorem fine_toPs : ∀ {ds : List D}, fineDs ds = true → ∃ ps, D.toPs ds = some ps ∧ PyData.canLayAll0 ps = true
  | [], _ => ⟨[], by unfold D.toPs; rfl, by unfold PyData.canLayAll0; rfl⟩
  | d :: ds, h => by
    unfold fineDs at h
    rw [Bool.and_eq_true] at h
    obtain ⟨p, e1, e2⟩ := fine_toP h.1
    obtain ⟨ps, e3, e4⟩ := fine_toPs h.2
    exact ⟨p :: ps, by unfold D.toPs; rw [e1, e3], by unfold PyData.canLayAll0; rw [e2, e4]; rfl⟩
end
theorem in_strs {xs : List D} (h : fineD (.tup xs) = true) : ∀ (ws : List Str), (∀ w ∈ ws, PyData.strOk w = true) → inD (.tup xs) (ws.map .str) = some false := by
  intro ws hw
  obtain ⟨p, e1, e2⟩ := fine_toP h
  have hp : ∃ ps, p = .tuple ps := by
    unfold D.toP at e1
    split at e1
    · cases e1; exact ⟨_, rfl⟩
    · cases e1
  obtain ⟨ps, rfl⟩ := hp
  unfold inD
  rw [if_neg (by simp [flatD]), e1]
  have e3 : D.toPs (ws.map .str) = some (ws.map .str) := by
    clear hw
    induction ws with
    | nil => unfold D.toPs; rfl
    | cons w ws ih => rw [List.map_cons]; unfold D.toPs; rw [ih]; rfl
  have e4 : PyData.canLayAll0 (ws.map .str) = true := by
    clear e3
    induction ws with
    | nil => unfold PyData.canLayAll0; rfl
    | cons w ws ih =>
      rw [List.map_cons]; unfold PyData.canLayAll0
      rw [ih fun x hx => hw x (List.mem_cons_of_mem _ hx)]
      simp [PyData.canLay0, hw w List.mem_cons_self]
  have e5 : PyData.depthAll (ws.map .str) = 0 := by
    clear e3 e4 hw
    induction ws with
    | nil => rfl
    | cons w ws ih => rw [List.map_cons]; simp [PyData.depthAll, PyData.depth, ih]
  rw [e3]
  simp only
  rw [if_pos ⟨e2, e4, by rw [e5]; omega⟩]
  congr 1
  clear e3 e4 e5 hw
  induction ws with
  | nil => rfl
  | cons w ws ih => rw [List.map_cons, List.any_cons, ih]; simp [PyData.eqv]
def inL1 (s : Str) : Bool := ("var" : Str) == s || (("byteat" : Str) == s || (("let" : Str) == s || ("loop" : Str) == s))
def inL2 (s : Str) : Bool := ("with" : Str) == s || (("same" : Str) == s || ("above" : Str) == s)
def cond1 (v : Int) : List D → Bool
  | .str s :: .int w :: _ => inL1 s && (w == v)
  | _ => false
def lastI (v : Int) (r : List D) : Bool := match r.getLast? with
  | some (.int w) => w == v
  | _ => false
def cond2 (v : Int) : List D → Bool
  | .str s :: r => inL2 s && lastI v r
  | _ => false
def okH : List D → Bool
  | [] => true
  | .tup _ :: _ => true
  | .str s :: r => (!inL1 s || (match r with | .int _ :: _ => true | _ => false)) && (!inL2 s || (match r.getLast? with | some (.int _) => true | _ => false))
  | _ => false
mutual
def usD (v : Int) : D → Bool
  | .tup xs => cond1 v xs || (cond2 v xs || usDs v xs)
  | .lst _ => false | .non => false | .bl _ => false | .int _ => false | .str _ => false | .st => false | .sub _ => false | .scr _ => false | .exn _ _ => false
def usDs (v : Int) : List D → Bool
  | [] => false
  | x :: xs => usD v x || usDs v xs
end
mutual
def okU : D → Bool
  | .tup xs => okH xs && okUs xs
  | .lst _ => true | .non => true | .bl _ => true | .int _ => true | .str _ => true | .st => true | .sub _ => true | .scr _ => true | .exn _ _ => true
def okUs : List D → Bool
  | [] => true
  | x :: xs => okU x && okUs xs
end
theorem usDs_any (v : Int) : ∀ xs : List D, usDs v xs = xs.any (usD v)
  | [] => rfl
  | x :: xs => by rw [usDs, usDs_any v xs]; rfl
theorem okUs_mem : ∀ {xs : List D} {x : D}, okUs xs = true → x ∈ xs → okU x = true
  | _ :: _, _, h, .head _ => by unfold okUs at h; rw [Bool.and_eq_true] at h; exact h.1
  | _ :: _, _, h, .tail _ m => by unfold okUs at h; rw [Bool.and_eq_true] at h; exact okUs_mem h.2 m
theorem usD_tup (v : Int) (xs : List D) : usD v (.tup xs) = (cond1 v xs || (cond2 v xs || xs.any (usD v))) := by rw [usD, usDs_any]
section
variable {k : Nat} {g : Gs}
theorem uses_not {d : D} {v : Int} (h : fineD d = true) (hd : ∀ xs, d ≠ .tup xs) : Mi.call T (k + 1) 38 [d, .int v] g = .ok (.bl false) g := by
  rw [call_def d_law_uses rfl]
  unfold b_law_uses
  cases d with
  | tup xs => exact absurd rfl (hd xs)
  | st => cases h
  | sub => cases h
  | scr => cases h
  | exn => cases h
  | _ => simp [isiD, isiTy, tyOk]
theorem atLast {x : D} {r : List D} : atI (x :: r) ((r.length : Nat) : Int) = (x :: r).getLast? := by
  rw [Mi.Pl.atI_nat, List.getLast?_eq_getElem?]
  rfl
theorem inL_not {s : Str} (h : inL1 s = true) : inL2 s = false := by
  simp only [inL1, Bool.or_eq_true, beq_iff_eq] at h
  rcases h with rfl | rfl | rfl | rfl <;> simp [inL2, ofS_beq]
theorem uses_tup {xs : List D} {v : Int} (hf : fineD (.tup xs) = true) (hu : okH xs = true) (us : D → Bool) (h : ∀ x ∈ xs, Mi.call T k 38 [x, .int v] g = .ok (.bl (us x)) g) :
    Mi.call T (k + 1) 38 [.tup xs, .int v] g = .ok (.bl (cond1 v xs || (cond2 v xs || xs.any us))) g := by
  obtain ⟨hl, hx, _⟩ := fine_row hf rfl
  rw [call_def d_law_uses rfl]
  unfold b_law_uses
  have c1 := ev_comp_filter (c := Mi.call T k) (g := g) (ρ := [some (.val (.tup xs)), some (.val (.int v)), none]) (tg := .nm 2) (it := .iseq (.nm 0)) (cond := .call 38 [(.nm 2), (.nm 1)]) (own := [2]) (elt := .nm 2) xs (fun x => x) us (fun x => x)
    (fun x => [some (.val (.tup xs)), some (.val (.int v)), some (.val x)]) (by simp [itemsD]) (fun i _ => rfl) (fun x hx => by simp [h x hx]) (fun x _ _ => by simp) (sizeLine_ge (by omega))
  have any : ∀ ys : List D, decide (0 < ((ys.filter us).length : Int)) = ys.any us := fun ys => by
    induction ys with
    | nil => rfl
    | cons y ys ih =>
      rw [List.filter_cons, List.any_cons]
      cases hy : us y with
      | true => simp
      | false => simpa using ih
  have l1 : ∀ s : Str, inD (.str s) [.str "var", .str "byteat", .str "let", .str "loop"] = some (inL1 s) := fun s => by simp [inD, flatD, eqF, inL1]
  have l2 : ∀ s : Str, inD (.str s) [.str "with", .str "same", .str "above"] = some (inL2 s) := fun s => by simp [inD, flatD, eqF, inL2]
  cases xs with
  | nil => simp [isiD, isiTy, tyOk, cond1, cond2]
  | cons x r =>
    have nz : (((r.length : Nat) : Int) + 1 == 0) = false := beq_eq_false_iff_ne.mpr (by omega)
    have sb : ((r.length : Nat) : Int) + 1 - 1 = ((r.length : Nat) : Int) := by omega
    unfold fineDs at hx
    rw [Bool.and_eq_true] at hx
    have a9 := any (x :: r)
    cases x with
    | tup ys =>
      have i1 := in_strs hx.1 ["var", "byteat", "let", "loop"] (by decide +kernel)
      have i2 := in_strs hx.1 ["with", "same", "above"] (by decide +kernel)
      simp only [List.map_cons, List.map_nil] at i1 i2
      simp only [List.map_id'] at c1
      generalize hfl : (D.tup ys :: r).filter us = fl at c1 a9
      simp [isiD, isiTy, tyOk, at0, nz, i1, i2, c1, cond1, cond2] at a9 ⊢
      exact a9
    | str s =>
      simp only [okH, Bool.and_eq_true, Bool.or_eq_true, Bool.not_eq_true'] at hu
      simp only [List.map_id'] at c1
      generalize hfl : (D.str s :: r).filter us = fl at c1 a9
      cases h1 : inL1 s with
      | true =>
        have h3 := hu.1.resolve_left (by rw [h1]; simp)
        have h2 := inL_not h1
        obtain ⟨w, r', rfl⟩ : ∃ w r', r = .int w :: r' := by
          cases r with
          | nil => cases h3
          | cons y r => cases y <;> first | exact ⟨_, _, rfl⟩ | cases h3
        have c2 : cond2 v (D.str s :: D.int w :: r') = false := by simp [cond2, h2]
        have c0 : cond1 v (D.str s :: D.int w :: r') = (w == v) := by simp [cond1, h1]
        rw [c0, c2]
        have nz2 : (((r'.length : Nat) : Int) + 1 + 1 == 0) = false := beq_eq_false_iff_ne.mpr (by omega)
        cases hw : w == v with
        | true => simp [isiD, isiTy, tyOk, at0, at1, nz2, l1, h1, hw]
        | false => simp [isiD, isiTy, tyOk, at0, at1, nz2, l1, l2, h1, h2, hw, c1] at a9 ⊢; exact a9
      | false =>
        cases h2 : inL2 s with
        | true =>
          have h4 := hu.2.resolve_left (by rw [h2]; simp)
          split at h4
          · rename_i w2 e4
            have eL : atI (D.str s :: r) ((r.length : Nat) : Int) = some (.int w2) := by
              rw [atLast]
              cases r with
              | nil => cases e4
              | cons y r => rw [List.getLast?_cons_cons]; exact e4
            have c2 : cond2 v (D.str s :: r) = (w2 == v) := by simp [cond2, h2, lastI, e4]
            have c0 : cond1 v (D.str s :: r) = false := by unfold cond1; split <;> simp_all
            rw [c0, c2]
            cases hw : w2 == v with
            | true => simp [isiD, isiTy, tyOk, at0, nz, sb, l1, l2, h1, h2, eL, hw]
            | false => simp [isiD, isiTy, tyOk, at0, nz, sb, l1, l2, h1, h2, eL, hw, c1] at a9 ⊢; exact a9
          · cases h4
        | false =>
          have c0 : cond1 v (D.str s :: r) = false := by unfold cond1; split <;> simp_all
          have c2 : cond2 v (D.str s :: r) = false := by simp [cond2, h2]
          rw [c0, c2]
          simp [isiD, isiTy, tyOk, at0, nz, l1, l2, h1, h2, c1] at a9 ⊢; exact a9
    | _ => simp [okH] at hu
end
end K61


set_option Elab.async false
set_option maxRecDepth 10000
set_option maxHeartbeats 4000000
set_option linter.unusedSimpArgs false
set_option linter.unusedVariables false
/-! k61: the law's look for a variable in a tree. -/
namespace K61
open PySem L2 Mi Mi.Pl
section
variable {k : Nat} {g : Gs}
theorem uses_ok : ∀ (n : Nat) (d : D) (v : Int), dpt d ≤ n → fineD d = true → okU d = true → Mi.call T (k + n + 1) 38 [d, .int v] g = .ok (.bl (usD v d)) g
  | n, d, v, h, hf, hu => by
    cases d with
    | tup xs =>
      rw [dpt_tup] at h
      unfold okU at hu
      rw [Bool.and_eq_true] at hu
      match n, h with
      | n + 1, h =>
        have := uses_tup (k := k + n + 1) (g := g) (v := v) hf hu.1 (usD v) fun x hx' => by
          have := dpts_mem hx'
          exact uses_ok n x v (by omega) (fines_mem (fine_row hf rfl).2.1 hx') (okUs_mem hu.2 hx')
        rw [show k + (n + 1) + 1 = k + n + 1 + 1 by omega, this, usD_tup]
    | lst xs => rw [uses_not hf (fun _ z => by cases z)]; rw [usD]
    | _ => rw [uses_not hf (fun _ z => by cases z)]; rw [usD] <;> simp
end
theorem us_str (v : Int) (s : Str) : usD v (.str s) = false := by rw [usD]
theorem us_int (v : Int) (s : Int) : usD v (.int s) = false := by rw [usD]
def has (v : Int) (l : List Int) : Bool := l.any (· == v)
theorem has_nil (v : Int) : has v [] = false := rfl
theorem has_cons (v w : Int) (l : List Int) : has v (w :: l) = ((w == v) || has v l) := rfl
theorem has_app (v : Int) (l m : List Int) : has v (l ++ m) = (has v l || has v m) := List.any_append
theorem has_iff {v : Int} {l : List Int} : has v l = decide (v ∈ l) := by
  induction l with
  | nil => simp [has]
  | cons w l ih =>
    rw [has_cons, ih]
    by_cases h : w = v
    · subst h; simp
    · have h2 : ¬ v = w := fun e => h e.symm
      simp [h, h2]
theorem c1_am (v : Int) (s : Str) (a : Am) (r : List D) : cond1 v (.str s :: a.d :: r) = false := by cases a <;> rfl
theorem c1_te (v : Int) (s : Str) (t : Te) (r : List D) : cond1 v (.str s :: t.d :: r) = false := by cases t <;> rfl
theorem c1_int (v w : Int) (s : Str) (r : List D) : cond1 v (.str s :: .int w :: r) = (inL1 s && (w == v)) := rfl
theorem c1_str (v : Int) (s z : Str) (r : List D) : cond1 v (.str s :: .str z :: r) = false := rfl
theorem c1_nil (v : Int) (s : Str) : cond1 v [.str s] = false := rfl
theorem c2_str (v : Int) (s : Str) (r : List D) : cond2 v (.str s :: r) = (inL2 s && lastI v r) := rfl
theorem la3 (v w : Int) (a b : D) : lastI v [a, b, .int w] = (w == v) := rfl
theorem la2 (v w : Int) (a : D) : lastI v [a, .int w] = (w == v) := rfl
theorem okU_tup (xs : List D) : okU (.tup xs) = (okH xs && okUs xs) := by rw [okU]
theorem okU_str (s : Str) : okU (.str s) = true := by rw [okU]
theorem okU_int (s : Int) : okU (.int s) = true := by rw [okU]
theorem okUs_cons (x : D) (xs : List D) : okUs (x :: xs) = (okU x && okUs xs) := by rw [okUs]
theorem okUs_nil : okUs [] = true := by rw [okUs]
theorem n1 : inL1 "num" = false := by simp [inL1, ofS_beq]
theorem n2 : inL2 "num" = false := by simp [inL2, ofS_beq]
theorem n3 : inL1 "var" = true := by simp [inL1, ofS_beq]
theorem n4 : inL2 "var" = false := by simp [inL2, ofS_beq]
theorem n5 : inL1 "len" = false := by simp [inL1, ofS_beq]
theorem n6 : inL2 "len" = false := by simp [inL2, ofS_beq]
theorem n7 : inL1 "byte" = false := by simp [inL1, ofS_beq]
theorem n8 : inL2 "byte" = false := by simp [inL2, ofS_beq]
theorem n9 : inL1 "byteat" = true := by simp [inL1, ofS_beq]
theorem n10 : inL2 "byteat" = false := by simp [inL2, ofS_beq]
theorem n11 : inL1 "op" = false := by simp [inL1, ofS_beq]
theorem n12 : inL2 "op" = false := by simp [inL2, ofS_beq]
theorem n13 : inL1 "with" = false := by simp [inL1, ofS_beq]
theorem n14 : inL2 "with" = true := by simp [inL2, ofS_beq]
theorem n15 : inL1 "not" = false := by simp [inL1, ofS_beq]
theorem n16 : inL2 "not" = false := by simp [inL2, ofS_beq]
theorem n17 : inL1 "let" = true := by simp [inL1, ofS_beq]
theorem n18 : inL2 "let" = false := by simp [inL2, ofS_beq]
theorem n19 : inL1 "loop" = true := by simp [inL1, ofS_beq]
theorem n20 : inL2 "loop" = false := by simp [inL2, ofS_beq]
theorem n21 : inL1 "give" = false := by simp [inL1, ofS_beq]
theorem n22 : inL2 "give" = false := by simp [inL2, ofS_beq]
theorem n23 : inL1 "if" = false := by simp [inL1, ofS_beq]
theorem n24 : inL2 "if" = false := by simp [inL2, ofS_beq]
theorem cmp_L {z : Str} (h : isCmp z = true) : inL1 z = false ∧ inL2 z = false := by rcases cmp_cases h with rfl | rfl | rfl <;> simp [inL1, inL2, ofS_beq]
theorem cmv_L {z : Str} (h : isCmv z = true) : inL1 z = false ∧ inL2 z = true := by rcases cmv_cases h with rfl | rfl <;> simp [inL1, inL2, ofS_beq]
theorem two_L {z : Str} (h : isTwo z = true) : inL1 z = false ∧ inL2 z = false := by rcases two_cases h with rfl | rfl <;> simp [inL1, inL2, ofS_beq]
theorem am_us : ∀ (a : Am) (v : Int), usD v a.d = has v a.vs ∧ okU a.d = true
  | .num i, v => by simp [Am.d, usD_tup, c1_am, c1_te, c1_int, c1_str, c1_nil, c2_str, la3, la2, has_nil, has_cons, has_app, n1, n2, us_str, us_int, Am.vs, okU_tup, okH, okUs_cons, okUs_nil, okU_str, okU_int]
  | .var i, v => by simp [Am.d, usD_tup, c1_am, c1_te, c1_int, c1_str, c1_nil, c2_str, la3, la2, has_nil, has_cons, has_app, n3, n4, us_str, us_int, Am.vs, has_cons, okU_tup, okH, okUs_cons, okUs_nil, okU_str, okU_int]
  | .len, v => by simp [Am.d, usD_tup, c1_am, c1_te, c1_int, c1_str, c1_nil, c2_str, la3, la2, has_nil, has_cons, has_app, n5, n6, us_str, us_int, Am.vs, okU_tup, okH, okUs_cons, okUs_nil, okU_str, okU_int]
  | .byte i, v => by simp [Am.d, usD_tup, c1_am, c1_te, c1_int, c1_str, c1_nil, c2_str, la3, la2, has_nil, has_cons, has_app, n7, n8, us_str, us_int, Am.vs, okU_tup, okH, okUs_cons, okUs_nil, okU_str, okU_int]
  | .byteat w i, v => by simp [Am.d, usD_tup, c1_am, c1_te, c1_int, c1_str, c1_nil, c2_str, la3, la2, has_nil, has_cons, has_app, n9, n10, us_str, us_int, Am.vs, has_cons, okU_tup, okH, okUs_cons, okUs_nil, okU_str, okU_int]
  | .op z a c, v => by
    obtain ⟨h1, h2⟩ := am_us a v
    simp [Am.d, usD_tup, c1_am, c1_te, c1_int, c1_str, c1_nil, c2_str, la3, la2, has_nil, has_cons, has_app, n11, n12, us_str, us_int, Am.vs, h1, okU_tup, okH, okUs_cons, okUs_nil, okU_str, okU_int, h2]
  | .wth z a w, v => by
    obtain ⟨h1, h2⟩ := am_us a v
    simp only [Am.d, usD_tup, Am.vs, has_cons, okU_tup, okUs_cons, okUs_nil, okU_str, okU_int, h2]
    refine ⟨?_, by simp [okH, n13, n14]⟩
    simp [c1_am, c1_te, c1_int, c1_str, c1_nil, c2_str, la3, la2, has_nil, has_cons, has_app, n13, n14, us_str, us_int, h1]
theorem te_us : ∀ (t : Te) (v : Int), t.ok = true → usD v t.d = has v t.vs ∧ okU t.d = true
  | .cmp z a c, v, h => by
    simp only [Te.ok, Bool.and_eq_true] at h
    obtain ⟨q1, q2⟩ := cmp_L h.1.1
    obtain ⟨h1, h2⟩ := am_us a v
    simp only [Te.d, usD_tup, Te.vs, okU_tup, okUs_cons, okUs_nil, okU_str, okU_int, h2]
    refine ⟨?_, by simp [okH, q1, q2]⟩
    simp [c1_am, c1_te, c1_int, c1_str, c1_nil, c2_str, la3, la2, has_nil, has_cons, has_app, q1, q2, us_str, us_int, h1]
  | .cmv z a c, v, h => by
    simp only [Te.ok, Bool.and_eq_true] at h
    obtain ⟨q1, q2⟩ := cmv_L h.1.1
    obtain ⟨h1, h2⟩ := am_us a v
    simp only [Te.d, usD_tup, Te.vs, has_cons, okU_tup, okUs_cons, okUs_nil, okU_str, okU_int, h2]
    refine ⟨?_, by simp [okH, q1, q2]⟩
    simp [c1_am, c1_te, c1_int, c1_str, c1_nil, c2_str, la3, la2, has_nil, has_cons, has_app, q1, q2, us_str, us_int, h1]
  | .not t, v, h => by
    simp only [Te.ok] at h
    obtain ⟨h1, h2⟩ := te_us t v h
    simp only [Te.d, usD_tup, Te.vs, okU_tup, okUs_cons, okUs_nil, okU_str, okU_int, h2]
    refine ⟨?_, by simp [okH, n15, n16]⟩
    simp [c1_am, c1_te, c1_int, c1_str, c1_nil, c2_str, la3, la2, has_nil, has_cons, has_app, n15, n16, us_str, us_int, h1]
  | .two z t u, v, h => by
    simp only [Te.ok, Bool.and_eq_true] at h
    obtain ⟨q1, q2⟩ := two_L h.1.1
    obtain ⟨h1, h2⟩ := te_us t v h.1.2
    obtain ⟨h3, h4⟩ := te_us u v h.2
    simp only [Te.d, usD_tup, Te.vs, has_app, okU_tup, okUs_cons, okUs_nil, okU_str, okU_int, h2, h4]
    refine ⟨?_, by simp [okH, q1, q2]⟩
    simp [c1_am, c1_te, c1_int, c1_str, c1_nil, c2_str, la3, la2, has_nil, has_cons, has_app, q1, q2, us_str, us_int, h1, h3]
theorem hd_ds (b : Bk) (v : Int) : cond1 v b.ds = false ∧ cond2 v b.ds = false ∧ okH b.ds = true := by
  cases b with
  | nil => exact ⟨rfl, rfl, rfl⟩
  | cons p b => simp only [Bk.ds]; cases p <;> exact ⟨rfl, rfl, rfl⟩
mutual
theorem pt_us : ∀ (p : Pt) (v : Int), p.ok = true → usD v p.d = has v p.vs ∧ okU p.d = true
  | .lt w a, v, h => by
    obtain ⟨h1, h2⟩ := am_us a v
    simp only [Pt.d, usD_tup, Pt.vs, has_cons, okU_tup, okUs_cons, okUs_nil, okU_str, okU_int, h2]
    refine ⟨?_, by simp [okH, n17, n18]⟩
    simp [c1_am, c1_te, c1_int, c1_str, c1_nil, c2_str, la3, la2, has_nil, has_cons, has_app, n17, n18, us_str, us_int, h1]
  | .gv a, v, h => by
    obtain ⟨h1, h2⟩ := am_us a v
    simp only [Pt.d, usD_tup, Pt.vs, okU_tup, okUs_cons, okUs_nil, okU_str, okU_int, h2]
    refine ⟨?_, by simp [okH, n21, n22]⟩
    simp [c1_am, c1_te, c1_int, c1_str, c1_nil, c2_str, la3, la2, has_nil, has_cons, has_app, n21, n22, us_str, us_int, h1]
  | .ife t x y, v, h => by
    simp only [Pt.ok, Bool.and_eq_true, decide_eq_true_eq] at h
    obtain ⟨h1, h2⟩ := te_us t v h.1.1
    obtain ⟨h3, h4⟩ := bk_uss x v h.1.2.1
    obtain ⟨h5, h6⟩ := bk_uss y v h.2.1
    obtain ⟨a1, a2, a3⟩ := hd_ds x v
    obtain ⟨b1, b2, b3⟩ := hd_ds y v
    simp only [Pt.d, usD_tup, Pt.vs, has_app, okU_tup, okUs_cons, okUs_nil, okU_str, okU_int, h2, h4, h6, a3, b3]
    refine ⟨?_, by simp [okH, n23, n24]⟩
    simp [c1_am, c1_te, c1_int, c1_str, c1_nil, c2_str, la3, la2, has_nil, has_cons, has_app, n23, n24, us_str, us_int, usD_tup, h1, h3, h5, a1, a2, b1, b2]
  | .lp w b, v, h => by
    simp only [Pt.ok, Bool.and_eq_true, decide_eq_true_eq] at h
    obtain ⟨h3, h4⟩ := bk_uss b v h.2.1
    obtain ⟨a1, a2, a3⟩ := hd_ds b v
    simp only [Pt.d, usD_tup, Pt.vs, has_cons, okU_tup, okUs_cons, okUs_nil, okU_str, okU_int, h4, a3]
    refine ⟨?_, by simp [okH, n19, n20]⟩
    simp [c1_am, c1_te, c1_int, c1_str, c1_nil, c2_str, la3, la2, has_nil, has_cons, has_app, n19, n20, us_str, us_int, usD_tup, h3, a1, a2]
theorem bk_uss : ∀ (b : Bk) (v : Int), b.ok = true → b.ds.any (usD v) = has v b.vs ∧ okUs b.ds = true
  | .nil, v, _ => ⟨by simp [Bk.ds, Bk.vs, has_nil], okUs_nil⟩
  | .cons p b, v, h => by
    simp only [Bk.ok, Bool.and_eq_true] at h
    obtain ⟨h1, h2⟩ := pt_us p v h.1
    obtain ⟨h3, h4⟩ := bk_uss b v h.2
    simp only [Bk.ds, List.any_cons, Bk.vs, has_app, okUs_cons, h1, h2, h3, h4]
    simp
end
theorem bk_us {b : Bk} (h : b.ok = true) (v : Int) : usD v b.d = decide (v ∈ b.vs) ∧ okU b.d = true := by
  obtain ⟨h3, h4⟩ := bk_uss b v h
  obtain ⟨a1, a2, a3⟩ := hd_ds b v
  unfold Bk.d
  rw [usD_tup, okU_tup, h3, h4, a1, a2, a3, has_iff]
  exact ⟨by simp, rfl⟩
end K61


set_option Elab.async false
set_option maxRecDepth 10000
set_option maxHeartbeats 4000000
set_option linter.unusedSimpArgs false
set_option linter.unusedVariables false
/-! k61: right sources are told right, wrong ones refused. -/
namespace K61
open PySem L2 Mi Mi.Pl
/-! ### data are equal to themselves -/
mutual
theorem toP_self : ∀ {d : D} {p : PyData}, D.toP d = some p → PyData.eqv p p = true ∧ p.depth ≤ dpt d + 1
  | .tup xs, p, h => by
    unfold D.toP at h
    split at h
    · rename_i ps e
      cases h
      obtain ⟨h1, h2⟩ := toPs_self e
      refine ⟨by unfold PyData.eqv; exact h1, ?_⟩
      rw [dpt_tup]
      simp only [PyData.depth]
      omega
    · cases h
  | .lst xs, p, h => by
    unfold D.toP at h
    split at h
    · rename_i ps e
      cases h
      obtain ⟨h1, h2⟩ := toPs_self e
      refine ⟨by unfold PyData.eqv; exact h1, ?_⟩
      rw [dpt_lst]
      simp only [PyData.depth]
      omega
    · cases h
  | .str s, p, h => by unfold D.toP at h; cases h; exact ⟨by simp [PyData.eqv], by simp [PyData.depth]⟩
  | .int s, p, h => by unfold D.toP at h; cases h; exact ⟨by simp [PyData.eqv], by simp [PyData.depth]⟩
  | .bl s, p, h => by unfold D.toP at h; cases h; exact ⟨by simp [PyData.eqv], by simp [PyData.depth]⟩
  | .non, p, h => by unfold D.toP at h; cases h; exact ⟨by simp [PyData.eqv], by simp [PyData.depth]⟩
  | .st, p, h => by unfold D.toP at h; cases h
  | .sub _, p, h => by unfold D.toP at h; cases h
  | .scr _, p, h => by unfold D.toP at h; cases h
  | .exn _ _, p, h => by unfold D.toP at h; cases h
theorem toPs_self : ∀ {ds : List D} {ps : List PyData}, D.toPs ds = some ps → PyData.eqvAll ps ps = true ∧ PyData.depthAll ps ≤ dpts ds + 1
  | [], ps, h => by unfold D.toPs at h; cases h; exact ⟨by simp [PyData.eqvAll], by simp [PyData.depthAll]⟩
  | d :: ds, ps, h => by
    unfold D.toPs at h
    split at h
    · rename_i p qs e1 e2
      cases h
      obtain ⟨h1, h2⟩ := toP_self e1
      obtain ⟨h3, h4⟩ := toPs_self e2
      refine ⟨by unfold PyData.eqvAll; rw [h1, h3]; rfl, ?_⟩
      rw [dpts_cons]
      simp only [PyData.depthAll]
      omega
    · cases h
end
theorem ne_self {d : D} (hf : fineD d = true) (h : dpt d ≤ 60) : cmpD .ne d d = some false := by
  have q : eqD d d = some true := by
    obtain ⟨p, e1, e2⟩ := fine_toP hf
    obtain ⟨h1, h2⟩ := toP_self e1
    have sh : SeqAt.shaped p = true := by simp [SeqAt.shaped, e2]; omega
    cases d with
    | int i => simp [eqD]
    | str i => simp [eqD]
    | bl i => simp [eqD]
    | non => simp [eqD]
    | tup xs => unfold eqD; simp only [e1]; rw [if_pos ⟨sh, sh⟩, h1]
    | lst xs => unfold eqD; simp only [e1]; rw [if_pos ⟨sh, sh⟩, h1]
    | st => cases hf
    | sub => cases hf
    | scr => cases hf
    | exn => cases hf
  unfold cmpD
  show (eqD d d).map _ = _
  rw [q]
  rfl
theorem fine_ls : ∀ (n : Nat) (d : D), dpt d ≤ n → fineD d = true → fineD (lsD d) = true ∧ dpt (lsD d) = dpt d := by
  intro n
  induction n with
  | zero =>
    intro d h hf
    cases d with
    | tup xs => rw [dpt_tup] at h; omega
    | lst xs => rw [dpt_lst] at h; omega
    | _ => rw [lsD] <;> first | exact ⟨hf, rfl⟩ | simp
  | succ n ih =>
    intro d h hf
    have row : ∀ xs : List D, dpts xs ≤ n → fineDs xs = true → fineDs (xs.map lsD) = true ∧ dpts (xs.map lsD) = dpts xs := by
      intro xs
      induction xs with
      | nil => exact fun _ _ => ⟨fine_nil, rfl⟩
      | cons x xs ihx =>
        intro h hf
        unfold fineDs at hf
        rw [Bool.and_eq_true] at hf
        rw [dpts_cons] at h
        obtain ⟨h1, h2⟩ := ih x (by omega) hf.1
        obtain ⟨h3, h4⟩ := ihx (by omega) hf.2
        rw [List.map_cons, dpts_cons, dpts_cons, h2, h4]
        exact ⟨fineDs_cons h1 h3, rfl⟩
    cases d with
    | tup xs =>
      obtain ⟨hl, hx, _⟩ := fine_row hf rfl
      rw [dpt_tup] at h
      obtain ⟨h1, h2⟩ := row xs (by omega) hx
      rw [lsD_tup, dpt_lst, dpt_tup, h2]
      exact ⟨by unfold fineD; simp [hl, h1], rfl⟩
    | lst xs =>
      obtain ⟨hl, hx, _⟩ := fine_row hf rfl
      rw [dpt_lst] at h
      obtain ⟨h1, h2⟩ := row xs (by omega) hx
      rw [lsD_lst, dpt_lst, dpt_lst, h2]
      exact ⟨by unfold fineD; simp [hl, h1], rfl⟩
    | _ => rw [lsD] <;> first | exact ⟨hf, rfl⟩ | simp
section
variable {k : Nat} {g : Gs}
/-! ### the check -/
theorem chk_ok {d : D} {t : Nat} (hf : fineD d = true) (hd : dpt d ≤ 30) (h : cntP d = some t) : Mi.call T (k + 40) 11 [d] g = .ok (tpD d) g := by
  rw [call_def d_checked_source rfl]
  unfold b_checked_source
  have c1 := count_ok (k := k + 33) (g := g) hf
  rw [h] at c1
  have c2 := tupled_ok (k := k + 7) (g := g) 30 d 60 hd (by omega) hf
  have c2' : Mi.call T (k + 39) 3 [d, .int 60] g = .ok (tpD d) g := c2
  have c1' : Mi.call T (k + 39) 10 [d] g = .ok (.int (t : Nat)) g := c1
  simp [c1', c2', Mi.isNon]
theorem chk_bad {d : D} (hf : fineD d = true) (h : cntP d = none) : Mi.call T (k + 40) 11 [d] g = .ex ⟨5, [.int 0]⟩ g := by
  rw [call_def d_checked_source rfl]
  unfold b_checked_source
  have c1 := count_ok (k := k + 33) (g := g) hf
  rw [h] at c1
  have c1' : Mi.call T (k + 39) 10 [d] g = .ok .non g := c1
  have e : (exFs 5).length = 1 := rfl
  simp [c1', Mi.isNon, e]
/-! ### what is asked -/
theorem asked_ex {i : Nat} {f : Nat} {b : List Mi.S} {d : D} (hb : T[i]? = some (.dfn 1 2 b)) (hd : b = [.tryX [.ret (.tup [(.lit (.str "answer")), (.call f [(.nm 0)])])] 100 1 [.ret (.call 23 [(.nm 1)])]])
    (h : Mi.call T (k + 1) f [d] g = .ex ⟨5, [.int 0]⟩ g) : Mi.call T (k + 2) i [d] g = .ok (.tup [.str "raised", .str "source", .int 0]) g := by
  rw [call_def hb rfl, hd]
  have e1 : exL (Mi.call T (k + 1)) [.ret (.tup [(.lit (.str "answer")), (.call f [(.nm 0)])])] [some (.val d), none] g = .ex ⟨5, [.int 0]⟩ [some (.val d), none] g := by simp [h]
  have e2 := try_ex (c := Mi.call T (k + 1)) (k := 100) (i := 1) (h := [.ret (.call 23 [(.nm 1)])]) (r := .rt (.tup [.str "raised", .str "source", .int 0]) g) e1 (by decide) (by simp [error_ok, D.noX, D.noXs])
  rw [exL_cons]
  show fin ((exS _ _ [some (.val d), none] g).seq _) = _
  rw [e2]
  rfl
theorem asked_ok {i : Nat} {f : Nat} {b : List Mi.S} {d r : D} (hb : T[i]? = some (.dfn 1 2 b)) (hd : b = [.tryX [.ret (.tup [(.lit (.str "answer")), (.call f [(.nm 0)])])] 100 1 [.ret (.call 23 [(.nm 1)])]])
    (h : Mi.call T (k + 1) f [d] g = .ok r g) : Mi.call T (k + 2) i [d] g = .ok (.tup [.str "answer", r]) g := by
  rw [call_def hb rfl, hd, exL_cons]
  have e1 : exS (Mi.call T (k + 1)) (.tryX [.ret (.tup [(.lit (.str "answer")), (.call f [(.nm 0)])])] 100 1 [.ret (.call 23 [(.nm 1)])]) [some (.val d), none] g = .rt (.tup [.str "answer", r]) g := by
    rw [exS]
    simp [h]
  show fin ((exS _ _ [some (.val d), none] g).seq _) = _
  rw [e1]
  rfl
/-- handed in, and right -/
structure Good (b : Bk) (d : D) : Prop where
  ok : b.ok = true
  len : b.ds.length ≤ 20
  hh : b.h ≤ 13
  cc : b.c ≤ 200
  fine : fineD d = true
  dd : dpt d ≤ 30
  tp : tpD d = b.d
  cnt : cntP d = some b.c
theorem good_self {b : Bk} (h1 : b.ok = true) (h2 : b.ds.length ≤ 20) (h3 : b.h ≤ 13) (h4 : b.c ≤ 200) : Good b b.d := by
  have := bk_dpt b
  exact ⟨h1, h2, h3, h4, bk_fine h1 (by omega), by omega, bk_tp b, by rw [cnt_bk h1, if_pos ⟨h2, h3, h4⟩]⟩
theorem Good.ls {b : Bk} (h : Good b b.d) : Good b (lsD b.d) := by
  obtain ⟨h1, h2⟩ := fine_ls 30 b.d h.dd h.fine
  exact ⟨h.ok, h.len, h.hh, h.cc, h1, by rw [h2]; exact h.dd, by rw [tp_ls 30 b.d h.dd]; exact bk_tp b, by rw [cnt_ls]; exact h.cnt⟩
theorem told0 {b : Bk} {d : D} (h : Good b d) : Mi.call T (k + 42) 34 [d] g = .ok (.tup [.str "answer", .non]) g := by
  refine asked_ok d_law_check_asked rfl ?_
  rw [call_def d_check_source rfl]
  unfold b_check_source
  simp [chk_ok (k := k) h.fine h.dd h.cnt]
theorem told1 {b : Bk} {d : D} (h : Good b d) : Mi.call T (k + 42) 35 [d] g = .ok (.tup [.str "answer", .int (b.c : Nat)]) g := by
  refine asked_ok d_law_parts_asked rfl ?_
  rw [call_def d_parts_in rfl]
  unfold b_parts_in
  have c1 := chk_ok (k := k) (g := g) h.fine h.dd h.cnt
  rw [h.tp] at c1
  have c2 := count_ok (k := k + 34) (g := g) (d := b.d) (bk_fine h.ok (by have := h.len; omega))
  rw [cnt_bk h.ok, if_pos ⟨h.len, h.hh, h.cc⟩] at c2
  have c3 : Mi.call T (k + 40) 10 [b.d] g = .ok (.int (b.c : Nat)) g := c2
  simp [c1, c3]
theorem told2 {b : Bk} {d : D} (h : Good b d) : Mi.call T (k + 42) 36 [d] g = .ok (.tup [.str "answer", .tup ((varsOf b).map .int)]) g := by
  refine asked_ok d_law_variables_asked rfl ?_
  have c1 := chk_ok (k := k) (g := g) h.fine h.dd h.cnt
  rw [h.tp] at c1
  exact variables_ok (k := k + 34) (g := g) c1 h.ok h.len h.cc
theorem told3 {b : Bk} {d : D} (h : Good b d) : Mi.call T (k + 42) 37 [d] g = .ok (.tup [.str "answer", .int (b.ns : Nat)]) g := by
  refine asked_ok d_law_deep_asked rfl ?_
  rw [call_def d_blocks_deep rfl]
  unfold b_blocks_deep
  have c1 := chk_ok (k := k) (g := g) h.fine h.dd h.cnt
  rw [h.tp] at c1
  have hns := bk_ns_h b
  have c2 := pnest_ok (k := k + 20) (g := g) 20 b (by have := h.hh; omega) h.ok (by have := h.len; omega)
  have c3 : Mi.call T (k + 40) 17 [b.d] g = .ok (.int (b.ns : Nat)) g := c2
  simp [c1, c3]
theorem ex0 {d : D} (hf : fineD d = true) (h : cntP d = none) : Mi.call T (k + 42) 34 [d] g = .ok (.tup [.str "raised", .str "source", .int 0]) g := by
  refine asked_ex d_law_check_asked rfl ?_
  rw [call_def d_check_source rfl]
  unfold b_check_source
  simp [chk_bad (k := k) hf h]
theorem ex1 {d : D} (hf : fineD d = true) (h : cntP d = none) : Mi.call T (k + 42) 35 [d] g = .ok (.tup [.str "raised", .str "source", .int 0]) g := by
  refine asked_ex d_law_parts_asked rfl ?_
  rw [call_def d_parts_in rfl]
  unfold b_parts_in
  simp [chk_bad (k := k) hf h]
theorem ex2 {d : D} (hf : fineD d = true) (h : cntP d = none) : Mi.call T (k + 42) 36 [d] g = .ok (.tup [.str "raised", .str "source", .int 0]) g := by
  refine asked_ex d_law_variables_asked rfl ?_
  rw [call_def d_variables_of rfl]
  unfold b_variables_of
  simp [chk_bad (k := k) hf h]
theorem ex3 {d : D} (hf : fineD d = true) (h : cntP d = none) : Mi.call T (k + 42) 37 [d] g = .ok (.tup [.str "raised", .str "source", .int 0]) g := by
  refine asked_ex d_law_deep_asked rfl ?_
  rw [call_def d_blocks_deep rfl]
  unfold b_blocks_deep
  simp [chk_bad (k := k) hf h]
end
end K61


set_option Elab.async false
set_option maxRecDepth 10000
set_option maxHeartbeats 4000000
set_option linter.unusedSimpArgs false
set_option linter.unusedVariables false
/-! k61: right, wrong. -/
namespace K61
open PySem L2 Mi Mi.Pl
section
variable {k : Nat} {g : Gs}
theorem sl4 : (4 : Nat) ≤ sizeLine := by decide
theorem same_flat {d : D} (h : (∃ i, d = .int i) ∨ (∃ s, d = .str s) ∨ d = .non) : Mi.call T (k + 1) 21 [d, d] g = .ok (.bl true) g := same_one h
theorem same_ans {d : D} (h : Mi.call T (k + 1 + 2) 21 [d, d] g = .ok (.bl true) g) : Mi.call T (k + 1 + 2 + 1) 21 [.tup [.str "answer", d], .tup [.str "answer", d]] g = .ok (.bl true) g := by
  refine same_tup (k := k + 1) (n := 2) (by simp) fun x hx => ?_
  simp only [List.mem_cons, List.not_mem_nil, or_false] at hx
  rcases hx with rfl | rfl
  · exact same_flat (k := k + 2) (.inr (.inl ⟨_, rfl⟩))
  · exact h
theorem same_vars {ns : List Int} (hl : ns.length ≤ 1000) : Mi.call T (k + 1 + 2) 21 [.tup (ns.map .int), .tup (ns.map .int)] g = .ok (.bl true) g := by
  refine same_tup (k := k + 1) (n := 1) (by rw [List.length_map]; omega) fun x hx => ?_
  obtain ⟨i, _, rfl⟩ := List.mem_map.mp hx
  exact same_flat (k := k + 1) (.inl ⟨_, rfl⟩)
theorem vars_few (b : Bk) : (varsOf b).length ≤ 4 := by
  unfold varsOf
  rw [List.length_map]
  have := List.length_filter_le (fun (j : Nat) => decide ((j : Int) ∈ b.vs)) (List.range 4)
  rw [List.length_range] at this
  exact this
def duesOf (b : Bk) : List D := [.non, .int (b.c : Nat), .tup ((varsOf b).map .int), .int (b.ns : Nat)]
def toldOf (b : Bk) : List D := (duesOf b).map fun d => .tup [.str "answer", d]
theorem same_all (b : Bk) : ∀ d ∈ duesOf b, Mi.call T (k + 5) 21 [.tup [.str "answer", d], .tup [.str "answer", d]] g = .ok (.bl true) g := by
  intro d hd
  refine same_ans (k := k + 1) ?_
  simp only [duesOf, List.mem_cons, List.not_mem_nil, or_false] at hd
  rcases hd with rfl | rfl | rfl | rfl
  · exact same_flat (k := k + 3) (.inr (.inr rfl))
  · exact same_flat (k := k + 3) (.inl ⟨_, rfl⟩)
  · exact same_vars (by have := vars_few b; omega)
  · exact same_flat (k := k + 3) (.inl ⟨_, rfl⟩)
theorem right_ok {b : Bk} (hg : Good b b.d) (h : Ok g) : ∃ g', Mi.call T (k + 45) 40 [.st, b.d] g = .ok (.bl true) g' ∧ Ok g' := by
  obtain ⟨w, g', e1, w1, w2, hg'⟩ := draw_ok (k := k + 43) h (m := 2) (by decide) (by decide)
  refine ⟨g', ?_, hg'⟩
  rw [call_def d_law_right rfl]
  unfold b_law_right
  have p1 := lp_ok (k := k + 13) (g := g) 30 b.d hg.dd hg.fine
  rw [bk_cD] at p1
  have p1' : Mi.call T (k + 44) 24 [b.d] g = .ok (.int (b.c : Nat)) g := p1
  have p2 := lnest_ok (k := k + 24) (g := g) 20 b (by have := bk_ns_h b; have := hg.hh; omega)
  have p2' : Mi.call T (k + 44) 39 [b.d] g = .ok (.int (b.ns : Nat)) g := p2
  have cv := ev_comp_filter (c := Mi.call T (k + 44)) (g := g) (ρ := [some (.val .st), some (.val b.d), none, none, none, none, none, none]) (tg := .nm 6) (it := .irng1 (.lit (.int 4))) (cond := .call 38 [(.nm 1), (.nm 6)]) (own := [6]) (elt := .nm 6) (List.range 4) (fun j => D.int j) (fun j => decide ((j : Int) ∈ b.vs)) (fun j => D.int j)
    (fun j => [some (.val .st), some (.val b.d), none, none, none, none, some (.val (.int j)), none])
    (evI_rng1 (n := 4) (by simp) (by decide)) (fun i _ => rfl) (fun j _ => by
      have u1 := uses_ok (k := k + 13) (g := g) 30 b.d (j : Int) hg.dd hg.fine (bk_us hg.ok j).2
      rw [(bk_us hg.ok j).1] at u1
      have u2 : Mi.call T (k + 44) 38 [b.d, .int j] g = .ok (.bl (decide ((j : Int) ∈ b.vs))) g := u1
      simp [u2]) (fun i _ z => by simp) (by rw [List.length_range]; exact sl4)
  have ev1 : ((List.range 4).filter fun (j : Nat) => decide ((j : Int) ∈ b.vs)).map (fun (j : Nat) => D.int j) = (varsOf b).map .int := by unfold varsOf; rw [List.map_map]; rfl
  rw [ev1] at cv
  -- the due things
  have a1 : exS (Mi.call T (k + 44)) (.asg 2 (.lst [(.lit .non), (.call 24 [(.nm 1)]), (.bi .tuple [(.comp (.nm 6) (.irng1 (.lit (.int 4))) (.call 38 [(.nm 1), (.nm 6)]) [6] (.nm 6))]), (.call 39 [(.nm 1)])])) [some (.val .st), some (.val b.d), none, none, none, none, none, none] g
      = .nx [some (.val .st), some (.val b.d), some (.own (duesOf b)), none, none, none, none, none] g := by
    have s4 : 4 ≤ sizeLine := sl4
    simp [p1', p2', cv, duesOf, mkCell, sl4]
  obtain ⟨d3, hd3, a2⟩ : ∃ d3, Good b d3 ∧ exS (Mi.call T (k + 44)) (.asg 3 (.ite (.cmp .eq (.call 20 [(.nm 0), (.lit (.int 2))]) (.lit (.int 0))) (.call 22 [(.nm 1)]) (.nm 1))) [some (.val .st), some (.val b.d), some (.own (duesOf b)), none, none, none, none, none] g
      = .nx [some (.val .st), some (.val b.d), some (.own (duesOf b)), some (.val d3), none, none, none, none] g' := by
    have l1 := lists_ok (k := k + 13) (g := g') 30 b.d hg.dd hg.fine
    have l2 : Mi.call T (k + 44) 22 [b.d] g' = .ok (lsD b.d) g' := l1
    by_cases hw : w = 0
    · refine ⟨lsD b.d, hg.ls, ?_⟩
      simp [e1, hw, l2, mkCell]
    · have hw2 : (w == 0) = false := beq_eq_false_iff_ne.mpr hw
      refine ⟨b.d, hg, ?_⟩
      simp [e1, hw2, mkCell]
  have l3 := lists_ok (k := k + 13) (g := g') 30 d3 hd3.dd hd3.fine
  have l3' : Mi.call T (k + 44) 22 [d3] g' = .ok (lsD d3) g' := l3
  obtain ⟨f1, f2⟩ := fine_ls 30 d3 hd3.dd hd3.fine
  have ne := ne_self f1 (by rw [f2]; have := hd3.dd; omega)
  have a3 : exS (Mi.call T (k + 44)) (.asg 4 (.call 22 [(.nm 3)])) [some (.val .st), some (.val b.d), some (.own (duesOf b)), some (.val d3), none, none, none, none] g'
      = .nx [some (.val .st), some (.val b.d), some (.own (duesOf b)), some (.val d3), some (.val (lsD d3)), none, none, none] g' := by
    simp [l3']
  have t0 : Mi.call T (k + 44) 34 [d3] g' = _ := told0 (k := k + 2) hd3
  have t1 : Mi.call T (k + 44) 35 [d3] g' = _ := told1 (k := k + 2) hd3
  have t2 : Mi.call T (k + 44) 36 [d3] g' = _ := told2 (k := k + 2) hd3
  have t3 : Mi.call T (k + 44) 37 [d3] g' = _ := told3 (k := k + 2) hd3
  have a4 : exS (Mi.call T (k + 44)) (.asg 5 (.lst [(.call 34 [(.nm 3)]), (.call 35 [(.nm 3)]), (.call 36 [(.nm 3)]), (.call 37 [(.nm 3)])])) [some (.val .st), some (.val b.d), some (.own (duesOf b)), some (.val d3), some (.val (lsD d3)), none, none, none] g'
      = .nx [some (.val .st), some (.val b.d), some (.own (duesOf b)), some (.val d3), some (.val (lsD d3)), some (.own (toldOf b)), none, none] g' := by
    simp [t0, t1, t2, t3, toldOf, duesOf, mkCell, sl4]
  have cs := ev_comp_filter (c := Mi.call T (k + 44)) (g := g') (ρ := [some (.val .st), some (.val b.d), some (.own (duesOf b)), some (.val d3), some (.val (lsD d3)), some (.own (toldOf b)), none, none]) (tg := .nm 7) (it := .irng1 (.lit (.int 4))) (cond := .tnot (.call 21 [(.ix (.nm 5) (.nm 7)), (.tup [(.lit (.str "answer")), (.ix (.nm 2) (.nm 7))])])) (own := [7]) (elt := .nm 7) (List.range 4) (fun j => D.int j) (fun _ => false) (fun j => D.int j)
    (fun j => [some (.val .st), some (.val b.d), some (.own (duesOf b)), some (.val d3), some (.val (lsD d3)), some (.own (toldOf b)), none, some (.val (.int j))])
    (evI_rng1 (n := 4) (by simp) (by decide)) (fun i _ => rfl) (fun j hj => by
      have hj : j < (duesOf b).length := by simpa [duesOf] using hj
      have z1 : atI (duesOf b) (j : Int) = some (duesOf b)[j] := by rw [Mi.Pl.atI_nat, List.getElem?_eq_getElem hj]
      have z2 : atI (toldOf b) (j : Int) = some (.tup [.str "answer", (duesOf b)[j]]) := by
        rw [Mi.Pl.atI_nat]
        unfold toldOf
        rw [List.getElem?_map, List.getElem?_eq_getElem hj]
        rfl
      have z3 : Mi.call T (k + 44) 21 [.tup [.str "answer", (duesOf b)[j]], .tup [.str "answer", (duesOf b)[j]]] g' = .ok (.bl true) g' := same_all (k := k + 39) b _ (List.getElem_mem hj)
      simp [z1, z2, z3]) (fun i _ z => by cases z) (by rw [List.length_range]; exact sl4)
  rw [exL_cons]
  show fin ((exS _ _ [some (.val .st), some (.val b.d), none, none, none, none, none, none] g).seq _) = _
  rw [a1, SR.seq_nx, exL_cons, a2, SR.seq_nx, exL_cons, a3, SR.seq_nx, exL_cons, a4, SR.seq_nx]
  simp [l3', ne, cs]
theorem same_src : Mi.call T (k + 3) 21 [.tup [.str "raised", .str "source", .int 0], .tup [.str "raised", .str "source", .int 0]] g = .ok (.bl true) g := by
  refine same_tup (k := k + 1) (n := 1) (by simp) fun x hx => ?_
  simp only [List.mem_cons, List.not_mem_nil, or_false] at hx
  rcases hx with rfl | rfl | rfl
  · exact same_flat (k := k + 1) (.inr (.inl ⟨_, rfl⟩))
  · exact same_flat (k := k + 1) (.inr (.inl ⟨_, rfl⟩))
  · exact same_flat (k := k + 1) (.inl ⟨_, rfl⟩)
structure Bad (d : D) : Prop where
  fine : fineD d = true
  dd : dpt d ≤ 30
  cnt : cntP d = none
theorem wrong_ok {d : D} (hb : Bad d) (h : Ok g) : ∃ g', Mi.call T (k + 45) 41 [.st, d] g = .ok (.bl true) g' ∧ Ok g' := by
  obtain ⟨w, g', e1, w1, w2, hg'⟩ := draw_ok (k := k + 43) h (m := 3) (by decide) (by decide)
  refine ⟨g', ?_, hg'⟩
  rw [call_def d_law_wrong rfl]
  unfold b_law_wrong
  obtain ⟨d3, f3, c3, a2⟩ : ∃ d3, fineD d3 = true ∧ cntP d3 = none ∧ exS (Mi.call T (k + 44)) (.asg 2 (.ite (.cmp .eq (.call 20 [(.nm 0), (.lit (.int 3))]) (.lit (.int 0))) (.call 22 [(.nm 1)]) (.nm 1))) [some (.val .st), some (.val d), none, none, none] g
      = .nx [some (.val .st), some (.val d), some (.val d3), none, none] g' := by
    have l1 := lists_ok (k := k + 13) (g := g') 30 d hb.dd hb.fine
    have l2 : Mi.call T (k + 44) 22 [d] g' = .ok (lsD d) g' := l1
    by_cases hw : w = 0
    · refine ⟨lsD d, (fine_ls 30 d hb.dd hb.fine).1, by rw [cnt_ls]; exact hb.cnt, ?_⟩
      simp [e1, hw, l2, mkCell]
    · have hw2 : (w == 0) = false := beq_eq_false_iff_ne.mpr hw
      refine ⟨d, hb.fine, hb.cnt, ?_⟩
      simp [e1, hw2, mkCell]
  have t0 : Mi.call T (k + 44) 34 [d3] g' = _ := ex0 (k := k + 2) f3 c3
  have t1 : Mi.call T (k + 44) 35 [d3] g' = _ := ex1 (k := k + 2) f3 c3
  have t2 : Mi.call T (k + 44) 36 [d3] g' = _ := ex2 (k := k + 2) f3 c3
  have t3 : Mi.call T (k + 44) 37 [d3] g' = _ := ex3 (k := k + 2) f3 c3
  have s1 : Mi.call T (k + 44) 21 [.tup [.str "raised", .str "source", .int 0], .tup [.str "raised", .str "source", .int 0]] g' = .ok (.bl true) g' := same_src (k := k + 41)
  generalize hr : D.tup [.str "raised", .str "source", .int 0] = r at t0 t1 t2 t3 s1
  have a4 : exS (Mi.call T (k + 44)) (.asg 3 (.lst [(.call 34 [(.nm 2)]), (.call 35 [(.nm 2)]), (.call 36 [(.nm 2)]), (.call 37 [(.nm 2)])])) [some (.val .st), some (.val d), some (.val d3), none, none] g'
      = .nx [some (.val .st), some (.val d), some (.val d3), some (.own [r, r, r, r]), none] g' := by
    simp [t0, t1, t2, t3, mkCell, sl4]
  have cs := ev_comp_filter (c := Mi.call T (k + 44)) (g := g') (ρ := [some (.val .st), some (.val d), some (.val d3), some (.own [r, r, r, r]), none]) (tg := .nm 4) (it := .iseq (.nm 3)) (cond := .tnot (.call 21 [(.nm 4), (.tup [(.lit (.str "raised")), (.lit (.str "source")), (.lit (.int 0))])])) (own := [4]) (elt := .nm 4) [r, r, r, r] (fun x => x) (fun _ => false) (fun x => x)
    (fun x => [some (.val .st), some (.val d), some (.val d3), some (.own [r, r, r, r]), some (.val x)])
    (by simp [itemsD]) (fun i _ => rfl) (fun x hx => by
      have hx : x = r := by simpa using hx
      subst hx
      simp [hr, s1]) (fun i _ z => by cases z) (by exact sl4)
  rw [exL_cons]
  show fin ((exS _ _ [some (.val .st), some (.val d), none, none, none] g).seq _) = _
  rw [a2, SR.seq_nx, exL_cons, a4, SR.seq_nx]
  simp [cs]
end
end K61


set_option Elab.async false
set_option maxRecDepth 10000
set_option maxHeartbeats 4000000
set_option linter.unusedSimpArgs false
set_option linter.unusedVariables false
/-! k61: what is drawn: words, amounts, tests. -/
namespace K61
open PySem L2 Mi Mi.Pl
section
variable {k : Nat} {g : Gs}
theorem draw' (h : Ok g) (m : Int) (h0 : 0 < m) (h9 : m < 18446744073709551616) : ∃ w g', (∀ k, Mi.call T (k + 1) 20 [.st, .int m] g = .ok (.int w) g') ∧ 0 ≤ w ∧ w < m ∧ Ok g' := by
  obtain ⟨w, g', e, h1, h2, h3⟩ := draw_ok (k := 0) h h0 h9
  refine ⟨w, g', fun k => ?_, h1, h2, h3⟩
  obtain ⟨w2, g2, e2, _⟩ := draw_ok (k := k) h h0 h9
  have same : Mi.call T (k + 1) 20 [.st, .int m] g = Mi.call T (0 + 1) 20 [.st, .int m] g := by
    rw [call_def d_law_draw rfl, call_def d_law_draw rfl]
    rfl
  rw [same, e]
theorem beqF {a b : Int} (h : a ≠ b) : (a == b) = false := beq_eq_false_iff_ne.mpr h
theorem word_d (h : Ok g) : ∃ w g', Mi.call T (k + 2) 25 [.st] g = .ok (.int w) g' ∧ 0 ≤ w ∧ w ≤ 65535 ∧ Ok g' := by
  obtain ⟨p, g1, e1, p1, p2, h1⟩ := draw' h 8 (by decide) (by decide)
  rw [call_def d_law_word rfl]
  unfold b_law_word
  by_cases c1 : p < 5
  · obtain ⟨w, g2, e2, w1, w2, h2⟩ := draw' h1 5 (by decide) (by decide)
    exact ⟨w, g2, by simp [e1, e2, c1], w1, by omega, h2⟩
  · by_cases c2 : p = 5
    · subst c2
      obtain ⟨w, g2, e2, w1, w2, h2⟩ := draw' h1 3 (by decide) (by decide)
      exact ⟨65535 - w, g2, by simp [e1, e2], by omega, by omega, h2⟩
    · by_cases c3 : p = 6
      · subst c3
        obtain ⟨w, g2, e2, w1, w2, h2⟩ := draw' h1 16 (by decide) (by decide)
        have sh := opD_shl (a := 1) (b := w) w1 (by omega) (by decide)
        have hp : (2 : Int) ^ w.toNat ≤ 32768 := by
          have h4 : w.toNat ≤ 15 := by omega
          have : (2 : Nat) ^ w.toNat ≤ 2 ^ 15 := Nat.pow_le_pow_right (by decide) h4
          have e : ((2 : Nat) ^ w.toNat : Nat) = ((2 : Int) ^ w.toNat) := by norm_cast
          omega
        have hq : (0 : Int) < 2 ^ w.toNat := Int.pow_pos (by decide)
        refine ⟨1 * 2 ^ w.toNat, g2, by simp [e1, e2, sh], by omega, by omega, h2⟩
      · obtain ⟨w, g2, e2, w1, w2, h2⟩ := draw' h1 65536 (by decide) (by decide)
        exact ⟨w, g2, by simp [e1, e2, c1, beqF c2, beqF c3], w1, by omega, h2⟩
theorem wd_of {i : Int} (h : 0 ≤ i) (h2 : i ≤ 65535) : wd i = true := by simp [wd, h, h2]
theorem vr_of {i : Int} (h : 0 ≤ i) (h2 : i < 4) : vr i = true := by simp [vr, h]; omega
theorem leaf_d (h : Ok g) {s : Int} (hs : 0 ≤ s) (hs2 : s ≤ 2) : ∃ (a : Am) (g' : Gs), Mi.call T (k + 3) 26 [.st, .int s, .bl true] g = .ok a.d g' ∧ a.ok = true ∧ a.h = 0 ∧ Ok g' := by
  obtain ⟨p, g1, e1, p1, p2, h1⟩ := draw' h 6 (by decide) (by decide)
  rw [call_def d_law_leaf rfl]
  unfold b_law_leaf
  by_cases c1 : p = 0
  · subst c1
    obtain ⟨w, g2, e2, w1, w2, h2⟩ := word_d (k := k) h1
    exact ⟨.num w, g2, by simp [e1, e2, Am.d], wd_of w1 w2, rfl, h2⟩
  · by_cases c2 : p < 3
    · obtain ⟨w, g2, e2, w1, w2, h2⟩ := draw' h1 4 (by decide) (by decide)
      exact ⟨.var w, g2, by simp [e1, e2, Am.d, beqF c1, c2], vr_of w1 w2, rfl, h2⟩
    · by_cases c3 : p = 3
      · subst c3
        exact ⟨.len, g1, by simp [e1, Am.d], rfl, rfl, h1⟩
      · obtain ⟨q, g2, e2, q1, q2, h2⟩ := draw' h1 3 (by decide) (by decide)
        by_cases c4 : q = 0
        · subst c4
          obtain ⟨x, g3, e3, x1, x2, h3⟩ := draw' h2 6 (by decide) (by decide)
          obtain ⟨d, e4, i, rfl, hi⟩ := pick (xs := [.int 0, .int 0, .int 1, .int 1, .int 2, .int 65535]) x1 (by simpa using x2) (fun d => ∃ i, d = .int i ∧ wd i = true) (by
            intro x hx
            simp only [List.mem_cons, List.not_mem_nil, or_false] at hx
            rcases hx with rfl | rfl | rfl | rfl | rfl | rfl <;> exact ⟨_, rfl, by decide⟩)
          obtain ⟨y, g4, e5, y1, y2, h4⟩ := draw' h3 2 (by decide) (by decide)
          by_cases c5 : y = 0
          · subst c5
            exact ⟨.byte i, g4, by simp [e1, e2, e3, e4, e5, Am.d, beqF c1, c2, beqF c3], hi, rfl, h4⟩
          · obtain ⟨v, g5, e6, v1, v2, h5⟩ := draw' h4 4 (by decide) (by decide)
            exact ⟨.byteat v i, g5, by simp [e1, e2, e3, e4, e5, e6, Am.d, beqF c1, c2, beqF c3, beqF c5], by simp [Am.ok, vr_of v1 v2, hi], rfl, h5⟩
        · by_cases c6 : 0 < s
          · obtain ⟨x, g3, e3, x1, x2, h3⟩ := draw' h2 s c6 (by omega)
            exact ⟨.byte x, g3, by simp [e1, e2, e3, Am.d, beqF c1, c2, beqF c3, beqF c4, c6], wd_of x1 (by omega), rfl, h3⟩
          · exact ⟨.len, g2, by simp [e1, e2, Am.d, beqF c1, c2, beqF c3, beqF c4, c6], rfl, rfl, h2⟩
end
end K61


set_option Elab.async false
set_option maxRecDepth 10000
set_option maxHeartbeats 8000000
set_option linter.unusedSimpArgs false
set_option linter.unusedVariables false
/-! k61: what is drawn: amounts, tests. -/
namespace K61
open PySem L2 Mi Mi.Pl
section
variable {k : Nat} {g : Gs}
def opW : List Str := ["add", "sub", "mul", "and", "or", "xor", "left", "right", "div", "mod"]
/-- what an operation's number becomes -/
theorem op_num {z : Str} (hz : z ∈ opW) : ∃ lr dm : Bool, inD (.str z) [.str "left", .str "right"] = some lr ∧ inD (.str z) [.str "div", .str "mod"] = some dm ∧ PyData.strOk z = true ∧
    ∀ w : Int, 0 ≤ w → w ≤ 65535 → opFits (.str z) (.int (if (if dm then (1 : Int) else 0) > w % (if lr then 16 else 65536) then (if dm then (1 : Int) else 0) else w % (if lr then 16 else 65536))) = true := by
  simp only [opW, List.mem_cons, List.not_mem_nil, or_false] at hz
  have K : ∀ (c : Int), 0 ≤ c → c ≤ 65535 → inR 0 65535 (.int c) = true := fun c h1 h2 => wd_of h1 h2
  have kk : ∀ z : Str, opTab.lookup z = some ("k" : Str) → ∀ w : Int, 0 ≤ w → w ≤ 65535 → opFits (.str z) (.int (if (if false = true then (1 : Int) else 0) > w % (if false = true then 16 else 65536) then (if false = true then (1 : Int) else 0) else w % (if false = true then 16 else 65536))) = true := by
    intro z e w h1 h2
    unfold opFits
    simp only [e]
    unfold fitF
    rw [if_pos (by simp [ofS_beq])]
    have m1 := Int.emod_nonneg w (b := 65536) (by decide)
    have m2 := Int.emod_lt_of_pos w (b := 65536) (by decide)
    refine K _ ?_ ?_ <;> simp only [Bool.false_eq_true, if_false] <;> split <;> omega
  have ss : ∀ z : Str, opTab.lookup z = some ("s" : Str) → ∀ w : Int, 0 ≤ w → w ≤ 65535 → opFits (.str z) (.int (if (if false = true then (1 : Int) else 0) > w % (if true = true then 16 else 65536) then (if false = true then (1 : Int) else 0) else w % (if true = true then 16 else 65536))) = true := by
    intro z e w h1 h2
    unfold opFits
    simp only [e]
    unfold fitF
    rw [if_neg (by simp [ofS_beq]), if_neg (by simp [ofS_beq])]
    have : ∀ c : Int, 0 ≤ c → c ≤ 15 → inR 0 15 (.int c) = true := fun c h1 h2 => by simp [inR, h1, h2]
    have m1 := Int.emod_nonneg w (b := 16) (by decide)
    have m2 := Int.emod_lt_of_pos w (b := 16) (by decide)
    refine this _ ?_ ?_ <;> simp only [Bool.false_eq_true, if_false, if_true] <;> split <;> omega
  have nn : ∀ z : Str, opTab.lookup z = some ("n" : Str) → ∀ w : Int, 0 ≤ w → w ≤ 65535 → opFits (.str z) (.int (if (if true = true then (1 : Int) else 0) > w % (if false = true then 16 else 65536) then (if true = true then (1 : Int) else 0) else w % (if false = true then 16 else 65536))) = true := by
    intro z e w h1 h2
    unfold opFits
    simp only [e]
    unfold fitF
    rw [if_neg (by simp [ofS_beq]), if_pos (by simp [ofS_beq])]
    have : ∀ c : Int, 1 ≤ c → c ≤ 65535 → (inR 0 65535 (.int c) && inR 1 65535 (.int c)) = true := fun c h1 h2 => by simp [inR, h1, h2]; omega
    have m1 := Int.emod_nonneg w (b := 65536) (by decide)
    have m2 := Int.emod_lt_of_pos w (b := 65536) (by decide)
    refine this _ ?_ ?_ <;> simp only [Bool.false_eq_true, if_false, if_true] <;> split <;> omega
  rcases hz with rfl | rfl | rfl | rfl | rfl | rfl | rfl | rfl | rfl | rfl
  · exact ⟨false, false, by decide +kernel, by decide +kernel, by decide +kernel, kk _ (by decide +kernel)⟩
  · exact ⟨false, false, by decide +kernel, by decide +kernel, by decide +kernel, kk _ (by decide +kernel)⟩
  · exact ⟨false, false, by decide +kernel, by decide +kernel, by decide +kernel, kk _ (by decide +kernel)⟩
  · exact ⟨false, false, by decide +kernel, by decide +kernel, by decide +kernel, kk _ (by decide +kernel)⟩
  · exact ⟨false, false, by decide +kernel, by decide +kernel, by decide +kernel, kk _ (by decide +kernel)⟩
  · exact ⟨false, false, by decide +kernel, by decide +kernel, by decide +kernel, kk _ (by decide +kernel)⟩
  · exact ⟨true, false, by decide +kernel, by decide +kernel, by decide +kernel, ss _ (by decide +kernel)⟩
  · exact ⟨true, false, by decide +kernel, by decide +kernel, by decide +kernel, ss _ (by decide +kernel)⟩
  · exact ⟨false, true, by decide +kernel, by decide +kernel, by decide +kernel, nn _ (by decide +kernel)⟩
  · exact ⟨false, true, by decide +kernel, by decide +kernel, by decide +kernel, nn _ (by decide +kernel)⟩
theorem amount_d : ∀ (n : Nat) (g : Gs), Ok g → ∀ {s : Int}, 0 ≤ s → s ≤ 2 → ∃ (a : Am) (g' : Gs), Mi.call T (k + 4 + n) 27 [.st, .int (n : Nat), .int s, .bl true] g = .ok a.d g' ∧ a.ok = true ∧ a.h ≤ n ∧ Ok g'
  | n, g, h, s, hs, hs2 => by
    obtain ⟨p, g1, e1, p1, p2, h1⟩ := draw' h 7 (by decide) (by decide)
    have e1' : ∀ k, Mi.call T (k + 1) 20 [.st, .int 7] g = .ok (.int p) g1 := e1
    by_cases c1 : n < 1 ∨ p < 3
    · obtain ⟨a, g2, e2, a1, a2, h2⟩ := leaf_d (k := k + n) h1 hs hs2
      refine ⟨a, g2, ?_, a1, by omega, h2⟩
      have e2' : Mi.call T (k + 3 + n) 26 [.st, .int s, .bl true] g1 = .ok a.d g2 := by rw [show k + 3 + n = k + n + 3 by omega]; exact e2
      rw [show k + 4 + n = k + 3 + n + 1 by omega, call_def d_law_amount rfl]
      unfold b_law_amount
      have e1'' : Mi.call T (k + 3 + n) 20 [.st, .int 7] g = .ok (.int p) g1 := by rw [show k + 3 + n = k + 2 + n + 1 by omega]; exact e1 _
      rcases c1 with c1 | c1
      · have : (((n : Nat) : Int) < 1) := by omega
        simp [e1'', e2', this]
      · by_cases c2 : ((n : Nat) : Int) < 1
        · simp [e1'', e2', c2]
        · simp [e1'', e2', c1, c2]
    · match n, c1 with
      | 0, c1 => omega
      | n + 1, c1 =>
        obtain ⟨a, g2, e2, a1, a2, h2⟩ := amount_d n g1 h1 hs hs2
        rw [show k + 4 + (n + 1) = k + 4 + n + 1 by omega, call_def d_law_amount rfl]
        unfold b_law_amount
        have n1 : ¬ (((n : Nat) : Int) + 1 < 1) := by omega
        have n2 : ¬ (p < 3) := by omega
        have n3 : ((n : Nat) : Int) + 1 - 1 = ((n : Nat) : Int) := by omega
        have d7 : Mi.call T (k + 4 + n) 20 [.st, .int 7] g = .ok (.int p) g1 := by rw [show k + 4 + n = k + 3 + n + 1 by omega]; exact e1 _
        by_cases c2 : p = 6
        · subst c2
          obtain ⟨x, g3, e3, x1, x2, h3⟩ := draw' h2 4 (by decide) (by decide)
          obtain ⟨d, e4, z, rfl, hz, hz2⟩ := pick (xs := [.str "add", .str "sub", .str "mod", .str "div"]) x1 (by simpa using x2) (fun d => ∃ z, d = .str z ∧ withN (.str z) = true ∧ PyData.strOk z = true) (by
            intro x hx
            simp only [List.mem_cons, List.not_mem_nil, or_false] at hx
            rcases hx with rfl | rfl | rfl | rfl <;> exact ⟨_, rfl, by decide +kernel, by decide +kernel⟩)
          obtain ⟨v, g4, e5, v1, v2, h4⟩ := draw' h3 4 (by decide) (by decide)
          have d4 : Mi.call T (k + 4 + n) 20 [.st, .int 4] g2 = .ok (.int x) g3 := by rw [show k + 4 + n = k + 3 + n + 1 by omega]; exact e3 _
          have d5 : Mi.call T (k + 4 + n) 20 [.st, .int 4] g3 = .ok (.int v) g4 := by rw [show k + 4 + n = k + 3 + n + 1 by omega]; exact e5 _
          refine ⟨.wth z a v, g4, ?_, by simp [Am.ok, hz, hz2, vr_of v1 v2, a1], by simp only [Am.h]; omega, h4⟩
          simp [d7, n1, n3, e2, d4, e4, d5, Am.d]
        · obtain ⟨x, g3, e3, x1, x2, h3⟩ := draw' h2 10 (by decide) (by decide)
          obtain ⟨d, e4, z, rfl, hz⟩ := pick (xs := [.str "add", .str "sub", .str "mul", .str "and", .str "or", .str "xor", .str "left", .str "right", .str "div", .str "mod"]) x1 (by simpa using x2) (fun d => ∃ z, d = .str z ∧ z ∈ opW) (by
            intro x hx
            simp only [List.mem_cons, List.not_mem_nil, or_false] at hx
            rcases hx with rfl | rfl | rfl | rfl | rfl | rfl | rfl | rfl | rfl | rfl <;> exact ⟨_, rfl, by simp [opW]⟩)
          obtain ⟨w, g4, e5, w1, w2, h4⟩ := word_d (k := k + 2 + n) h3
          have d4 : Mi.call T (k + 4 + n) 20 [.st, .int 10] g2 = .ok (.int x) g3 := by rw [show k + 4 + n = k + 3 + n + 1 by omega]; exact e3 _
          have d5 : Mi.call T (k + 4 + n) 25 [.st] g3 = .ok (.int w) g4 := by rw [show k + 4 + n = k + 2 + n + 2 by omega]; exact e5
          obtain ⟨lr, dm, i1, i2, so, fit⟩ := op_num hz
          refine ⟨.op z a (if (if dm then (1 : Int) else 0) > w % (if lr then 16 else 65536) then (if dm then (1 : Int) else 0) else w % (if lr then 16 else 65536)), g4, ?_, by simp only [Am.ok, fit w w1 w2, so, a1]; rfl, by simp only [Am.h]; omega, h4⟩
          cases lr <;> cases dm <;> simp [d7, n1, n2, n3, e2, d4, e4, d5, i1, i2, beqF c2, Am.d]
end
end K61


set_option Elab.async false
set_option maxRecDepth 10000
set_option maxHeartbeats 8000000
set_option linter.unusedSimpArgs false
set_option linter.unusedVariables false
/-! k61: what is drawn: tests, parts, blocks. -/
namespace K61
open PySem L2 Mi Mi.Pl
section
variable {k : Nat} {g : Gs}
theorem test_d : ∀ (n : Nat) (g : Gs), Ok g → ∀ {s : Int}, 0 ≤ s → s ≤ 2 → ∃ (t : Te) (g' : Gs), Mi.call T (k + 6 + n) 28 [.st, .int (n : Nat), .int s, .bl true] g = .ok t.d g' ∧ t.ok = true ∧ t.h ≤ n + 2 ∧ Ok g'
  | n, g, h, s, hs, hs2 => by
    obtain ⟨p, g1, e1, p1, p2, h1⟩ := draw' h 9 (by decide) (by decide)
    by_cases c1 : 0 < n ∧ 5 < p
    · match n, c1 with
      | n + 1, c1 =>
        obtain ⟨t, g2, e2, t1, t2, h2⟩ := test_d n g1 h1 hs hs2
        rw [show k + 6 + (n + 1) = k + 6 + n + 1 by omega, call_def d_law_test rfl]
        unfold b_law_test
        have n1 : (0 : Int) < ((n : Nat) : Int) + 1 := by omega
        have n3 : ((n : Nat) : Int) + 1 - 1 = ((n : Nat) : Int) := by omega
        have d7 : Mi.call T (k + 6 + n) 20 [.st, .int 9] g = .ok (.int p) g1 := by rw [show k + 6 + n = k + 5 + n + 1 by omega]; exact e1 _
        by_cases c2 : p = 6
        · subst c2
          refine ⟨.not t, g2, ?_, by simpa only [Te.ok] using t1, by simp only [Te.h]; omega, h2⟩
          simp [d7, n1, n3, e2, Te.d]
        · obtain ⟨u, g3, e3, u1, u2, h3⟩ := test_d n g2 h2 hs hs2
          by_cases c3 : p = 7
          · subst c3
            refine ⟨.two "and" t u, g3, ?_, by simp [Te.ok, isTwo, ofS_beq, t1, u1], by simp only [Te.h]; omega, h3⟩
            simp [d7, n1, n3, e2, e3, Te.d]
          · refine ⟨.two "or" t u, g3, ?_, by simp [Te.ok, isTwo, ofS_beq, t1, u1], by simp only [Te.h]; omega, h3⟩
            simp [d7, n1, n3, e2, e3, Te.d, c1.2, beqF c2, beqF c3]
    · obtain ⟨a, g2, e2, a1, a2, h2⟩ := amount_d (k := k + n) 1 g1 h1 hs hs2
      have d2 : Mi.call T (k + 5 + n) 27 [.st, .int 1, .int s, .bl true] g1 = .ok a.d g2 := by rw [show k + 5 + n = k + n + 4 + 1 by omega]; exact e2
      rw [show k + 6 + n = k + 5 + n + 1 by omega, call_def d_law_test rfl]
      unfold b_law_test
      have d7 : Mi.call T (k + 5 + n) 20 [.st, .int 9] g = .ok (.int p) g1 := by rw [show k + 5 + n = k + 4 + n + 1 by omega]; exact e1 _
      have i1 : exS (Mi.call T (k + 5 + n)) (.asg 4 (.call 20 [(.nm 0), (.lit (.int 9))])) [some (.val .st), some (.val (.int (n : Nat))), some (.val (.int s)), some (.val (.bl true)), none, none, none, none] g = .nx [some (.val .st), some (.val (.int (n : Nat))), some (.val (.int s)), some (.val (.bl true)), some (.val (.int p)), none, none, none] g1 := by
        simp [d7, mkCell]
      generalize hB : [S.asg 5 (.call 28 [(.nm 0), (.op .sub (.nm 1) (.lit (.int 1))), (.nm 2), (.nm 3)]),
          S.ife (.cmp .eq (.nm 4) (.lit (.int 6))) [.ret (.tup [(.lit (.str "not")), (.nm 5)])] [],
          S.ret (.tup [(.ite (.cmp .eq (.nm 4) (.lit (.int 7))) (.lit (.str "and")) (.lit (.str "or"))), (.nm 5), (.call 28 [(.nm 0), (.op .sub (.nm 1) (.lit (.int 1))), (.nm 2), (.nm 3)])])] = B
      have i2 : exS (Mi.call T (k + 5 + n)) (.ife (.tand (.cmp .gt (.nm 1) (.lit (.int 0))) (.cmp .gt (.nm 4) (.lit (.int 5)))) B []) [some (.val .st), some (.val (.int (n : Nat))), some (.val (.int s)), some (.val (.bl true)), some (.val (.int p)), none, none, none] g1 = .nx [some (.val .st), some (.val (.int (n : Nat))), some (.val (.int s)), some (.val (.bl true)), some (.val (.int p)), none, none, none] g1 := by
        by_cases c3 : 0 < n
        · have : ¬ (5 < p) := fun z => c1 ⟨c3, z⟩
          simp [c3, this]
        · simp [c3]
      rw [exL_cons]
      show ∃ t g', fin ((exS _ _ [some (.val .st), some (.val (.int (n : Nat))), some (.val (.int s)), some (.val (.bl true)), none, none, none, none] g).seq _) = _ ∧ _
      rw [i1, SR.seq_nx, exL_cons, i2, SR.seq_nx]
      -- the name
      have ix : ∃ q : Int, 0 ≤ q ∧ q < 5 ∧ (if 4 < p then p - 5 else p) = q := ⟨_, by split <;> omega, by split <;> omega, rfl⟩
      obtain ⟨q, q1, q2, q3⟩ := ix
      obtain ⟨d, e4, z, rfl, hz⟩ := pick (xs := [.str "eq", .str "more", .str "bits", .str "same", .str "above"]) q1 (by simpa using q2) (fun d => ∃ z, d = .str z ∧ (isCmp z = true ∨ isCmv z = true)) (by
        intro x hx
        simp only [List.mem_cons, List.not_mem_nil, or_false] at hx
        rcases hx with rfl | rfl | rfl | rfl | rfl
        · exact ⟨_, rfl, .inl (by simp [isCmp])⟩
        · exact ⟨_, rfl, .inl (by simp [isCmp])⟩
        · exact ⟨_, rfl, .inl (by simp [isCmp])⟩
        · exact ⟨_, rfl, .inr (by simp [isCmv])⟩
        · exact ⟨_, rfl, .inr (by simp [isCmv])⟩)
      have i3 : exS (Mi.call T (k + 5 + n)) (.asg 6 (.call 27 [(.nm 0), (.lit (.int 1)), (.nm 2), (.nm 3)])) [some (.val .st), some (.val (.int (n : Nat))), some (.val (.int s)), some (.val (.bl true)), some (.val (.int p)), none, none, none] g1 = .nx [some (.val .st), some (.val (.int (n : Nat))), some (.val (.int s)), some (.val (.bl true)), some (.val (.int p)), none, some (.val a.d), none] g2 := by
        simp [d2]
      have i4 : exS (Mi.call T (k + 5 + n)) (.asg 7 (.ix (.tup [(.lit (.str "eq")), (.lit (.str "more")), (.lit (.str "bits")), (.lit (.str "same")), (.lit (.str "above"))]) (.ite (.cmp .gt (.nm 4) (.lit (.int 4))) (.op .sub (.nm 4) (.lit (.int 5))) (.nm 4)))) [some (.val .st), some (.val (.int (n : Nat))), some (.val (.int s)), some (.val (.bl true)), some (.val (.int p)), none, some (.val a.d), none] g2 = .nx [some (.val .st), some (.val (.int (n : Nat))), some (.val (.int s)), some (.val (.bl true)), some (.val (.int p)), none, some (.val a.d), some (.val (.str z))] g2 := by
        by_cases c4 : 4 < p
        · rw [if_pos c4] at q3
          subst q3
          simp [c4, e4, mkCell]
        · rw [if_neg c4] at q3
          subst q3
          simp [c4, e4, mkCell]
      rw [exL_cons, i3, SR.seq_nx, exL_cons, i4, SR.seq_nx]
      rcases hz with hz | hz
      · -- with a number
        have z1 : (z == "same") = false ∧ (z == "above") = false := by rcases cmp_cases hz with rfl | rfl | rfl <;> simp [ofS_beq]
        obtain ⟨x, g3, e5, x1, x2, h3⟩ := draw' h2 3 (by decide) (by decide)
        have d3 : Mi.call T (k + 5 + n) 20 [.st, .int 3] g2 = .ok (.int x) g3 := by rw [show k + 5 + n = k + 4 + n + 1 by omega]; exact e5 _
        by_cases c5 : 0 < x
        · obtain ⟨y, g4, e6, y1, y2, h4⟩ := draw' h3 4 (by decide) (by decide)
          have d4 : Mi.call T (k + 5 + n) 20 [.st, .int 4] g3 = .ok (.int y) g4 := by rw [show k + 5 + n = k + 4 + n + 1 by omega]; exact e6 _
          refine ⟨.cmp z a y, g4, ?_, by simp only [Te.ok, hz, wd_of y1 (by omega : y ≤ 65535), a1]; rfl, by simp only [Te.h]; omega, h4⟩
          simp [z1.1, z1.2, d3, c5, d4, Te.d]
        · obtain ⟨y, g4, e6, y1, y2, h4⟩ := word_d (k := k + 3 + n) h3
          have d4 : Mi.call T (k + 5 + n) 25 [.st] g3 = .ok (.int y) g4 := by rw [show k + 5 + n = k + 3 + n + 2 by omega]; exact e6
          refine ⟨.cmp z a y, g4, ?_, by simp only [Te.ok, hz, wd_of y1 y2, a1]; rfl, by simp only [Te.h]; omega, h4⟩
          simp [z1.1, z1.2, d3, c5, d4, Te.d]
      · have z1 : ((z == "same") = true) ∨ ((z == "same") = false ∧ (z == "above") = true) := by rcases cmv_cases hz with rfl | rfl <;> simp [ofS_beq]
        obtain ⟨y, g4, e6, y1, y2, h4⟩ := draw' h2 4 (by decide) (by decide)
        have d4 : Mi.call T (k + 5 + n) 20 [.st, .int 4] g2 = .ok (.int y) g4 := by rw [show k + 5 + n = k + 4 + n + 1 by omega]; exact e6 _
        refine ⟨.cmv z a y, g4, ?_, by simp only [Te.ok, hz, vr_of y1 y2, a1]; rfl, by simp only [Te.h]; omega, h4⟩
        rcases z1 with z1 | ⟨z1, z2⟩
        · simp [z1, d4, Te.d]
        · simp [z1, z2, d4, Te.d]
end
end K61


set_option Elab.async false
set_option maxRecDepth 10000
set_option maxHeartbeats 8000000
set_option linter.unusedSimpArgs false
set_option linter.unusedVariables false
/-! k61: what is drawn: parts, blocks. -/
namespace K61
open PySem L2 Mi Mi.Pl
def ofL : List Pt → Bk
  | [] => .nil
  | p :: l => .cons p (ofL l)
theorem ofL_ds : ∀ l : List Pt, (ofL l).ds = l.map Pt.d
  | [] => rfl
  | p :: l => by rw [ofL, Bk.ds, ofL_ds l]; rfl
theorem ofL_ok : ∀ {l : List Pt}, (∀ p ∈ l, p.ok = true) → (ofL l).ok = true
  | [], _ => rfl
  | p :: l, h => by rw [ofL, Bk.ok, h p List.mem_cons_self, ofL_ok fun q hq => h q (List.mem_cons_of_mem _ hq)]; rfl
theorem ofL_h {m : Nat} : ∀ {l : List Pt}, (∀ p ∈ l, p.h ≤ m) → (ofL l).h ≤ m + 1
  | [], _ => by simp [ofL, Bk.h]
  | p :: l, h => by
    have h1 := h p List.mem_cons_self
    have h2 := ofL_h fun q hq => h q (List.mem_cons_of_mem _ hq)
    rw [ofL, Bk.h]
    omega
/-- a few right lines -/
structure Lines (l : List Pt) (m : Nat) : Prop where
  ok : ∀ p ∈ l, p.ok = true
  h : ∀ p ∈ l, p.h ≤ m
theorem Lines.app {l m : List Pt} {n : Nat} (a : Lines l n) (b : Lines m n) : Lines (l ++ m) n :=
  ⟨fun p hp => (List.mem_append.mp hp).elim (a.ok p) (b.ok p), fun p hp => (List.mem_append.mp hp).elim (a.h p) (b.h p)⟩
theorem Lines.one {p : Pt} {n : Nat} (a : p.ok = true) (b : p.h ≤ n) : Lines [p] n :=
  ⟨fun q hq => by rw [List.mem_singleton.mp hq]; exact a, fun q hq => by rw [List.mem_singleton.mp hq]; exact b⟩
section
variable {k : Nat} {g : Gs}
theorem evJ_rngS {c : CallF} {ρ : Mi.Env} {g1 : Gs} {a : E} {n : Nat} (h : ev c a ρ g = .ok (.int n) g1) (hn : n ≤ 1000000) : evJ c (.irng1 a) ρ g = .ok ((List.range n).map fun (k : Nat) => D.int k) g1 := by
  have hf : fits (n : Int) = true := fits_nat (by omega)
  unfold evJ
  rw [h, R.bind_ok]
  simp only
  rw [if_pos hf, Int.toNat_natCast]
  unfold rangeD
  simp
/-- a block, of parts -/
theorem block_of {n : Nat} (hp : ∀ (g : Gs), Ok g → ∀ {s : Int}, 0 ≤ s → s ≤ 2 → ∃ (l : List Pt) (g' : Gs), Mi.call T (k + 1) 29 [.st, .int (n : Nat), .int s, .bl true] g = .ok (.tup (l.map Pt.d)) g' ∧ l.length ≤ 2 ∧ Lines l (n + 5) ∧ Ok g')
    (h : Ok g) {m : Nat} (hm : m ≤ 9) {s : Int} (hs : 0 ≤ s) (hs2 : s ≤ 2) : ∃ (l : List Pt) (g' : Gs), Mi.call T (k + 2) 30 [.st, .int (m : Nat), .int (n : Nat), .int s, .bl true] g = .ok (.tup (l.map Pt.d)) g' ∧ l.length ≤ 2 * m ∧ Lines l (n + 5) ∧ Ok g' := by
  obtain ⟨w, g1, e1, w1, w2, h1⟩ := draw' h ((m : Int) + 1) (by omega) (by omega)
  obtain ⟨j, rfl⟩ := Int.eq_ofNat_of_zero_le w1
  rw [call_def d_law_block rfl]
  unfold b_law_block
  have i1 : exS (Mi.call T (k + 1)) (.asg 5 (.tup [])) [some (.val .st), some (.val (.int (m : Nat))), some (.val (.int (n : Nat))), some (.val (.int s)), some (.val (.bl true)), none, none] g = .nx [some (.val .st), some (.val (.int (m : Nat))), some (.val (.int (n : Nat))), some (.val (.int s)), some (.val (.bl true)), some (.val (.tup [])), none] g := by simp
  obtain ⟨ρ', g', e2, l, c6, rfl, h3, h4, h5⟩ := forS_items (c := Mi.call T (k + 1)) (i := 6) (it := .irng1 (.call 20 [(.nm 0), (.op .add (.nm 1) (.lit (.int 1)))]))
    (body := [.asg 5 (.op .add (.nm 5) (.call 29 [(.nm 0), (.nm 2), (.nm 3), (.nm 4)]))]) (g := g) (g1 := g1)
    (ρ0 := [some (.val .st), some (.val (.int (m : Nat))), some (.val (.int (n : Nat))), some (.val (.int s)), some (.val (.bl true)), some (.val (.tup [])), none]) ((List.range j).map fun (k : Nat) => D.int k)
    (fun i ρ g' => ∃ (l : List Pt) (c6 : Option Cell), ρ = [some (.val .st), some (.val (.int (m : Nat))), some (.val (.int (n : Nat))), some (.val (.int s)), some (.val (.bl true)), some (.val (.tup (l.map Pt.d))), c6] ∧ l.length ≤ 2 * i ∧ Lines l (n + 5) ∧ Ok g')
    ⟨[], none, rfl, by simp, ⟨by simp, by simp⟩, h1⟩ (evJ_rngS (by simp [e1]) (by omega)) fun i hi ρ g2 ⟨l, c6, q1, q2, q3, q4⟩ => by
      subst q1
      obtain ⟨l2, g3, e3, l3, l4, h3⟩ := hp g2 q4 hs hs2
      have hi : i < j := by simpa using hi
      have sl : l.length + l2.length ≤ sizeLine := sizeLine_ge (by omega)
      refine ⟨_, g3, ?_, l ++ l2, some (.val (.int i)), rfl, by rw [List.length_append]; omega, q3.app l4, h3⟩
      simp [e3, sl, mkCell]
  rw [exL_cons]
  show ∃ l g', fin ((exS _ _ [some (.val .st), some (.val (.int (m : Nat))), some (.val (.int (n : Nat))), some (.val (.int s)), some (.val (.bl true)), none, none] g).seq _) = _ ∧ _
  rw [i1, SR.seq_nx, exL_cons, e2, SR.seq_nx]
  refine ⟨l, g', by simp, ?_, h4, h5⟩
  simp at h3
  omega
theorem Lines.bk {l : List Pt} {n : Nat} (a : Lines l n) (hl : l.length ≤ 20) : (ofL l).ok = true ∧ (ofL l).ds.length ≤ 20 ∧ (ofL l).h ≤ n + 1 ∧ (ofL l).ds = l.map Pt.d :=
  ⟨ofL_ok a.ok, by rw [ofL_ds, List.length_map]; exact hl, ofL_h a.h, ofL_ds l⟩
def partR : List Mi.S := b_law_part.drop 2
def pE (n : Nat) (s p v : Int) : Mi.Env := [some (.val .st), some (.val (.int (n : Nat))), some (.val (.int s)), some (.val (.bl true)), some (.val (.int p)), some (.val (.int v)), none, none, none, none, none]
theorem part_tail {n : Nat} (h : Ok g) {s : Int} (hs : 0 ≤ s) (hs2 : s ≤ 2) {p v : Int} (hp : 6 ≤ p) (hv : vr v = true) : ∃ (l : List Pt) (g' : Gs), fin (exL (Mi.call T (k + 9)) partR (pE n s p v) g) = .ok (.tup (l.map Pt.d)) g' ∧ l.length ≤ 2 ∧ Lines l (n + 5) ∧ Ok g' := by
  have p1 : ¬ p < 4 := by omega
  have p2 : ¬ p < 6 := by omega
  obtain ⟨a, g2, e2, a1, a2, h2⟩ := amount_d (k := k + 3) 2 g h hs hs2
  have e2' : Mi.call T (k + 9) 27 [.st, .int 2, .int s, .bl true] g = .ok a.d g2 := e2
  unfold partR b_law_part pE
  by_cases c1 : p = 6
  · subst c1
    exact ⟨[.gv a], g2, by simp [e2', Pt.d], by simp, Lines.one (by simpa only [Pt.ok] using a1) (by simp only [Pt.h]; omega), h2⟩
  · by_cases c2 : p = 7
    · subst c2
      obtain ⟨w, g3, e3, w1, w2, h3⟩ := draw' h 3 (by decide) (by decide)
      exact ⟨[.lt v (.num (1 + w))], g3, by simp [e3, Pt.d, Am.d], by simp, Lines.one (by simp only [Pt.ok, Am.ok, hv, wd_of (by omega : 0 ≤ 1 + w) (by omega)]; rfl) (by simp only [Pt.h, Am.h]; omega), h3⟩
    · exact ⟨[.lt v a], g2, by simp [e2', Pt.d, p1, p2, beqF c1, beqF c2], by simp, Lines.one (by simp only [Pt.ok, hv, a1]; rfl) (by simp only [Pt.h]; omega), h2⟩
theorem part_d : ∀ (n : Nat) (g : Gs), Ok g → ∀ {s : Int}, 0 ≤ s → s ≤ 2 → ∃ (l : List Pt) (g' : Gs), Mi.call T (k + 10 + 2 * n) 29 [.st, .int (n : Nat), .int s, .bl true] g = .ok (.tup (l.map Pt.d)) g' ∧ l.length ≤ 2 ∧ Lines l (n + 5) ∧ Ok g' := by
  intro n
  induction n with
  | zero =>
    intro g h s hs hs2
    obtain ⟨q, g1, e1, q1, q2, h1⟩ := draw' h 5 (by decide) (by decide)
    obtain ⟨v, g2, e2, v1, v2, h2⟩ := draw' h1 4 (by decide) (by decide)
    obtain ⟨l, g3, e3, r⟩ := part_tail (k := k) (n := 0) h2 hs hs2 (p := 6 + q) (v := v) (by omega) (vr_of v1 v2)
    refine ⟨l, g3, ?_, r⟩
    show Mi.call T (k + 9 + 1) 29 _ g = _
    rw [call_def d_law_part rfl, ← e3]
    unfold partR b_law_part pE
    simp [e1, e2, mkCell]
  | succ n ih =>
    intro g h s hs hs2
    obtain ⟨p, g1, e1, p1, p2, h1⟩ := draw' h 11 (by decide) (by decide)
    obtain ⟨v, g2, e2, v1, v2, h2⟩ := draw' h1 4 (by decide) (by decide)
    have hv := vr_of v1 v2
    rw [show k + 10 + 2 * (n + 1) = k + 2 + 2 * n + 9 + 1 by omega]
    have hd : Mi.call T (k + 2 + 2 * n + 9 + 1) 29 [.st, .int ((n + 1 : Nat)), .int s, .bl true] g = fin (exL (Mi.call T (k + 2 + 2 * n + 9)) partR (pE (n + 1) s p v) g2) := by
      rw [call_def d_law_part rfl]
      unfold partR b_law_part pE
      have n1 : (0 : Int) < ((n : Nat) : Int) + 1 := by omega
      simp [e1, e2, mkCell, n1]
    rw [hd]
    have n3 : ((n : Nat) : Int) + 1 - 1 = ((n : Nat) : Int) := by omega
    have blk : ∀ (g : Gs), Ok g → ∀ (m : Nat), m ≤ 9 → ∀ s : Int, 0 ≤ s → s ≤ 2 → ∃ (l : List Pt) (g' : Gs), Mi.call T (k + 2 + 2 * n + 9) 30 [.st, .int (m : Nat), .int (n : Nat), .int s, .bl true] g = .ok (.tup (l.map Pt.d)) g' ∧ l.length ≤ 2 * m ∧ Lines l (n + 5) ∧ Ok g' := fun g h m hm s hs hs2 => by
      have := block_of (k := k + 9 + 2 * n) (n := n) (fun g h s hs hs2 => by
        obtain ⟨l, g', e, r⟩ := ih g h hs hs2
        exact ⟨l, g', by rw [show k + 9 + 2 * n + 1 = k + 10 + 2 * n by omega]; exact e, r⟩) h hm hs hs2
      rw [show k + 9 + 2 * n + 2 = k + 2 + 2 * n + 9 by omega] at this
      exact this
    by_cases c6 : 6 ≤ p
    · exact part_tail (k := k + 2 + 2 * n) h2 hs hs2 c6 hv
    · by_cases c4 : p < 4
      · obtain ⟨w, g3, e3, w1, w2, h3⟩ := draw' h2 2 (by decide) (by decide)
        by_cases c2 : p < 2
        · have mx : 0 ≤ (if w + 1 > s then w + 1 else s) ∧ (if w + 1 > s then w + 1 else s) ≤ 2 := by constructor <;> split <;> omega
          obtain ⟨l1, g4, e4, l2, l3, h4⟩ := blk g3 h3 3 (by decide) _ mx.1 mx.2
          obtain ⟨m1, g5, e5, m2, m3, h5⟩ := blk g4 h4 2 (by decide) s hs hs2
          obtain ⟨x1, x2, x3, x4⟩ := l3.bk (by omega)
          obtain ⟨y1, y2, y3, y4⟩ := m3.bk (by omega)
          have e4' : Mi.call T (k + 2 + 2 * n + 9) 30 [.st, .int 3, .int (n : Nat), .int (if s < w + 1 then w + 1 else s), .bl true] g3 = .ok (.tup (l1.map Pt.d)) g4 := e4
          have e5' : Mi.call T (k + 2 + 2 * n + 9) 30 [.st, .int 2, .int (n : Nat), .int s, .bl true] g4 = .ok (.tup (m1.map Pt.d)) g5 := e5
          refine ⟨[.ife (.cmp "more" .len w) (ofL l1) (ofL m1)], g5, ?_, by simp, Lines.one ?_ ?_, h5⟩
          · unfold partR b_law_part pE
            simp [c4, c2, e3, n3, e4', e5', Pt.d, Te.d, Am.d, x4, y4, mkCell]
          · simp only [Pt.ok, Te.ok, Am.ok, x1, y1, wd_of w1 (by omega : w ≤ 65535)]; simp [x2, y2, isCmp, ofS_beq]
          · simp only [Pt.h, Te.h, Am.h]; omega
        · obtain ⟨t, g3', e3', t1, t2, h3'⟩ := test_d (k := k + 3 + 2 * n) 2 g3 h3 hs hs2
          have e3'' : Mi.call T (k + 2 + 2 * n + 9) 28 [.st, .int 2, .int s, .bl true] g3 = .ok t.d g3' := by rw [show k + 2 + 2 * n + 9 = k + 3 + 2 * n + 6 + 2 by omega]; exact e3'
          obtain ⟨l1, g4, e4, l2, l3, h4⟩ := blk g3' h3' 3 (by decide) s hs hs2
          obtain ⟨m1, g5, e5, m2, m3, h5⟩ := blk g4 h4 2 (by decide) s hs hs2
          obtain ⟨x1, x2, x3, x4⟩ := l3.bk (by omega)
          obtain ⟨y1, y2, y3, y4⟩ := m3.bk (by omega)
          have e4' : Mi.call T (k + 2 + 2 * n + 9) 30 [.st, .int 3, .int (n : Nat), .int s, .bl true] g3' = .ok (.tup (l1.map Pt.d)) g4 := e4
          have e5' : Mi.call T (k + 2 + 2 * n + 9) 30 [.st, .int 2, .int (n : Nat), .int s, .bl true] g4 = .ok (.tup (m1.map Pt.d)) g5 := e5
          refine ⟨[.ife t (ofL l1) (ofL m1)], g5, ?_, by simp, Lines.one ?_ ?_, h5⟩
          · unfold partR b_law_part pE
            simp [c4, c2, e3, e3'', n3, e4', e5', Pt.d, x4, y4, mkCell]
          · simp only [Pt.ok, t1, x1, y1]; simp [x2, y2]
          · simp only [Pt.h]; omega
      · have c6' : p < 6 := by omega
        obtain ⟨w, g3, e3, w1, w2, h3⟩ := draw' h2 3 (by decide) (by decide)
        obtain ⟨a, g4, e4, a1, a2, h4⟩ := leaf_d (k := k + 2 + 2 * n + 6) h3 hs hs2
        have e4' : Mi.call T (k + 2 + 2 * n + 9) 26 [.st, .int s, .bl true] g3 = .ok a.d g4 := e4
        obtain ⟨x, g5, e5, x1, x2, h5⟩ := draw' h4 3 (by decide) (by decide)
        obtain ⟨d, e6, b, rfl, b1, b2⟩ := pick (xs := [Am.d (.num (1 + w)), Am.d .len, Am.d (.op "mod" a 4)]) x1 (by simpa using x2) (fun d => ∃ b : Am, d = b.d ∧ b.ok = true ∧ b.h ≤ 1) (by
          intro y hy
          simp only [List.mem_cons, List.not_mem_nil, or_false] at hy
          rcases hy with rfl | rfl | rfl
          · exact ⟨_, rfl, by simp only [Am.ok]; exact wd_of (by omega) (by omega), by simp [Am.h]⟩
          · exact ⟨_, rfl, rfl, by simp [Am.h]⟩
          · exact ⟨_, rfl, by simp only [Am.ok, a1, Bool.and_true, Bool.and_eq_true]; exact ⟨by decide +kernel, by decide +kernel⟩, by simp only [Am.h]; omega⟩)
        simp only [Am.d] at e6
        obtain ⟨m1, g6, e7, m2, m3, h6⟩ := blk g5 h5 2 (by decide) s hs hs2
        obtain ⟨y1, y2, y3, y4⟩ := m3.bk (by omega)
        have e7' : Mi.call T (k + 2 + 2 * n + 9) 30 [.st, .int 2, .int (n : Nat), .int s, .bl true] g5 = .ok (.tup (m1.map Pt.d)) g6 := e7
        obtain ⟨z, g7, e8, z1, z2, h7⟩ := draw' h6 4 (by decide) (by decide)
        have lpl : (Pt.lp v (ofL m1)).ok = true ∧ (Pt.lp v (ofL m1)).h ≤ n + 1 + 5 := ⟨by simp only [Pt.ok, hv, y1]; simp [y2], by simp only [Pt.h]; omega⟩
        have ltl : (Pt.lt v b).ok = true ∧ (Pt.lt v b).h ≤ n + 1 + 5 := ⟨by simp only [Pt.ok, hv, b1]; rfl, by simp only [Pt.h]; omega⟩
        have zz : z / 3 = 0 ∨ z / 3 = 1 := by omega
        have c0 : ∀ u w : D, cutD [u, w] (some 0) none = [u, w] := fun u w => by rw [show (0 : Int) = ((0 : Nat) : Int) from rfl, cutD_drop]; rfl
        have c1 : ∀ u w : D, cutD [u, w] (some 1) none = [w] := fun u w => by rw [show (1 : Int) = ((1 : Nat) : Int) from rfl, cutD_drop]; rfl
        rcases zz with zz | zz
        · refine ⟨[.lt v b, .lp v (ofL m1)], g7, ?_, by simp, (Lines.one ltl.1 ltl.2).app (Lines.one lpl.1 lpl.2), h7⟩
          unfold partR b_law_part pE
          simp [c4, c6', e3, e4', e5, e6, n3, e7', e8, zz, Pt.d, y4, mkCell, slD, partD, c0]
        · refine ⟨[.lp v (ofL m1)], g7, ?_, by simp, Lines.one lpl.1 lpl.2, h7⟩
          unfold partR b_law_part pE
          simp [c4, c6', e3, e4', e5, e6, n3, e7', e8, zz, Pt.d, y4, mkCell, slD, partD, c1]
theorem block_d (n : Nat) (h : Ok g) {m : Nat} (hm : m ≤ 9) {s : Int} (hs : 0 ≤ s) (hs2 : s ≤ 2) : ∃ (l : List Pt) (g' : Gs), Mi.call T (k + 11 + 2 * n) 30 [.st, .int (m : Nat), .int (n : Nat), .int s, .bl true] g = .ok (.tup (l.map Pt.d)) g' ∧ l.length ≤ 2 * m ∧ Lines l (n + 5) ∧ Ok g' := by
  have := block_of (k := k + 9 + 2 * n) (n := n) (fun g h s hs hs2 => by
    obtain ⟨l, g', e, r⟩ := part_d (k := k) n g h hs hs2
    exact ⟨l, g', by rw [show k + 9 + 2 * n + 1 = k + 10 + 2 * n by omega]; exact e, r⟩) h hm hs hs2
  rw [show k + 9 + 2 * n + 2 = k + 11 + 2 * n by omega] at this
  exact this
end
end K61


set_option Elab.async false
set_option maxRecDepth 10000
set_option maxHeartbeats 8000000
set_option linter.unusedSimpArgs false
set_option linter.unusedVariables false
/-! k61: a source is drawn. -/
namespace K61
open PySem L2 Mi Mi.Pl
/-- a loop that may answer -/
theorem forL_or {step : D → Mi.Env → Gs → SR} (I : Mi.Env → Gs → Prop) (Q : SR → Prop) (hQ : ∀ r f, Q r → SR.turn r f = r) : ∀ (xs : List D) (ρ : Mi.Env) (g : Gs), I ρ g → (∀ x ∈ xs, ∀ ρ g, I ρ g → (∃ ρ' g', step x ρ g = .nx ρ' g' ∧ I ρ' g') ∨ Q (step x ρ g)) →
    (∃ ρ' g', forL step xs ρ g = .nx ρ' g' ∧ I ρ' g') ∨ Q (forL step xs ρ g)
  | [], ρ, g, h0, _ => .inl ⟨ρ, g, rfl, h0⟩
  | x :: xs, ρ, g, h0, h => by
    rw [forL_cons]
    rcases h x List.mem_cons_self ρ g h0 with ⟨ρ1, g1, e, h1⟩ | hq
    · rw [e, SR.turn_nx]
      exact forL_or I Q hQ xs ρ1 g1 h1 fun y hy => h y (List.mem_cons_of_mem _ hy)
    · rw [hQ _ _ hq]
      exact .inr hq
theorem good_of {b : Bk} (h1 : b.ok = true) (h2 : b.ds.length ≤ 20) (h3 : b.h ≤ 13) (h4 : b.c ≤ 200) : Good b b.d := good_self h1 h2 h3 h4
section
variable {k : Nat} {g : Gs}
theorem source_d (h : Ok g) : ∃ (b : Bk) (g' : Gs), Mi.call T (k + 20) 31 [.st, .int 6, .bl true, .int 200] g = .ok b.d g' ∧ Good b b.d ∧ Ok g' := by
  rw [call_def d_law_source rfl]
  unfold b_law_source
  generalize hb : [S.asg 5 (.tup [(.lit (.str "give")), (.tup [(.lit (.str "with")), (.lit (.str "add")), (.call 27 [(.nm 0), (.lit (.int 1)), (.lit (.int 0)), (.nm 2)]), (.call 20 [(.nm 0), (.lit (.int 4))])])]),
    S.asg 6 (.op .add (.call 30 [(.nm 0), (.op .add (.nm 1) (.lit (.int 1))), (.lit (.int 2)), (.lit (.int 0)), (.nm 2)]) (.sl (.tup [(.nm 5)]) (.lit .non) (.part (.call 20 [(.nm 0), (.lit (.int 4))])))),
    S.ife (.cmp .le (.call 24 [(.nm 6)]) (.nm 3)) [.ret (.nm 6)] []] = body
  have turn : ∀ (x : D) (c4 c5 c6 : Option Cell) (g : Gs), Ok g → (∃ (d4 d5 d6 : Option Cell) (g' : Gs), exL (Mi.call T (k + 19)) body [some (.val .st), some (.val (.int 6)), some (.val (.bl true)), some (.val (.int 200)), some (.val x), c5, c6] g = .nx [some (.val .st), some (.val (.int 6)), some (.val (.bl true)), some (.val (.int 200)), d4, d5, d6] g' ∧ Ok g')
      ∨ ∃ (b : Bk) (g' : Gs), exL (Mi.call T (k + 19)) body [some (.val .st), some (.val (.int 6)), some (.val (.bl true)), some (.val (.int 200)), some (.val x), c5, c6] g = .rt b.d g' ∧ Good b b.d ∧ Ok g' := by
    intro x c4 c5 c6 g h
    obtain ⟨a, g1, e1, a1, a2, h1⟩ := amount_d (k := k + 14) 1 g h (s := 0) (by decide) (by decide)
    have e1' : Mi.call T (k + 19) 27 [.st, .int 1, .int 0, .bl true] g = .ok a.d g1 := e1
    obtain ⟨v, g2, e2, v1, v2, h2⟩ := draw' h1 4 (by decide) (by decide)
    obtain ⟨l, g3, e3, l1, l2, h3⟩ := block_d (k := k + 4) 2 h2 (m := 7) (by decide) (s := 0) (by decide) (by decide)
    have e3' : Mi.call T (k + 19) 30 [.st, .int 7, .int 2, .int 0, .bl true] g2 = .ok (.tup (l.map Pt.d)) g3 := e3
    obtain ⟨w, g4, e4, w1, w2, h4⟩ := draw' h3 4 (by decide) (by decide)
    have lastOk : (Pt.gv (.wth "add" a v)).ok = true ∧ (Pt.gv (.wth "add" a v)).h ≤ 7 := by
      refine ⟨?_, by simp only [Pt.h, Am.h]; omega⟩
      simp only [Pt.ok, Am.ok, a1, vr_of v1 v2, Bool.and_true, Bool.and_eq_true]
      exact ⟨by decide +kernel, by decide +kernel⟩
    have tk : ∀ m : Nat, Lines (([Pt.gv (.wth "add" a v)] : List Pt).take m) 7 := fun m => ⟨fun p hp => by
      rw [List.mem_singleton.mp (List.mem_of_mem_take hp)]; exact lastOk.1, fun p hp => by
      rw [List.mem_singleton.mp (List.mem_of_mem_take hp)]; exact lastOk.2⟩
    have L := l2.app (tk w.toNat)
    have tl : (([Pt.gv (.wth "add" a v)] : List Pt).take w.toNat).length ≤ 1 := by rw [List.length_take]; simp; omega
    obtain ⟨x1, x2, x3, x4⟩ := L.bk (by rw [List.length_append]; omega)
    generalize hbk : ofL (l ++ ([Pt.gv (.wth "add" a v)] : List Pt).take w.toNat) = b at x1 x2 x3 x4
    have bd : b.d = .tup (l.map Pt.d ++ (([Pt.gv (.wth "add" a v)] : List Pt).take w.toNat).map Pt.d) := by unfold Bk.d; rw [x4, List.map_append]
    have cu : cutD [D.tup [.str "give", .tup [.str "with", .str "add", a.d, .int v]]] none (some w) = (([Pt.gv (.wth "add" a v)] : List Pt).take w.toNat).map Pt.d := by
      rw [cutD_takeI _ _ w1, List.map_take]
      rfl
    have dl : dpt b.d ≤ 17 := by have := bk_dpt b; omega
    have p1 := lp_ok (k := k + 1) (g := g4) 17 b.d dl (bk_fine x1 (by omega))
    rw [bk_cD] at p1
    have p1' : Mi.call T (k + 19) 24 [b.d] g4 = .ok (.int (b.c : Nat)) g4 := p1
    rw [bd] at p1'
    have sl : l.length + (([Pt.gv (.wth "add" a v)] : List Pt).take w.toNat).length ≤ sizeLine := sizeLine_ge (by omega)
    subst hb
    generalize (([Pt.gv (.wth "add" a v)] : List Pt).take w.toNat) = tkl at *
    by_cases hc : b.c ≤ 200
    · right
      refine ⟨b, g4, ?_, good_of x1 x2 (by omega) hc, h4⟩
      have hc2 : ((b.c : Nat) : Int) ≤ 200 := by omega
      rw [bd]
      simp [e1', e2, e3', e4, slD, partD, cu, sl, p1', hc2, hc, mkCell]
    · left
      have hc2 : ¬ ((b.c : Nat) : Int) ≤ 200 := by omega
      refine ⟨some (.val x), some (.val (.tup [.str "give", .tup [.str "with", .str "add", a.d, .int v]])), some (.val (.tup (l.map Pt.d ++ tkl.map Pt.d))), g4, ?_, h4⟩
      simp [e1', e2, e3', e4, slD, partD, cu, sl, p1', hc2, hc, mkCell]
  have loop := forL_or (step := fun x ρ g => match bindTg ρ (.nm 4) x with | some ρ1 => exL (Mi.call T (k + 19)) body ρ1 g | none => .no)
    (fun ρ g => Ok g ∧ ∃ c4 c5 c6, ρ = [some (.val .st), some (.val (.int 6)), some (.val (.bl true)), some (.val (.int 200)), c4, c5, c6])
    (fun r => ∃ (b : Bk) (g' : Gs), r = .rt b.d g' ∧ Good b b.d ∧ Ok g') (fun r f ⟨b, g', e, _⟩ => by rw [e]; rfl) ((List.range 5).map fun (k : Nat) => D.int k) [some (.val .st), some (.val (.int 6)), some (.val (.bl true)), some (.val (.int 200)), none, none, none] g
    ⟨h, none, none, none, rfl⟩ fun x _ ρ g ⟨hg, c4, c5, c6, e⟩ => by
      subst e
      rcases turn x c4 c5 c6 g hg with ⟨c4', c5', c6', g', e, hg'⟩ | ⟨b, g', e, q⟩
      · exact .inl ⟨_, g', e, hg', c4', c5', c6', rfl⟩
      · exact .inr ⟨b, g', e, q⟩
  have fe : exS (Mi.call T (k + 19)) (.forS (.nm 4) (.irng1 (.lit (.int 5))) body) [some (.val .st), some (.val (.int 6)), some (.val (.bl true)), some (.val (.int 200)), none, none, none] g = forL (fun x ρ g => match bindTg ρ (.nm 4) x with | some ρ1 => exL (Mi.call T (k + 19)) body ρ1 g | none => .no) ((List.range 5).map fun (k : Nat) => D.int k) [some (.val .st), some (.val (.int 6)), some (.val (.bl true)), some (.val (.int 200)), none, none, none] g := by
    rw [exS, evJ_rng1 (n := 5) (by simp) (by decide), R.st_ok]
    all_goals rfl
  rw [exL_cons]
  show ∃ b g', fin ((exS _ _ [some (.val .st), some (.val (.int 6)), some (.val (.bl true)), some (.val (.int 200)), none, none, none] g).seq _) = _ ∧ _
  rw [fe]
  rcases loop with ⟨ρ', g', e, hg', c4, c5, c6, rfl⟩ | ⟨b, g', e, q⟩
  · rw [e, SR.seq_nx]
    obtain ⟨w, g2, e2, w1, w2, h2⟩ := draw' hg' 3 (by decide) (by decide)
    refine ⟨ofL [.ife (.cmp "more" .len w) (ofL [.gv (.byte 0)]) (ofL []), .gv (.num 3)], g2, ?_, good_of ?_ ?_ ?_ ?_, h2⟩
    · simp [e2, Bk.d, ofL, Bk.ds, Pt.d, Te.d, Am.d]
    · have hw := wd_of w1 (by omega : w ≤ 65535)
      simp [ofL, Bk.ok, Pt.ok, Te.ok, Am.ok, hw, isCmp, ofS_beq, Bk.ds, (by decide : wd 0 = true), (by decide : wd 3 = true)]
    · simp [ofL, Bk.ds]
    · simp [ofL, Bk.h, Pt.h, Te.h, Am.h]
    · simp [ofL, Bk.c, Pt.c, Te.c, Am.c]
  · rw [e]
    exact ⟨b, g', rfl, q⟩
end
end K61


set_option Elab.async false
set_option maxRecDepth 10000
set_option maxHeartbeats 8000000
set_option linter.unusedSimpArgs false
set_option linter.unusedVariables false
/-! k61: wrong rows; what stands around (printed by mkwrong.py). -/
namespace K61
open PySem L2 Mi Mi.Pl
def Bd (kd : Kd) (d : D) : Prop := ∀ dp, W (kd, d, dp) = none
theorem tots_none {f : It → Option Nat} : ∀ {l : List It} {x : It}, x ∈ l → f x = none → tots f l = none
  | y :: l, x, h, e => by
    rw [tots_cons]
    rcases List.mem_cons.mp h with rfl | h
    · rw [e]; rfl
    · rw [tots_none h e, addO_none]
theorem bd_leaf {kd : Kd} {d : D} (h : partsP kd d = none) : Bd kd d := fun dp => by rw [W_eq, h]
theorem bd_kid {kd : Kd} {d : D} {ps : List (Kd × D)} (h : partsP kd d = some ps) {q : Kd × D} (hq : q ∈ ps) (hb : Bd q.1 q.2) : Bd kd d := fun dp => by
  rw [W_eq, h]
  simp only
  split
  · rfl
  · have hm : (q.1, q.2, dpc q.1 (down kd dp)) ∈ kids kd dp ps := by unfold kids; exact List.mem_map.mpr ⟨q, hq, rfl⟩
    rw [tots_none hm (hb _), addO_none]
theorem bd_cnt {d : D} (h : Bd .bl d) : cntP d = none := by unfold cntP; rw [h (-1)]
def badF : Nat → Kd → D → Bool
  | 0, _, _ => false
  | n + 1, kd, d => match partsP kd d with
    | none => true
    | some ps => ps.any fun p => badF n p.1 p.2
theorem badF_ok : ∀ (n : Nat) {kd : Kd} {d : D}, badF n kd d = true → Bd kd d
  | 0, _, _, h => by cases h
  | n + 1, kd, d, h => by
    unfold badF at h
    split at h
    · rename_i e; exact bd_leaf e
    · rename_i ps e
      obtain ⟨p, hp, hb⟩ := List.any_eq_true.mp h
      exact bd_kid e hp (badF_ok n hb)
/-- a wrong thing, small -/
structure WrongD (kd : Kd) (d : D) : Prop where
  bd : Bd kd d
  fine : fineD d = true
  dd : dpt d ≤ 6
def wrongB (kd : Kd) (d : D) : Bool := badF 4 kd d && (fineD d && decide (dpt d ≤ 6))
theorem wrongB_ok {kd : Kd} {d : D} (h : wrongB kd d = true) : WrongD kd d := by
  unfold wrongB at h
  rw [Bool.and_eq_true, Bool.and_eq_true, decide_eq_true_eq] at h
  exact ⟨badF_ok 4 h.1, h.2.1, h.2.2⟩
section
variable {k : Nat} {g : Gs}
def rowsA : List D := [(.tup [(.str "num"), (.int 65536)]), (.tup [(.str "num"), (.int (-1))]), (.tup [(.str "num"), (.bl true)]), (.tup [(.str "num")]), (.tup [(.str "num"), (.int 1), (.int 1)]), (.tup [(.str "num"), .non]), (.tup [(.str "var"), (.int 4)]), (.tup [(.str "var"), (.int (-1))]), (.tup [(.str "var"), (.bl false)]), (.tup [(.str "var")]), (.tup [(.str "len"), (.int 0)]), (.tup [(.str "byte"), (.int 65536)]), (.tup [(.str "byte")]), (.tup [(.str "byte"), (.int (-1))]), (.tup [(.str "byte"), (.bl true)]), (.tup [(.str "byteat"), (.int 4), (.int 0)]), (.tup [(.str "byteat"), (.int 0), (.int 65536)]), (.tup [(.str "byteat"), (.int 0)]), (.tup [(.str "byteat"), (.int 0), (.int 0), (.int 0)]), (.tup [(.str "byteat"), (.bl true), (.int 0)]), (.tup [(.str "op"), (.str "add"), (.tup [(.str "len")]), (.int 65536)]), (.tup [(.str "op"), (.str "left"), (.tup [(.str "len")]), (.int 16)]), (.tup [(.str "op"), (.str "right"), (.tup [(.str "len")]), (.int 16)]), (.tup [(.str "op"), (.str "div"), (.tup [(.str "len")]), (.int 0)]), (.tup [(.str "op"), (.str "mod"), (.tup [(.str "len")]), (.int 0)]), (.tup [(.str "op"), (.str "pow"), (.tup [(.str "len")]), (.int 1)]), (.tup [(.str "op"), (.str "addx"), (.tup [(.str "len")]), (.int 1)]), (.tup [(.str "op"), (.str "add"), (.tup [(.str "len")])]), (.tup [(.str "op"), (.str "xor"), (.tup [(.str "len")]), (.bl true)]), (.tup [(.str "op"), (.str "sub"), (.tup [(.str "len")]), (.int (-1))]), (.tup [(.str "op"), (.str "and"), (.tup [(.str "len")]), .non]), (.tup [(.str "op"), (.str "add"), (.tup [(.str "eq"), (.tup [(.str "len")]), (.int 0)]), (.int 1)]), (.tup [(.str "op"), (.str "add"), (.int 3), (.int 1)]), (.tup [(.str "op"), (.tup [(.str "len")]), (.str "add"), (.int 1)]), (.tup [(.str "with"), (.str "mul"), (.tup [(.str "len")]), (.int 0)]), (.tup [(.str "with"), (.str "add"), (.tup [(.str "len")]), (.int 4)]), (.tup [(.str "with"), (.str "and"), (.tup [(.str "len")]), (.int 1)]), (.tup [(.str "with"), (.str "addx"), (.tup [(.str "len")]), (.int 1)]), (.tup [(.str "with"), (.str "mod"), (.tup [(.str "len")]), (.bl true)]), (.tup [(.str "with"), (.str "sub"), (.str "len"), (.int 1)]), (.tup [(.str "with"), (.str "div"), (.tup [(.str "len")])]), (.str "len"), .non, (.int 7), (.tup []), (.tup [(.str "LEN")]), (.tup [(.str "give"), (.tup [(.str "len")])]), (.tup [(.str "length")]), (.tup [(.tup [(.tup [(.str "len")])])])]
theorem rowsA_wrong : rowsA.all (wrongB .am) = true := by decide +kernel
theorem wrong_amount_d (h : Ok g) : ∃ (x : D) (g' : Gs), Mi.call T (k + 2) 42 [.st] g = .ok x g' ∧ WrongD .am x ∧ Ok g' := by
  obtain ⟨w, g1, e1, w1, w2, h1⟩ := draw' h 49 (by decide) (by decide)
  obtain ⟨x, e2, hx⟩ := pick (xs := rowsA) w1 (by exact w2) (fun x => WrongD .am x) (fun x hx => wrongB_ok (List.all_eq_true.mp rowsA_wrong x hx))
  refine ⟨x, g1, ?_, hx, h1⟩
  rw [call_def d_law_wrong_amount rfl]
  unfold b_law_wrong_amount
  have i3 : exS (Mi.call T (k + 1)) (.asg 2 (.lst [(.tup [(.lit (.str "num")), (.lit (.int 65536))]), (.tup [(.lit (.str "num")), (.neg (.lit (.int 1)))]), (.tup [(.lit (.str "num")), (.lit (.bl true))]), (.tup [(.lit (.str "num"))]), (.tup [(.lit (.str "num")), (.lit (.int 1)), (.lit (.int 1))]), (.tup [(.lit (.str "num")), (.lit .non)]), (.tup [(.lit (.str "var")), (.lit (.int 4))]), (.tup [(.lit (.str "var")), (.neg (.lit (.int 1)))]), (.tup [(.lit (.str "var")), (.lit (.bl false))]), (.tup [(.lit (.str "var"))]), (.tup [(.lit (.str "len")), (.lit (.int 0))]), (.tup [(.lit (.str "byte")), (.lit (.int 65536))]), (.tup [(.lit (.str "byte"))]), (.tup [(.lit (.str "byte")), (.neg (.lit (.int 1)))]), (.tup [(.lit (.str "byte")), (.lit (.bl true))]), (.tup [(.lit (.str "byteat")), (.lit (.int 4)), (.lit (.int 0))]), (.tup [(.lit (.str "byteat")), (.lit (.int 0)), (.lit (.int 65536))]), (.tup [(.lit (.str "byteat")), (.lit (.int 0))]), (.tup [(.lit (.str "byteat")), (.lit (.int 0)), (.lit (.int 0)), (.lit (.int 0))]), (.tup [(.lit (.str "byteat")), (.lit (.bl true)), (.lit (.int 0))]), (.tup [(.lit (.str "op")), (.lit (.str "add")), (.nm 1), (.lit (.int 65536))]), (.tup [(.lit (.str "op")), (.lit (.str "left")), (.nm 1), (.lit (.int 16))]), (.tup [(.lit (.str "op")), (.lit (.str "right")), (.nm 1), (.lit (.int 16))]), (.tup [(.lit (.str "op")), (.lit (.str "div")), (.nm 1), (.lit (.int 0))]), (.tup [(.lit (.str "op")), (.lit (.str "mod")), (.nm 1), (.lit (.int 0))]), (.tup [(.lit (.str "op")), (.lit (.str "pow")), (.nm 1), (.lit (.int 1))]), (.tup [(.lit (.str "op")), (.lit (.str "addx")), (.nm 1), (.lit (.int 1))]), (.tup [(.lit (.str "op")), (.lit (.str "add")), (.nm 1)]), (.tup [(.lit (.str "op")), (.lit (.str "xor")), (.nm 1), (.lit (.bl true))]), (.tup [(.lit (.str "op")), (.lit (.str "sub")), (.nm 1), (.neg (.lit (.int 1)))]), (.tup [(.lit (.str "op")), (.lit (.str "and")), (.nm 1), (.lit .non)]), (.tup [(.lit (.str "op")), (.lit (.str "add")), (.tup [(.lit (.str "eq")), (.nm 1), (.lit (.int 0))]), (.lit (.int 1))]), (.tup [(.lit (.str "op")), (.lit (.str "add")), (.lit (.int 3)), (.lit (.int 1))]), (.tup [(.lit (.str "op")), (.nm 1), (.lit (.str "add")), (.lit (.int 1))]), (.tup [(.lit (.str "with")), (.lit (.str "mul")), (.nm 1), (.lit (.int 0))]), (.tup [(.lit (.str "with")), (.lit (.str "add")), (.nm 1), (.lit (.int 4))]), (.tup [(.lit (.str "with")), (.lit (.str "and")), (.nm 1), (.lit (.int 1))]), (.tup [(.lit (.str "with")), (.lit (.str "addx")), (.nm 1), (.lit (.int 1))]), (.tup [(.lit (.str "with")), (.lit (.str "mod")), (.nm 1), (.lit (.bl true))]), (.tup [(.lit (.str "with")), (.lit (.str "sub")), (.lit (.str "len")), (.lit (.int 1))]), (.tup [(.lit (.str "with")), (.lit (.str "div")), (.nm 1)]), (.lit (.str "len")), (.lit .non), (.lit (.int 7)), (.tup []), (.tup [(.lit (.str "LEN"))]), (.tup [(.lit (.str "give")), (.nm 1)]), (.tup [(.lit (.str "length"))]), (.tup [(.tup [(.nm 1)])])])) [some (.val .st), some (.val (.tup [(.str "len")])), none] g = .nx [some (.val .st), some (.val (.tup [(.str "len")])), some (.own rowsA)] g := by kernel_rfl
  have ln : rowsA.length = 49 := rfl
  have i1 : exS (Mi.call T (k + 1)) (.asg 1 (.tup [(.lit (.str "len"))])) [some (.val .st), none, none] g = .nx [some (.val .st), some (.val (.tup [(.str "len")])), none] g := by simp
  rw [exL_cons]
  show fin ((exS _ _ [some (.val .st), none, none] g).seq _) = _
  rw [i1, SR.seq_nx, exL_cons, i3, SR.seq_nx]
  generalize rowsA = R at e2 ln ⊢
  simp [ln, e1, e2]
def rowsT : List D := [(.tup [(.str "eq"), (.tup [(.str "len")]), (.int 65536)]), (.tup [(.str "eq"), (.tup [(.str "len")]), (.int (-1))]), (.tup [(.str "eq"), (.tup [(.str "len")])]), (.tup [(.str "eq"), (.tup [(.str "len")]), (.int 1), (.int 2)]), (.tup [(.str "more"), (.tup [(.str "len")]), (.bl true)]), (.tup [(.str "more"), (.tup [(.str "len")]), (.int 65536)]), (.tup [(.str "same"), (.tup [(.str "len")]), (.int 4)]), (.tup [(.str "above"), (.tup [(.str "len")]), (.int (-1))]), (.tup [(.str "above"), (.tup [(.str "len")]), (.bl true)]), (.tup [(.str "above"), (.tup [(.str "len")]), (.int 4)]), (.tup [(.str "bits"), (.tup [(.str "len")]), .non]), (.tup [(.str "bits"), (.tup [(.str "len")]), (.int 65536)]), (.tup [(.str "less"), (.tup [(.str "len")]), (.int 1)]), (.tup [(.str "not")]), (.tup [(.str "not"), (.tup [(.str "len")])]), (.tup [(.str "not"), (.tup [(.str "eq"), (.tup [(.str "len")]), (.int 1)]), (.tup [(.str "eq"), (.tup [(.str "len")]), (.int 1)])]), (.tup [(.str "and"), (.tup [(.str "eq"), (.tup [(.str "len")]), (.int 1)])]), (.tup [(.str "and"), (.tup [(.str "eq"), (.tup [(.str "len")]), (.int 1)]), (.tup [(.str "eq"), (.tup [(.str "len")]), (.int 1)]), (.tup [(.str "eq"), (.tup [(.str "len")]), (.int 1)])]), (.tup [(.str "or"), (.tup [(.str "eq"), (.tup [(.str "len")]), (.int 1)]), (.tup [(.str "len")])]), (.tup [(.str "and"), (.tup [(.str "len")]), (.tup [(.str "eq"), (.tup [(.str "len")]), (.int 1)])]), (.tup [(.str "or"), (.tup [(.str "eq"), (.tup [(.str "len")]), (.int 1)])]), (.tup [(.str "bits"), (.tup [(.str "eq"), (.tup [(.str "len")]), (.int 1)]), (.int 1)]), (.tup [(.str "same"), (.tup [(.str "eq"), (.tup [(.str "len")]), (.int 1)]), (.int 0)]), (.bl true), .non, (.int 1), (.tup []), (.tup [(.str "len")]), (.tup [(.str "xor"), (.tup [(.str "eq"), (.tup [(.str "len")]), (.int 1)]), (.tup [(.str "eq"), (.tup [(.str "len")]), (.int 1)])]), (.tup [(.str "same"), (.tup [(.str "len")]), (.bl false)])]
theorem rowsT_wrong : rowsT.all (wrongB .te) = true := by decide +kernel
theorem wrong_test_d (h : Ok g) : ∃ (x : D) (g' : Gs), Mi.call T (k + 2) 43 [.st] g = .ok x g' ∧ WrongD .te x ∧ Ok g' := by
  obtain ⟨w, g1, e1, w1, w2, h1⟩ := draw' h 30 (by decide) (by decide)
  obtain ⟨x, e2, hx⟩ := pick (xs := rowsT) w1 (by exact w2) (fun x => WrongD .te x) (fun x hx => wrongB_ok (List.all_eq_true.mp rowsT_wrong x hx))
  refine ⟨x, g1, ?_, hx, h1⟩
  rw [call_def d_law_wrong_test rfl]
  unfold b_law_wrong_test
  have i3 : exS (Mi.call T (k + 1)) (.asg 3 (.lst [(.tup [(.lit (.str "eq")), (.nm 1), (.lit (.int 65536))]), (.tup [(.lit (.str "eq")), (.nm 1), (.neg (.lit (.int 1)))]), (.tup [(.lit (.str "eq")), (.nm 1)]), (.tup [(.lit (.str "eq")), (.nm 1), (.lit (.int 1)), (.lit (.int 2))]), (.tup [(.lit (.str "more")), (.nm 1), (.lit (.bl true))]), (.tup [(.lit (.str "more")), (.nm 1), (.lit (.int 65536))]), (.tup [(.lit (.str "same")), (.nm 1), (.lit (.int 4))]), (.tup [(.lit (.str "above")), (.nm 1), (.neg (.lit (.int 1)))]), (.tup [(.lit (.str "above")), (.nm 1), (.lit (.bl true))]), (.tup [(.lit (.str "above")), (.nm 1), (.lit (.int 4))]), (.tup [(.lit (.str "bits")), (.nm 1), (.lit .non)]), (.tup [(.lit (.str "bits")), (.nm 1), (.lit (.int 65536))]), (.tup [(.lit (.str "less")), (.nm 1), (.lit (.int 1))]), (.tup [(.lit (.str "not"))]), (.tup [(.lit (.str "not")), (.nm 1)]), (.tup [(.lit (.str "not")), (.nm 2), (.nm 2)]), (.tup [(.lit (.str "and")), (.nm 2)]), (.tup [(.lit (.str "and")), (.nm 2), (.nm 2), (.nm 2)]), (.tup [(.lit (.str "or")), (.nm 2), (.nm 1)]), (.tup [(.lit (.str "and")), (.nm 1), (.nm 2)]), (.tup [(.lit (.str "or")), (.nm 2)]), (.tup [(.lit (.str "bits")), (.nm 2), (.lit (.int 1))]), (.tup [(.lit (.str "same")), (.nm 2), (.lit (.int 0))]), (.lit (.bl true)), (.lit .non), (.lit (.int 1)), (.tup []), (.nm 1), (.tup [(.lit (.str "xor")), (.nm 2), (.nm 2)]), (.tup [(.lit (.str "same")), (.nm 1), (.lit (.bl false))])])) [some (.val .st), some (.val (.tup [(.str "len")])), some (.val (.tup [(.str "eq"), (.tup [(.str "len")]), (.int 1)])), none] g = .nx [some (.val .st), some (.val (.tup [(.str "len")])), some (.val (.tup [(.str "eq"), (.tup [(.str "len")]), (.int 1)])), some (.own rowsT)] g := by kernel_rfl
  have ln : rowsT.length = 30 := rfl
  have i1 : exS (Mi.call T (k + 1)) (.asg 1 (.tup [(.lit (.str "len"))])) [some (.val .st), none, none, none] g = .nx [some (.val .st), some (.val (.tup [(.str "len")])), none, none] g := by simp
  have i2 : exS (Mi.call T (k + 1)) (.asg 2 (.tup [(.lit (.str "eq")), (.nm 1), (.lit (.int 1))])) [some (.val .st), some (.val (.tup [(.str "len")])), none, none] g = .nx [some (.val .st), some (.val (.tup [(.str "len")])), some (.val (.tup [(.str "eq"), (.tup [(.str "len")]), (.int 1)])), none] g := by simp
  rw [exL_cons]
  show fin ((exS _ _ [some (.val .st), none, none, none] g).seq _) = _
  rw [i1, SR.seq_nx, exL_cons, i2, SR.seq_nx, exL_cons, i3, SR.seq_nx]
  generalize rowsT = R at e2 ln ⊢
  simp [ln, e1, e2]
def rowsP : List D := [(.tup [(.str "let"), (.int 4), (.tup [(.str "len")])]), (.tup [(.str "let"), (.int (-1)), (.tup [(.str "len")])]), (.tup [(.str "let"), (.bl true), (.tup [(.str "len")])]), (.tup [(.str "let"), (.int 0)]), (.tup [(.str "let"), (.int 0), (.tup [(.str "len")]), (.tup [(.str "len")])]), (.tup [(.str "let"), (.tup [(.str "len")]), (.int 0)]), (.tup [(.str "let"), (.int 0), (.tup [(.str "eq"), (.tup [(.str "len")]), (.int 1)])]), (.tup [(.str "let"), (.int 0), (.int 5)]), (.tup [(.str "if"), (.tup [(.str "eq"), (.tup [(.str "len")]), (.int 1)]), (.tup [])]), (.tup [(.str "if"), (.tup [(.str "eq"), (.tup [(.str "len")]), (.int 1)]), (.tup []), (.tup []), (.tup [])]), (.tup [(.str "if"), (.tup [(.str "len")]), (.tup []), (.tup [])]), (.tup [(.str "if"), (.tup [(.str "eq"), (.tup [(.str "len")]), (.int 1)]), (.tup []), (.tup [(.str "give"), (.tup [(.str "len")])])]), (.tup [(.str "if"), (.tup [(.str "eq"), (.tup [(.str "len")]), (.int 1)]), (.tup [(.str "give"), (.tup [(.str "len")])]), (.tup [])]), (.tup [(.str "if"), (.tup [(.str "eq"), (.tup [(.str "len")]), (.int 1)]), .non, (.tup [])]), (.tup [(.str "if"), (.tup [(.str "eq"), (.tup [(.str "len")]), (.int 1)]), (.tup []), (.int 0)]), (.tup [(.str "loop"), (.int 4), (.tup [])]), (.tup [(.str "loop"), (.bl true), (.tup [])]), (.tup [(.str "loop"), (.int 0)]), (.tup [(.str "loop"), (.int 0), (.tup []), (.tup [])]), (.tup [(.str "loop"), (.int 0), (.tup [(.str "give"), (.tup [(.str "len")])])]), (.tup [(.str "loop"), (.int 0), (.tup [(.str "len")])]), (.tup [(.str "loop"), (.tup [(.str "eq"), (.tup [(.str "len")]), (.int 1)]), (.tup [])]), (.tup [(.str "loop"), (.int 0), .non]), (.tup [(.str "give")]), (.tup [(.str "give"), (.tup [(.str "eq"), (.tup [(.str "len")]), (.int 1)])]), (.tup [(.str "give"), (.tup [(.str "len")]), (.tup [(.str "len")])]), (.tup [(.str "give"), (.int 5)]), (.tup [(.str "end")]), (.tup [(.str "give"), (.tup [])]), (.int 5), (.str "give"), .non, (.tup []), (.tup [(.str "len")]), (.tup [(.str "eq"), (.tup [(.str "len")]), (.int 1)]), (.tup [(.str "set"), (.int 0), (.tup [(.str "len")])]), (.tup [(.str "while"), (.int 0), (.tup [])])]
theorem rowsP_wrong : rowsP.all (wrongB .ln) = true := by decide +kernel
theorem wrong_part_d (h : Ok g) : ∃ (x : D) (g' : Gs), Mi.call T (k + 2) 44 [.st] g = .ok x g' ∧ WrongD .ln x ∧ Ok g' := by
  obtain ⟨w, g1, e1, w1, w2, h1⟩ := draw' h 37 (by decide) (by decide)
  obtain ⟨x, e2, hx⟩ := pick (xs := rowsP) w1 (by exact w2) (fun x => WrongD .ln x) (fun x hx => wrongB_ok (List.all_eq_true.mp rowsP_wrong x hx))
  refine ⟨x, g1, ?_, hx, h1⟩
  rw [call_def d_law_wrong_part rfl]
  unfold b_law_wrong_part
  have i3 : exS (Mi.call T (k + 1)) (.asg 3 (.lst [(.tup [(.lit (.str "let")), (.lit (.int 4)), (.nm 1)]), (.tup [(.lit (.str "let")), (.neg (.lit (.int 1))), (.nm 1)]), (.tup [(.lit (.str "let")), (.lit (.bl true)), (.nm 1)]), (.tup [(.lit (.str "let")), (.lit (.int 0))]), (.tup [(.lit (.str "let")), (.lit (.int 0)), (.nm 1), (.nm 1)]), (.tup [(.lit (.str "let")), (.nm 1), (.lit (.int 0))]), (.tup [(.lit (.str "let")), (.lit (.int 0)), (.nm 2)]), (.tup [(.lit (.str "let")), (.lit (.int 0)), (.lit (.int 5))]), (.tup [(.lit (.str "if")), (.nm 2), (.tup [])]), (.tup [(.lit (.str "if")), (.nm 2), (.tup []), (.tup []), (.tup [])]), (.tup [(.lit (.str "if")), (.nm 1), (.tup []), (.tup [])]), (.tup [(.lit (.str "if")), (.nm 2), (.tup []), (.tup [(.lit (.str "give")), (.nm 1)])]), (.tup [(.lit (.str "if")), (.nm 2), (.tup [(.lit (.str "give")), (.nm 1)]), (.tup [])]), (.tup [(.lit (.str "if")), (.nm 2), (.lit .non), (.tup [])]), (.tup [(.lit (.str "if")), (.nm 2), (.tup []), (.lit (.int 0))]), (.tup [(.lit (.str "loop")), (.lit (.int 4)), (.tup [])]), (.tup [(.lit (.str "loop")), (.lit (.bl true)), (.tup [])]), (.tup [(.lit (.str "loop")), (.lit (.int 0))]), (.tup [(.lit (.str "loop")), (.lit (.int 0)), (.tup []), (.tup [])]), (.tup [(.lit (.str "loop")), (.lit (.int 0)), (.tup [(.lit (.str "give")), (.nm 1)])]), (.tup [(.lit (.str "loop")), (.lit (.int 0)), (.nm 1)]), (.tup [(.lit (.str "loop")), (.nm 2), (.tup [])]), (.tup [(.lit (.str "loop")), (.lit (.int 0)), (.lit .non)]), (.tup [(.lit (.str "give"))]), (.tup [(.lit (.str "give")), (.nm 2)]), (.tup [(.lit (.str "give")), (.nm 1), (.nm 1)]), (.tup [(.lit (.str "give")), (.lit (.int 5))]), (.tup [(.lit (.str "end"))]), (.tup [(.lit (.str "give")), (.tup [])]), (.lit (.int 5)), (.lit (.str "give")), (.lit .non), (.tup []), (.nm 1), (.nm 2), (.tup [(.lit (.str "set")), (.lit (.int 0)), (.nm 1)]), (.tup [(.lit (.str "while")), (.lit (.int 0)), (.tup [])])])) [some (.val .st), some (.val (.tup [(.str "len")])), some (.val (.tup [(.str "eq"), (.tup [(.str "len")]), (.int 1)])), none] g = .nx [some (.val .st), some (.val (.tup [(.str "len")])), some (.val (.tup [(.str "eq"), (.tup [(.str "len")]), (.int 1)])), some (.own rowsP)] g := by kernel_rfl
  have ln : rowsP.length = 37 := rfl
  have i1 : exS (Mi.call T (k + 1)) (.asg 1 (.tup [(.lit (.str "len"))])) [some (.val .st), none, none, none] g = .nx [some (.val .st), some (.val (.tup [(.str "len")])), none, none] g := by simp
  have i2 : exS (Mi.call T (k + 1)) (.asg 2 (.tup [(.lit (.str "eq")), (.nm 1), (.lit (.int 1))])) [some (.val .st), some (.val (.tup [(.str "len")])), none, none] g = .nx [some (.val .st), some (.val (.tup [(.str "len")])), some (.val (.tup [(.str "eq"), (.tup [(.str "len")]), (.int 1)])), none] g := by simp
  rw [exL_cons]
  show fin ((exS _ _ [some (.val .st), none, none, none] g).seq _) = _
  rw [i1, SR.seq_nx, exL_cons, i2, SR.seq_nx, exL_cons, i3, SR.seq_nx]
  generalize rowsP = R at e2 ln ⊢
  simp [ln, e1, e2]
end
end K61


set_option Elab.async false
set_option maxRecDepth 10000
set_option maxHeartbeats 8000000
set_option linter.unusedSimpArgs false
set_option linter.unusedVariables false
/-! k61: what stands around a thing. -/
namespace K61
open PySem L2 Mi Mi.Pl
def aroundA (x : D) : List D := [(.tup [(.str "let"), (.int 1), x]), (.tup [(.str "give"), x]), (.tup [(.str "give"), (.tup [(.str "op"), (.str "add"), x, (.int 1)])]), (.tup [(.str "let"), (.int 2), (.tup [(.str "with"), (.str "sub"), x, (.int 2)])]), (.tup [(.str "if"), (.tup [(.str "more"), x, (.int 1)]), (.tup []), (.tup [])]), (.tup [(.str "if"), (.tup [(.str "not"), (.tup [(.str "above"), x, (.int 1)])]), (.tup []), (.tup [])]), (.tup [(.str "if"), (.tup [(.str "and"), (.tup [(.str "eq"), (.tup [(.str "len")]), (.int 1)]), (.tup [(.str "eq"), x, (.int 1)])]), (.tup []), (.tup [])]), (.tup [(.str "if"), (.tup [(.str "or"), (.tup [(.str "bits"), x, (.int 1)]), (.tup [(.str "eq"), (.tup [(.str "len")]), (.int 1)])]), (.tup []), (.tup [])]), (.tup [(.str "if"), (.tup [(.str "same"), (.tup [(.str "op"), (.str "xor"), x, (.int 7)]), (.int 3)]), (.tup []), (.tup [])])]
def aroundT (x : D) : List D := [(.tup [(.str "if"), x, (.tup []), (.tup [])]), (.tup [(.str "if"), (.tup [(.str "not"), x]), (.tup []), (.tup [])]), (.tup [(.str "if"), (.tup [(.str "and"), x, (.tup [(.str "eq"), (.tup [(.str "len")]), (.int 1)])]), (.tup []), (.tup [])]), (.tup [(.str "if"), (.tup [(.str "or"), (.tup [(.str "eq"), (.tup [(.str "len")]), (.int 1)]), x]), (.tup []), (.tup [])]), (.tup [(.str "if"), (.tup [(.str "not"), (.tup [(.str "and"), (.tup [(.str "eq"), (.tup [(.str "len")]), (.int 1)]), x])]), (.tup []), (.tup [])]), (.tup [(.str "if"), (.tup [(.str "or"), (.tup [(.str "not"), x]), (.tup [(.str "eq"), (.tup [(.str "len")]), (.int 1)])]), (.tup []), (.tup [])])]
structure WrongL (d : D) : Prop where
  bd : Bd .ln d
  fine : fineD d = true
  dd : dpt d ≤ 12
section
variable {k : Nat} {g : Gs}
theorem around_amount_e {x : D} {w : Int} (w1 : 0 ≤ w) (w2 : w < 9) (P : D → Prop) (hP : ∀ y ∈ aroundA x, P y) : ∃ y, Mi.call T (k + 1) 45 [x, .int w] g = .ok y g ∧ P y := by
  obtain ⟨y, e2, hy⟩ := pick (xs := aroundA x) w1 (by exact w2) P hP
  refine ⟨y, ?_, hy⟩
  rw [call_def d_law_around_amount rfl]
  unfold b_law_around_amount
  have i1 : exS (Mi.call T k) (.asg 2 (.tup [(.lit (.str "eq")), (.tup [(.lit (.str "len"))]), (.lit (.int 1))])) [some (.val x), some (.val (.int w)), none] g = .nx [some (.val x), some (.val (.int w)), some (.val (.tup [(.str "eq"), (.tup [(.str "len")]), (.int 1)]))] g := by simp
  have i2 : ev (Mi.call T k) (.lst [(.tup [(.lit (.str "let")), (.lit (.int 1)), (.nm 0)]), (.tup [(.lit (.str "give")), (.nm 0)]), (.tup [(.lit (.str "give")), (.tup [(.lit (.str "op")), (.lit (.str "add")), (.nm 0), (.lit (.int 1))])]), (.tup [(.lit (.str "let")), (.lit (.int 2)), (.tup [(.lit (.str "with")), (.lit (.str "sub")), (.nm 0), (.lit (.int 2))])]), (.tup [(.lit (.str "if")), (.tup [(.lit (.str "more")), (.nm 0), (.lit (.int 1))]), (.tup []), (.tup [])]), (.tup [(.lit (.str "if")), (.tup [(.lit (.str "not")), (.tup [(.lit (.str "above")), (.nm 0), (.lit (.int 1))])]), (.tup []), (.tup [])]), (.tup [(.lit (.str "if")), (.tup [(.lit (.str "and")), (.nm 2), (.tup [(.lit (.str "eq")), (.nm 0), (.lit (.int 1))])]), (.tup []), (.tup [])]), (.tup [(.lit (.str "if")), (.tup [(.lit (.str "or")), (.tup [(.lit (.str "bits")), (.nm 0), (.lit (.int 1))]), (.nm 2)]), (.tup []), (.tup [])]), (.tup [(.lit (.str "if")), (.tup [(.lit (.str "same")), (.tup [(.lit (.str "op")), (.lit (.str "xor")), (.nm 0), (.lit (.int 7))]), (.lit (.int 3))]), (.tup []), (.tup [])])]) [some (.val x), some (.val (.int w)), some (.val (.tup [(.str "eq"), (.tup [(.str "len")]), (.int 1)]))] g = .ok (.lst (aroundA x)) g := by kernel_rfl
  rw [exL_cons]
  show fin ((exS _ _ [some (.val x), some (.val (.int w)), none] g).seq _) = _
  rw [i1, SR.seq_nx]
  generalize aroundA x = R at e2 i2
  generalize ([(.tup [(.lit (.str "let")), (.lit (.int 1)), (.nm 0)]), (.tup [(.lit (.str "give")), (.nm 0)]), (.tup [(.lit (.str "give")), (.tup [(.lit (.str "op")), (.lit (.str "add")), (.nm 0), (.lit (.int 1))])]), (.tup [(.lit (.str "let")), (.lit (.int 2)), (.tup [(.lit (.str "with")), (.lit (.str "sub")), (.nm 0), (.lit (.int 2))])]), (.tup [(.lit (.str "if")), (.tup [(.lit (.str "more")), (.nm 0), (.lit (.int 1))]), (.tup []), (.tup [])]), (.tup [(.lit (.str "if")), (.tup [(.lit (.str "not")), (.tup [(.lit (.str "above")), (.nm 0), (.lit (.int 1))])]), (.tup []), (.tup [])]), (.tup [(.lit (.str "if")), (.tup [(.lit (.str "and")), (.nm 2), (.tup [(.lit (.str "eq")), (.nm 0), (.lit (.int 1))])]), (.tup []), (.tup [])]), (.tup [(.lit (.str "if")), (.tup [(.lit (.str "or")), (.tup [(.lit (.str "bits")), (.nm 0), (.lit (.int 1))]), (.nm 2)]), (.tup []), (.tup [])]), (.tup [(.lit (.str "if")), (.tup [(.lit (.str "same")), (.tup [(.lit (.str "op")), (.lit (.str "xor")), (.nm 0), (.lit (.int 7))]), (.lit (.int 3))]), (.tup []), (.tup [])])] : List E) = q at i2 ⊢
  have i4 : ev (Mi.call T k) (.ix (.lst q) (.nm 1)) [some (.val x), some (.val (.int w)), some (.val (.tup [(.str "eq"), (.tup [(.str "len")]), (.int 1)]))] g = .ok y g := by
    rw [ev_ix]
    have i3 : brw (.lst q) [some (.val x), some (.val (.int w)), some (.val (.tup [(.str "eq"), (.tup [(.str "len")]), (.int 1)]))] g (ev (Mi.call T k) (.lst q) [some (.val x), some (.val (.int w)), some (.val (.tup [(.str "eq"), (.tup [(.str "len")]), (.int 1)]))] g) = .ok (.lst R) g := i2
    rw [i3, Mi.R.bind_ok]
    simp [e2]
  rw [exL_cons, exS, i4]
  rfl
theorem around_test_e {x : D} {w : Int} (w1 : 0 ≤ w) (w2 : w < 6) (P : D → Prop) (hP : ∀ y ∈ aroundT x, P y) : ∃ y, Mi.call T (k + 1) 46 [x, .int w] g = .ok y g ∧ P y := by
  obtain ⟨y, e2, hy⟩ := pick (xs := aroundT x) w1 (by exact w2) P hP
  refine ⟨y, ?_, hy⟩
  rw [call_def d_law_around_test rfl]
  unfold b_law_around_test
  have i1 : exS (Mi.call T k) (.asg 2 (.tup [(.lit (.str "eq")), (.tup [(.lit (.str "len"))]), (.lit (.int 1))])) [some (.val x), some (.val (.int w)), none] g = .nx [some (.val x), some (.val (.int w)), some (.val (.tup [(.str "eq"), (.tup [(.str "len")]), (.int 1)]))] g := by simp
  have i2 : ev (Mi.call T k) (.lst [(.tup [(.lit (.str "if")), (.nm 0), (.tup []), (.tup [])]), (.tup [(.lit (.str "if")), (.tup [(.lit (.str "not")), (.nm 0)]), (.tup []), (.tup [])]), (.tup [(.lit (.str "if")), (.tup [(.lit (.str "and")), (.nm 0), (.nm 2)]), (.tup []), (.tup [])]), (.tup [(.lit (.str "if")), (.tup [(.lit (.str "or")), (.nm 2), (.nm 0)]), (.tup []), (.tup [])]), (.tup [(.lit (.str "if")), (.tup [(.lit (.str "not")), (.tup [(.lit (.str "and")), (.nm 2), (.nm 0)])]), (.tup []), (.tup [])]), (.tup [(.lit (.str "if")), (.tup [(.lit (.str "or")), (.tup [(.lit (.str "not")), (.nm 0)]), (.nm 2)]), (.tup []), (.tup [])])]) [some (.val x), some (.val (.int w)), some (.val (.tup [(.str "eq"), (.tup [(.str "len")]), (.int 1)]))] g = .ok (.lst (aroundT x)) g := by kernel_rfl
  rw [exL_cons]
  show fin ((exS _ _ [some (.val x), some (.val (.int w)), none] g).seq _) = _
  rw [i1, SR.seq_nx]
  generalize aroundT x = R at e2 i2
  generalize ([(.tup [(.lit (.str "if")), (.nm 0), (.tup []), (.tup [])]), (.tup [(.lit (.str "if")), (.tup [(.lit (.str "not")), (.nm 0)]), (.tup []), (.tup [])]), (.tup [(.lit (.str "if")), (.tup [(.lit (.str "and")), (.nm 0), (.nm 2)]), (.tup []), (.tup [])]), (.tup [(.lit (.str "if")), (.tup [(.lit (.str "or")), (.nm 2), (.nm 0)]), (.tup []), (.tup [])]), (.tup [(.lit (.str "if")), (.tup [(.lit (.str "not")), (.tup [(.lit (.str "and")), (.nm 2), (.nm 0)])]), (.tup []), (.tup [])]), (.tup [(.lit (.str "if")), (.tup [(.lit (.str "or")), (.tup [(.lit (.str "not")), (.nm 0)]), (.nm 2)]), (.tup []), (.tup [])])] : List E) = q at i2 ⊢
  have i4 : ev (Mi.call T k) (.ix (.lst q) (.nm 1)) [some (.val x), some (.val (.int w)), some (.val (.tup [(.str "eq"), (.tup [(.str "len")]), (.int 1)]))] g = .ok y g := by
    rw [ev_ix]
    have i3 : brw (.lst q) [some (.val x), some (.val (.int w)), some (.val (.tup [(.str "eq"), (.tup [(.str "len")]), (.int 1)]))] g (ev (Mi.call T k) (.lst q) [some (.val x), some (.val (.int w)), some (.val (.tup [(.str "eq"), (.tup [(.str "len")]), (.int 1)]))] g) = .ok (.lst R) g := i2
    rw [i3, Mi.R.bind_ok]
    simp [e2]
  rw [exL_cons, exS, i4]
  rfl
end
end K61


set_option Elab.async false
set_option maxRecDepth 10000
set_option maxHeartbeats 8000000
set_option linter.unusedSimpArgs false
set_option linter.unusedVariables false
/-! k61: right and wrong around a thing. -/
namespace K61
open PySem L2 Mi Mi.Pl
/-! ### right -/
structure SmallP (p : Pt) : Prop where
  ok : p.ok = true
  h : p.h ≤ 5
  c : p.c ≤ 12
def eqT : Te := .cmp "eq" .len 1
def gA : Am := .byteat 3 65535
def goodA : List Pt := [.lt 1 gA, .gv gA, .gv (.op "add" gA 1), .lt 2 (.wth "sub" gA 2), .ife (.cmp "more" gA 1) .nil .nil, .ife (.not (.cmv "above" gA 1)) .nil .nil, .ife (.two "and" eqT (.cmp "eq" gA 1)) .nil .nil, .ife (.two "or" (.cmp "bits" gA 1) eqT) .nil .nil, .ife (.cmv "same" (.op "xor" gA 7) 3) .nil .nil]
theorem goodA_eq : goodA.map Pt.d = aroundA gA.d := by kernel_rfl
theorem goodA_small : goodA.all (fun p => p.ok && (decide (p.h ≤ 5) && decide (p.c ≤ 12))) = true := by decide +kernel
def gT : Te := .cmv "above" (.num 65535) 3
def goodT : List Pt := [.ife gT .nil .nil, .ife (.not gT) .nil .nil, .ife (.two "and" gT eqT) .nil .nil, .ife (.two "or" eqT gT) .nil .nil, .ife (.not (.two "and" eqT gT)) .nil .nil, .ife (.two "or" (.not gT) eqT) .nil .nil]
theorem goodT_eq : goodT.map Pt.d = aroundT gT.d := by kernel_rfl
theorem goodT_small : goodT.all (fun p => p.ok && (decide (p.h ≤ 5) && decide (p.c ≤ 12))) = true := by decide +kernel
theorem small_of {l : List Pt} (h : l.all (fun p => p.ok && (decide (p.h ≤ 5) && decide (p.c ≤ 12))) = true) {p : Pt} (hp : p ∈ l) : SmallP p := by
  have := List.all_eq_true.mp h p hp
  simp only [Bool.and_eq_true, decide_eq_true_eq] at this
  exact ⟨this.1, this.2.1, this.2.2⟩
def gP : Pt := .lt 3 (.op "right" .len 15)
theorem gP_small : SmallP gP := by
  have := small_of (l := [gP]) (by decide +kernel) (List.mem_singleton.mpr rfl)
  exact this
/-! ### wrong -/
theorem wl_of {d : D} {n : Nat} {f : D → D} {x : D} (hb : Bd .ln d) (hf : fineD d = true) (hd : dpt d ≤ 12) : WrongL d := ⟨hb, hf, hd⟩
theorem t1 {xs : List D} (h : fineDs xs = true) (hl : xs.length ≤ 1000) : fineD (.tup xs) = true := fine_tup hl h
section
variable {x : D}
theorem k_let {v : Int} {y : D} (hv : vr v = true) (h : Bd .am y) : Bd .ln (.tup [.str "let", .int v, y]) := bd_kid (ps := [(.am, y)]) (by simp [partsP, rowOfD, lnP, vr_in, hv]) (List.mem_singleton.mpr rfl) h
theorem k_give {y : D} (h : Bd .am y) : Bd .ln (.tup [.str "give", y]) := bd_kid (ps := [(.am, y)]) (by simp [partsP, rowOfD, lnP]) (List.mem_singleton.mpr rfl) h
theorem k_op {z : Str} {y : D} {c : Int} (hz : opFits (.str z) (.int c) = true) (h : Bd .am y) : Bd .am (.tup [.str "op", .str z, y, .int c]) := bd_kid (ps := [(.am, y)]) (by simp [partsP, rowOfD, amP, hz]) (List.mem_singleton.mpr rfl) h
theorem k_with {z : Str} {y : D} {v : Int} (hz : withN (.str z) = true) (hv : vr v = true) (h : Bd .am y) : Bd .am (.tup [.str "with", .str z, y, .int v]) := bd_kid (ps := [(.am, y)]) (by simp [partsP, rowOfD, amP, hz, vr_in, hv, ofS_beq]) (List.mem_singleton.mpr rfl) h
theorem k_if {t a b : D} (h : Bd .te t) : Bd .ln (.tup [.str "if", t, a, b]) := bd_kid (ps := [(.te, t), (.bl, a), (.bl, b)]) (by simp [partsP, rowOfD, lnP]) List.mem_cons_self h
theorem k_ifa {t a b : D} (h : Bd .bl a) : Bd .ln (.tup [.str "if", t, a, b]) := bd_kid (ps := [(.te, t), (.bl, a), (.bl, b)]) (q := (.bl, a)) (by simp [partsP, rowOfD, lnP]) (by simp) h
theorem k_ifb {t a b : D} (h : Bd .bl b) : Bd .ln (.tup [.str "if", t, a, b]) := bd_kid (ps := [(.te, t), (.bl, a), (.bl, b)]) (q := (.bl, b)) (by simp [partsP, rowOfD, lnP]) (by simp) h
theorem k_loop {v : Int} {b : D} (hv : vr v = true) (h : Bd .bl b) : Bd .ln (.tup [.str "loop", .int v, b]) := bd_kid (ps := [(.bl, b)]) (by simp [partsP, rowOfD, lnP, vr_in, hv, ofS_beq]) (List.mem_singleton.mpr rfl) h
theorem k_cmp {z : Str} {y : D} {c : Int} (hz : isCmp z = true) (hc : wd c = true) (h : Bd .am y) : Bd .te (.tup [.str z, y, .int c]) := bd_kid (ps := [(.am, y)]) (by rcases cmp_cases hz with rfl | rfl | rfl <;> simp [partsP, rowOfD, teP, wd_in, hc, ofS_beq]) (List.mem_singleton.mpr rfl) h
theorem k_cmv {z : Str} {y : D} {c : Int} (hz : isCmv z = true) (hc : vr c = true) (h : Bd .am y) : Bd .te (.tup [.str z, y, .int c]) := bd_kid (ps := [(.am, y)]) (by rcases cmv_cases hz with rfl | rfl <;> simp [partsP, rowOfD, teP, vr_in, hc, ofS_beq]) (List.mem_singleton.mpr rfl) h
theorem k_not {y : D} (h : Bd .te y) : Bd .te (.tup [.str "not", y]) := bd_kid (ps := [(.te, y)]) (by simp [partsP, rowOfD, teP]) (List.mem_singleton.mpr rfl) h
theorem k_two1 {z : Str} {y u : D} (hz : isTwo z = true) (h : Bd .te y) : Bd .te (.tup [.str z, y, u]) := bd_kid (ps := [(.te, y), (.te, u)]) (by rcases two_cases hz with rfl | rfl <;> simp [partsP, rowOfD, teP, ofS_beq]) List.mem_cons_self h
theorem k_two2 {z : Str} {y u : D} (hz : isTwo z = true) (h : Bd .te u) : Bd .te (.tup [.str z, y, u]) := bd_kid (ps := [(.te, y), (.te, u)]) (q := (.te, u)) (by rcases two_cases hz with rfl | rfl <;> simp [partsP, rowOfD, teP, ofS_beq]) (by simp) h
theorem fs (s : Str) (h : PyData.strOk s = true) : fineD (.str s) = true := fine_str h
theorem tpr : isTwo "and" = true ∧ isTwo "or" = true ∧ isCmp "more" = true ∧ isCmp "eq" = true ∧ isCmp "bits" = true ∧ isCmv "above" = true ∧ isCmv "same" = true := by decide +kernel
theorem sA : PyData.strOk ("add" : Str) = true ∧ PyData.strOk ("sub" : Str) = true ∧ PyData.strOk ("xor" : Str) = true := by decide +kernel
theorem badA (h : WrongD .am x) : ∀ y ∈ aroundA x, WrongL y := by
  obtain ⟨hb, hf, hd⟩ := h
  obtain ⟨c1, c2, c3, c4, c5, c6, c7⟩ := tpr
  obtain ⟨s1, s2, s3⟩ := sA
  intro y hy
  simp only [aroundA, List.mem_cons, List.not_mem_nil, or_false] at hy
  have fin : ∀ y : D, Bd .ln y → fineD y = true → dpt y ≤ dpt x + 5 → WrongL y := fun y a b c => ⟨a, b, by omega⟩
  rcases hy with rfl | rfl | rfl | rfl | rfl | rfl | rfl | rfl | rfl
  · exact fin _ (k_let (by decide) hb) (by simp [fineD, fineDs, hf, x1]) (by simp only [dpt_tup, dpts_cons, dpts_nil, dpt_str, dpt_int]; omega)
  · exact fin _ (k_give hb) (by simp [fineD, fineDs, hf, x4]) (by simp only [dpt_tup, dpts_cons, dpts_nil, dpt_str, dpt_int]; omega)
  · exact fin _ (k_give (k_op (by decide +kernel) hb)) (by simp [fineD, fineDs, hf, x4, w6, s1]) (by simp only [dpt_tup, dpts_cons, dpts_nil, dpt_str, dpt_int]; omega)
  · exact fin _ (k_let (by decide) (k_with (by decide +kernel) (by decide) hb)) (by simp [fineD, fineDs, hf, x1, w7, s2]) (by simp only [dpt_tup, dpts_cons, dpts_nil, dpt_str, dpt_int]; omega)
  · exact fin _ (k_if (k_cmp c3 (by decide) hb)) (by simp [fineD, fineDs, hf, x2, x9]) (by simp only [dpt_tup, dpts_cons, dpts_nil, dpt_str, dpt_int]; omega)
  · exact fin _ (k_if (k_not (k_cmv c6 (by decide) hb))) (by simp [fineD, fineDs, hf, x2, x5, x12]) (by simp only [dpt_tup, dpts_cons, dpts_nil, dpt_str, dpt_int]; omega)
  · exact fin _ (k_if (k_two2 c1 (k_cmp c4 (by decide) hb))) (by simp [fineD, fineDs, hf, x2, x6, x8, w4]) (by simp only [dpt_tup, dpts_cons, dpts_nil, dpt_str, dpt_int]; omega)
  · exact fin _ (k_if (k_two1 c2 (k_cmp c5 (by decide) hb))) (by simp [fineD, fineDs, hf, x2, x7, x10, x8, w4]) (by simp only [dpt_tup, dpts_cons, dpts_nil, dpt_str, dpt_int]; omega)
  · exact fin _ (k_if (k_cmv c7 (by decide) (k_op (by decide +kernel) hb))) (by simp [fineD, fineDs, hf, x2, x11, w6, s3]) (by simp only [dpt_tup, dpts_cons, dpts_nil, dpt_str, dpt_int]; omega)
theorem badT (h : WrongD .te x) : ∀ y ∈ aroundT x, WrongL y := by
  obtain ⟨hb, hf, hd⟩ := h
  obtain ⟨c1, c2, c3, c4, c5, c6, c7⟩ := tpr
  intro y hy
  simp only [aroundT, List.mem_cons, List.not_mem_nil, or_false] at hy
  have fin : ∀ y : D, Bd .ln y → fineD y = true → dpt y ≤ dpt x + 5 → WrongL y := fun y a b c => ⟨a, b, by omega⟩
  rcases hy with rfl | rfl | rfl | rfl | rfl | rfl
  · exact fin _ (k_if hb) (by simp [fineD, fineDs, hf, x2]) (by simp only [dpt_tup, dpts_cons, dpts_nil, dpt_str, dpt_int]; omega)
  · exact fin _ (k_if (k_not hb)) (by simp [fineD, fineDs, hf, x2, x5]) (by simp only [dpt_tup, dpts_cons, dpts_nil, dpt_str, dpt_int]; omega)
  · exact fin _ (k_if (k_two1 c1 hb)) (by simp [fineD, fineDs, hf, x2, x6, x8, w4]) (by simp only [dpt_tup, dpts_cons, dpts_nil, dpt_str, dpt_int]; omega)
  · exact fin _ (k_if (k_two2 c2 hb)) (by simp [fineD, fineDs, hf, x2, x7, x8, w4]) (by simp only [dpt_tup, dpts_cons, dpts_nil, dpt_str, dpt_int]; omega)
  · exact fin _ (k_if (k_not (k_two2 c1 hb))) (by simp [fineD, fineDs, hf, x2, x5, x6, x8, w4]) (by simp only [dpt_tup, dpts_cons, dpts_nil, dpt_str, dpt_int, Nat.max_zero, Nat.zero_max]; omega)
  · exact fin _ (k_if (k_two1 c2 (k_not hb))) (by simp [fineD, fineDs, hf, x2, x5, x7, x8, w4]) (by simp only [dpt_tup, dpts_cons, dpts_nil, dpt_str, dpt_int]; omega)
theorem badP (h : WrongD .ln x) : WrongL x := ⟨h.bd, h.fine, by have := h.dd; omega⟩
end
end K61


set_option Elab.async false
set_option maxRecDepth 10000
set_option maxHeartbeats 8000000
set_option linter.unusedSimpArgs false
set_option linter.unusedVariables false
/-! k61: one place. -/
namespace K61
open PySem L2 Mi Mi.Pl
def oth : List Pt := [.lt 3 (.num 5), .lp 3 .nil, .gv (.byte 0)]
def othD : List D := [.tup [.str "let", .int 3, .tup [.str "num", .int 5]], .tup [.str "loop", .int 3, .tup []], .tup [.str "give", .tup [.str "byte", .int 0]]]
theorem oth_eq : oth.map Pt.d = othD := by kernel_rfl
def lineup (z : D) (m a : Nat) : List D := (othD.take m).take a ++ [z] ++ (othD.take m).drop a
def eqD' : D := .tup [.str "eq", .tup [.str "len"], .int 1]
def placed (xs : List D) : List D := [.tup xs, .tup [.tup [.str "loop", .int 0, .tup xs]], .tup [.tup [.str "if", eqD', .tup xs, .tup []]], .tup [.tup [.str "if", eqD', .tup [], .tup xs], .tup [.str "give", .tup [.str "len"]]]]
section
variable {k : Nat} {g : Gs}
theorem lineup_len (z : D) {m a : Nat} (hm : m ≤ 3) : (lineup z m a).length ≤ 4 := by
  unfold lineup
  have : othD.length = 3 := rfl
  simp only [List.length_append, List.length_take, List.length_drop, List.length_singleton]
  omega
theorem around_part_e {z : D} {m a : Nat} (hm : m ≤ 3) {w : Int} (w1 : 0 ≤ w) (w2 : w < 4) (P : D → Prop) (hP : ∀ y ∈ placed (lineup z m a), P y) : ∃ y, Mi.call T (k + 1) 47 [z, .int (m : Nat), .int (a : Nat), .int w] g = .ok y g ∧ P y := by
  obtain ⟨y, e2, hy⟩ := pick (xs := placed (lineup z m a)) w1 (by exact w2) P hP
  refine ⟨y, ?_, hy⟩
  rw [call_def d_law_around_part rfl]
  unfold b_law_around_part
  have c1 : cutD othD none (some ((m : Nat) : Int)) = othD.take m := cutD_take _ _
  have c2 : cutD (othD.take m) none (some ((a : Nat) : Int)) = (othD.take m).take a := cutD_take _ _
  have c3 : cutD (othD.take m) (some ((a : Nat) : Int)) none = (othD.take m).drop a := cutD_drop _ _
  have ln := lineup_len z (a := a) hm
  unfold lineup at ln e2 hP
  have ol : othD.length = 3 := rfl
  have l1 : ((othD.take m).take a).length + 1 ≤ sizeLine := by
    have := sizeLine_ge (n := 100) (by decide)
    simp only [List.length_append, List.length_singleton] at ln
    omega
  have l2 : ((othD.take m).take a).length + 1 + ((othD.take m).drop a).length ≤ sizeLine := by
    have := sizeLine_ge (n := 100) (by decide)
    simp only [List.length_append, List.length_singleton] at ln
    omega
  have i5 : ev (Mi.call T k) (.lst [(.tup [(.lit (.str "let")), (.lit (.int 3)), (.tup [(.lit (.str "num")), (.lit (.int 5))])]), (.tup [(.lit (.str "loop")), (.lit (.int 3)), (.tup [])]), (.tup [(.lit (.str "give")), (.tup [(.lit (.str "byte")), (.lit (.int 0))])])]) [some (.val z), some (.val (.int (m : Nat))), some (.val (.int (a : Nat))), some (.val (.int w)), some (.val eqD'), none, none] g = .ok (.lst othD) g := by kernel_rfl
  have i1 : exS (Mi.call T k) (.asg 4 (.tup [(.lit (.str "eq")), (.tup [(.lit (.str "len"))]), (.lit (.int 1))])) [some (.val z), some (.val (.int (m : Nat))), some (.val (.int (a : Nat))), some (.val (.int w)), none, none, none] g = .nx [some (.val z), some (.val (.int (m : Nat))), some (.val (.int (a : Nat))), some (.val (.int w)), some (.val eqD'), none, none] g := by simp [eqD']
  generalize ht : othD.take m = tk at *
  have i2 : exS (Mi.call T k) (.asg 5 (.sl (.lst [(.tup [(.lit (.str "let")), (.lit (.int 3)), (.tup [(.lit (.str "num")), (.lit (.int 5))])]), (.tup [(.lit (.str "loop")), (.lit (.int 3)), (.tup [])]), (.tup [(.lit (.str "give")), (.tup [(.lit (.str "byte")), (.lit (.int 0))])])]) (.lit .non) (.part (.nm 1)))) [some (.val z), some (.val (.int (m : Nat))), some (.val (.int (a : Nat))), some (.val (.int w)), some (.val eqD'), none, none] g = .nx [some (.val z), some (.val (.int (m : Nat))), some (.val (.int (a : Nat))), some (.val (.int w)), some (.val eqD'), some (.own tk), none] g := by
    generalize ([(.tup [(.lit (.str "let")), (.lit (.int 3)), (.tup [(.lit (.str "num")), (.lit (.int 5))])]), (.tup [(.lit (.str "loop")), (.lit (.int 3)), (.tup [])]), (.tup [(.lit (.str "give")), (.tup [(.lit (.str "byte")), (.lit (.int 0))])])] : List E) = q at i5 ⊢
    rw [exS_asg, ev_sl]
    have i6 : brw (.lst q) [some (.val z), some (.val (.int (m : Nat))), some (.val (.int (a : Nat))), some (.val (.int w)), some (.val eqD'), none, none] g (ev (Mi.call T k) (.lst q) [some (.val z), some (.val (.int (m : Nat))), some (.val (.int (a : Nat))), some (.val (.int w)), some (.val eqD'), none, none] g) = .ok (.lst othD) g := i5
    rw [i6, Mi.R.bind_ok]
    simp [partD, slD, c1, mkCell]
  have i3 : exS (Mi.call T k) (.asg 6 (.bi .tuple [(.op .add (.op .add (.sl (.nm 5) (.lit .non) (.part (.nm 2))) (.lst [(.nm 0)])) (.sl (.nm 5) (.part (.nm 2)) (.lit .non)))])) [some (.val z), some (.val (.int (m : Nat))), some (.val (.int (a : Nat))), some (.val (.int w)), some (.val eqD'), some (.own tk), none] g = .nx [some (.val z), some (.val (.int (m : Nat))), some (.val (.int (a : Nat))), some (.val (.int w)), some (.val eqD'), some (.own tk), some (.val (.tup (tk.take a ++ [z] ++ tk.drop a)))] g := by
    have s1 : 0 < sizeLine := by decide
    simp only [List.length_append, List.length_take, List.length_drop] at l1 l2
    simp [partD, slD, c2, c3, l1, l2, s1, mkCell]
  have i7 : ev (Mi.call T k) (.lst [(.nm 6), (.tup [(.tup [(.lit (.str "loop")), (.lit (.int 0)), (.nm 6)])]), (.tup [(.tup [(.lit (.str "if")), (.nm 4), (.nm 6), (.tup [])])]), (.tup [(.tup [(.lit (.str "if")), (.nm 4), (.tup []), (.nm 6)]), (.tup [(.lit (.str "give")), (.tup [(.lit (.str "len"))])])])]) [some (.val z), some (.val (.int (m : Nat))), some (.val (.int (a : Nat))), some (.val (.int w)), some (.val eqD'), some (.own tk), some (.val (.tup (tk.take a ++ [z] ++ tk.drop a)))] g = .ok (.lst (placed (tk.take a ++ [z] ++ tk.drop a))) g := by kernel_rfl
  rw [exL_cons]
  show fin ((exS _ _ [some (.val z), some (.val (.int (m : Nat))), some (.val (.int (a : Nat))), some (.val (.int w)), none, none, none] g).seq _) = _
  rw [i1, SR.seq_nx, exL_cons, i2, SR.seq_nx, exL_cons, i3, SR.seq_nx]
  generalize ([(.nm 6), (.tup [(.tup [(.lit (.str "loop")), (.lit (.int 0)), (.nm 6)])]), (.tup [(.tup [(.lit (.str "if")), (.nm 4), (.nm 6), (.tup [])])]), (.tup [(.tup [(.lit (.str "if")), (.nm 4), (.tup []), (.nm 6)]), (.tup [(.lit (.str "give")), (.tup [(.lit (.str "len"))])])])] : List E) = q at i7 ⊢
  generalize placed (tk.take a ++ [z] ++ tk.drop a) = R at i7 e2
  have i4 : ev (Mi.call T k) (.ix (.lst q) (.nm 3)) [some (.val z), some (.val (.int (m : Nat))), some (.val (.int (a : Nat))), some (.val (.int w)), some (.val eqD'), some (.own tk), some (.val (.tup (tk.take a ++ [z] ++ tk.drop a)))] g = .ok y g := by
    rw [ev_ix]
    have i8 : brw (.lst q) [some (.val z), some (.val (.int (m : Nat))), some (.val (.int (a : Nat))), some (.val (.int w)), some (.val eqD'), some (.own tk), some (.val (.tup (tk.take a ++ [z] ++ tk.drop a)))] g (ev (Mi.call T k) (.lst q) [some (.val z), some (.val (.int (m : Nat))), some (.val (.int (a : Nat))), some (.val (.int w)), some (.val eqD'), some (.own tk), some (.val (.tup (tk.take a ++ [z] ++ tk.drop a)))] g) = .ok (.lst R) g := i7
    rw [i8, Mi.R.bind_ok]
    simp [e2]
  rw [exL_cons, exS, i4]
  rfl
/-! ### right -/
theorem ofL_c {m : Nat} : ∀ {l : List Pt}, (∀ p ∈ l, p.c ≤ m) → (ofL l).c ≤ m * l.length
  | [], _ => by simp [ofL, Bk.c]
  | p :: l, h => by
    have h1 := h p List.mem_cons_self
    have h2 := ofL_c fun q hq => h q (List.mem_cons_of_mem _ hq)
    rw [ofL, Bk.c, List.length_cons, Nat.mul_succ]
    omega
theorem eqT_d : eqT.d = eqD' := by kernel_rfl
theorem good_placed {l : List Pt} (h1 : ∀ p ∈ l, p.ok = true) (h2 : ∀ p ∈ l, p.h ≤ 5) (h3 : ∀ p ∈ l, p.c ≤ 12) (hl : l.length ≤ 10) : ∀ y ∈ placed (l.map Pt.d), ∃ b : Bk, y = b.d ∧ Good b b.d := by
  have o1 := ofL_ok h1
  have o2 := ofL_h h2
  have o3 := ofL_c h3
  have o4 := ofL_ds l
  have o5 : (ofL l).ds.length ≤ 20 := by rw [o4, List.length_map]; omega
  have o6 : (ofL l).c ≤ 120 := by
    have : 12 * l.length ≤ 12 * 10 := Nat.mul_le_mul_left _ hl
    omega
  have e1 : eqT.ok = true := by decide +kernel
  intro y hy
  simp only [placed, List.mem_cons, List.not_mem_nil, or_false] at hy
  rcases hy with rfl | rfl | rfl | rfl
  · exact ⟨ofL l, by unfold Bk.d; rw [o4], good_of o1 o5 (by omega) (by omega)⟩
  · refine ⟨ofL [.lp 0 (ofL l)], by simp [Bk.d, ofL, Bk.ds, Pt.d, o4], good_of ?_ ?_ ?_ ?_⟩
    · simp [ofL, Bk.ok, Pt.ok, o1, o5, (by decide : vr 0 = true)]
    · simp [ofL, Bk.ds]
    · simp [ofL, Bk.h, Pt.h]; omega
    · simp [ofL, Bk.c, Pt.c]; omega
  · refine ⟨ofL [.ife eqT (ofL l) .nil], by simp [Bk.d, ofL, Bk.ds, Pt.d, o4, eqT_d], good_of ?_ ?_ ?_ ?_⟩
    · simp [ofL, Bk.ok, Pt.ok, o1, o5, e1, Bk.ds]
    · simp [ofL, Bk.ds]
    · simp [ofL, Bk.h, Pt.h, eqT, Te.h, Am.h]; omega
    · simp [ofL, Bk.c, Pt.c, eqT, Te.c, Am.c]; omega
  · refine ⟨ofL [.ife eqT .nil (ofL l), .gv .len], by simp [Bk.d, ofL, Bk.ds, Pt.d, o4, eqT_d, Am.d], good_of ?_ ?_ ?_ ?_⟩
    · simp [ofL, Bk.ok, Pt.ok, o1, o5, e1, Bk.ds, Am.ok]
    · simp [ofL, Bk.ds]
    · simp [ofL, Bk.h, Pt.h, eqT, Te.h, Am.h]; omega
    · simp [ofL, Bk.c, Pt.c, eqT, Te.c, Am.c]; omega
theorem bd_block {xs : List D} {z : D} (hz : z ∈ xs) (h : Bd .ln z) : Bd .bl (.tup xs) := by
  by_cases hl : xs.length ≤ 20
  · exact bd_kid (ps := xs.map fun x => (.ln, x)) (q := (.ln, z)) (by simp [partsP, rowOfD, hl]) (List.mem_map.mpr ⟨z, hz, rfl⟩) h
  · exact bd_leaf (by simp [partsP, rowOfD, hl])
theorem bad_placed {xs : List D} (hb : Bd .bl (.tup xs)) (hf : fineDs xs = true) (hl : xs.length ≤ 1000) (hd : dpts xs ≤ 20) : ∀ y ∈ placed xs, Bad y := by
  intro y hy
  simp only [placed, List.mem_cons, List.not_mem_nil, or_false] at hy
  have ft := fine_tup hl hf
  have fe : fineD eqD' = true := by decide +kernel
  have de : dpt eqD' = 2 := by decide +kernel
  rcases hy with rfl | rfl | rfl | rfl
  · exact ⟨ft, by rw [dpt_tup]; omega, bd_cnt hb⟩
  · exact ⟨fine_tup (by simp) (fineDs_cons (fine_tup (by simp) (fineDs_cons (fine_str x3) (fineDs_cons fine_int (fineDs_cons ft fine_nil)))) fine_nil), by simp only [dpt_tup, dpts_cons, dpts_nil, dpt_str, dpt_int]; omega, bd_cnt (bd_block List.mem_cons_self (k_loop (by decide) hb))⟩
  · exact ⟨fine_tup (by simp) (fineDs_cons (fine_tup (by simp) (fineDs_cons (fine_str x2) (fineDs_cons fe (fineDs_cons ft (fineDs_cons (fine_tup (by simp) fine_nil) fine_nil))))) fine_nil), by simp only [dpt_tup, dpts_cons, dpts_nil, dpt_str, dpt_int, de]; omega, bd_cnt (bd_block List.mem_cons_self (k_ifa hb))⟩
  · exact ⟨fine_tup (by simp) (fineDs_cons (fine_tup (by simp) (fineDs_cons (fine_str x2) (fineDs_cons fe (fineDs_cons (fine_tup (by simp) fine_nil) (fineDs_cons ft fine_nil))))) (fineDs_cons (fine_tup (by simp) (fineDs_cons (fine_str x4) (fineDs_cons (fine_tup (by simp) (fineDs_cons (fine_str w4) fine_nil)) fine_nil))) fine_nil)), by simp only [dpt_tup, dpts_cons, dpts_nil, dpt_str, dpt_int, de]; omega, bd_cnt (bd_block List.mem_cons_self (k_ifb hb))⟩
end
end K61


set_option Elab.async false
set_option maxRecDepth 10000
set_option maxHeartbeats 8000000
set_option linter.unusedSimpArgs false
set_option linter.unusedVariables false
/-! k61: one place, as the law asks. -/
namespace K61
open PySem L2 Mi Mi.Pl
section
variable {k : Nat} {g : Gs}
theorem oth_small : ∀ p ∈ oth, p.ok = true ∧ p.h ≤ 5 ∧ p.c ≤ 12 := by
  intro p hp
  simp only [oth, List.mem_cons, List.not_mem_nil, or_false] at hp
  rcases hp with rfl | rfl | rfl <;> decide +kernel
theorem right_place {p : Pt} (hp : SmallP p) {m a : Nat} (hm : m ≤ 3) {w : Int} (w1 : 0 ≤ w) (w2 : w < 4) : ∃ b : Bk, Mi.call T (k + 1) 47 [p.d, .int (m : Nat), .int (a : Nat), .int w] g = .ok b.d g ∧ Good b b.d := by
  have lm : (((oth.take m).take a ++ [p] ++ (oth.take m).drop a).map Pt.d) = lineup p.d m a := by
    unfold lineup
    rw [← oth_eq]
    simp [List.map_take, List.map_drop]
  have mem : ∀ q ∈ (oth.take m).take a ++ [p] ++ (oth.take m).drop a, q = p ∨ q ∈ oth := by
    intro q hq
    simp only [List.mem_append, List.mem_singleton] at hq
    rcases hq with (hq | hq) | hq
    · exact .inr (List.mem_of_mem_take (List.mem_of_mem_take hq))
    · exact .inl hq
    · exact .inr (List.mem_of_mem_take (List.mem_of_mem_drop hq))
  have gp := good_placed (l := (oth.take m).take a ++ [p] ++ (oth.take m).drop a)
    (fun q hq => (mem q hq).elim (fun e => e ▸ hp.ok) (fun z => (oth_small q z).1))
    (fun q hq => (mem q hq).elim (fun e => e ▸ hp.h) (fun z => (oth_small q z).2.1))
    (fun q hq => (mem q hq).elim (fun e => e ▸ hp.c) (fun z => (oth_small q z).2.2))
    (by
      have := lineup_len p.d (a := a) hm
      rw [← lm, List.length_map] at this
      omega)
  rw [lm] at gp
  obtain ⟨y, e1, b, rfl, hb⟩ := around_part_e (k := k) (g := g) (z := p.d) (a := a) hm w1 w2 (fun y => ∃ b : Bk, y = b.d ∧ Good b b.d) gp
  exact ⟨b, e1, hb⟩
theorem lineup_mem (z : D) (m a : Nat) : z ∈ lineup z m a := by unfold lineup; simp
theorem fines_of : ∀ {xs : List D}, (∀ x ∈ xs, fineD x = true) → fineDs xs = true
  | [], _ => fine_nil
  | x :: xs, h => fineDs_cons (h x List.mem_cons_self) (fines_of fun y hy => h y (List.mem_cons_of_mem _ hy))
theorem dpts_le {n : Nat} : ∀ {xs : List D}, (∀ x ∈ xs, dpt x ≤ n) → dpts xs ≤ n
  | [], _ => by rw [dpts_nil]; omega
  | x :: xs, h => by
    have := h x List.mem_cons_self
    have := dpts_le fun y hy => h y (List.mem_cons_of_mem _ hy)
    rw [dpts_cons]; omega
theorem wrong_place {z : D} (hz : WrongL z) {m a : Nat} (hm : m ≤ 3) {w : Int} (w1 : 0 ≤ w) (w2 : w < 4) : ∃ d : D, Mi.call T (k + 1) 47 [z, .int (m : Nat), .int (a : Nat), .int w] g = .ok d g ∧ Bad d := by
  have of : ∀ y ∈ othD, fineD y = true ∧ dpt y ≤ 12 := by
    intro y hy
    simp only [othD, List.mem_cons, List.not_mem_nil, or_false] at hy
    rcases hy with rfl | rfl | rfl <;> decide +kernel
  have mem : ∀ y ∈ lineup z m a, y = z ∨ y ∈ othD := by
    intro q hq
    unfold lineup at hq
    simp only [List.mem_append, List.mem_singleton] at hq
    rcases hq with (hq | hq) | hq
    · exact .inr (List.mem_of_mem_take (List.mem_of_mem_take hq))
    · exact .inl hq
    · exact .inr (List.mem_of_mem_take (List.mem_of_mem_drop hq))
  have ll := lineup_len z (a := a) hm
  exact around_part_e (k := k) (g := g) (z := z) (a := a) hm w1 w2 Bad (bad_placed (bd_block (lineup_mem z m a) hz.bd)
    (fines_of fun y hy => (mem y hy).elim (fun e => e ▸ hz.fine) (fun q => (of y q).1)) (by omega)
    (by
      have := dpts_le (n := 12) (xs := lineup z m a) (fun y hy => (mem y hy).elim (fun e => e ▸ hz.dd) (fun q => (of y q).2))
      omega))
/-- two things to stand at a place -/
theorem pair_d (h : Ok g) {p w : Int} (p1 : 0 ≤ p) (p2 : p < 3) (w1 : 0 ≤ w) (c3 c4 c5 : Cell) : ∃ (P : Pt) (z : D) (g' : Gs), SmallP P ∧ WrongL z ∧ Ok g' ∧
    exS (Mi.call T (k + 4)) (.ife (.cmp .eq (.nm 1) (.lit (.int 0))) [
    .asg 6 (.call 45 [(.tup [(.lit (.str "byteat")), (.lit (.int 3)), (.lit (.int 65535))]), (.op .mod (.bi .int [(.nm 2)]) (.lit (.int 9)))]),
    .asg 7 (.call 45 [(.call 42 [(.nm 0)]), (.op .mod (.bi .int [(.nm 2)]) (.lit (.int 9)))])] [
    .ife (.cmp .eq (.nm 1) (.lit (.int 1))) [
      .asg 6 (.call 46 [(.tup [(.lit (.str "above")), (.tup [(.lit (.str "num")), (.lit (.int 65535))]), (.lit (.int 3))]), (.op .mod (.bi .int [(.nm 2)]) (.lit (.int 6)))]),
      .asg 7 (.call 46 [(.call 43 [(.nm 0)]), (.op .mod (.bi .int [(.nm 2)]) (.lit (.int 6)))])] [
      .asg 6 (.tup [(.lit (.str "let")), (.lit (.int 3)), (.tup [(.lit (.str "op")), (.lit (.str "right")), (.tup [(.lit (.str "len"))]), (.lit (.int 15))])]),
      .asg 7 (.call 44 [(.nm 0)])]]) [some (.val .st), some (.val (.int p)), some (.val (.int w)), some c3, some c4, some c5, none, none] g = .nx [some (.val .st), some (.val (.int p)), some (.val (.int w)), some c3, some c4, some c5, some (.val P.d), some (.val z)] g' := by
  have m9 := Int.emod_nonneg w (b := 9) (by decide)
  have n9 := Int.emod_lt_of_pos w (b := 9) (by decide)
  have m6 := Int.emod_nonneg w (b := 6) (by decide)
  have n6 := Int.emod_lt_of_pos w (b := 6) (by decide)
  by_cases c0 : p = 0
  · subst c0
    obtain ⟨y, e1, P, rfl, hP⟩ := around_amount_e (k := k + 3) (g := g) (x := gA.d) m9 n9 (fun y => ∃ P : Pt, y = P.d ∧ SmallP P) (fun y hy => by
      rw [← goodA_eq] at hy
      obtain ⟨P, hP, rfl⟩ := List.mem_map.mp hy
      exact ⟨P, rfl, small_of goodA_small hP⟩)
    have e1' : Mi.call T (k + 4) 45 [.tup [.str "byteat", .int 3, .int 65535], .int (w % 9)] g = .ok P.d g := e1
    obtain ⟨x, g2, e2, hx, h2⟩ := wrong_amount_d (k := k + 2) h
    obtain ⟨z, e3, hz⟩ := around_amount_e (k := k + 3) (g := g2) (x := x) m9 n9 WrongL (badA hx)
    refine ⟨P, z, g2, hP, hz, h2, ?_⟩
    generalize P.d = Q at e1' ⊢
    simp [e1', e2, e3, mkCell]
  · by_cases c1 : p = 1
    · subst c1
      obtain ⟨y, e1, P, rfl, hP⟩ := around_test_e (k := k + 3) (g := g) (x := gT.d) m6 n6 (fun y => ∃ P : Pt, y = P.d ∧ SmallP P) (fun y hy => by
        rw [← goodT_eq] at hy
        obtain ⟨P, hP, rfl⟩ := List.mem_map.mp hy
        exact ⟨P, rfl, small_of goodT_small hP⟩)
      have e1' : Mi.call T (k + 4) 46 [.tup [.str "above", .tup [.str "num", .int 65535], .int 3], .int (w % 6)] g = .ok P.d g := e1
      obtain ⟨x, g2, e2, hx, h2⟩ := wrong_test_d (k := k + 2) h
      obtain ⟨z, e3, hz⟩ := around_test_e (k := k + 3) (g := g2) (x := x) m6 n6 WrongL (badT hx)
      refine ⟨P, z, g2, hP, hz, h2, ?_⟩
      generalize P.d = Q at e1' ⊢
      simp [e1', e2, e3, mkCell]
    · obtain ⟨x, g2, e2, hx, h2⟩ := wrong_part_d (k := k + 2) h
      refine ⟨gP, x, g2, gP_small, badP hx, h2, ?_⟩
      simp [e2, beqF c0, beqF c1, mkCell, gP, Pt.d, Am.d]
theorem one_place_ok (h : Ok g) : ∃ g', Mi.call T (k + 46) 48 [.st] g = .ok (.bl true) g' ∧ Ok g' := by
  obtain ⟨p, g1, e1, p1, p2, h1⟩ := draw' h 3 (by decide) (by decide)
  obtain ⟨w, g2, e2, w1, w2, h2⟩ := draw' h1 18 (by decide) (by decide)
  obtain ⟨m, g3, e3, m1, m2, h3⟩ := draw' h2 4 (by decide) (by decide)
  obtain ⟨m, rfl⟩ := Int.eq_ofNat_of_zero_le m1
  obtain ⟨a, g4, e4, a1, a2, h4⟩ := draw' h3 ((m : Int) + 1) (by omega) (by omega)
  obtain ⟨a, rfl⟩ := Int.eq_ofNat_of_zero_le a1
  obtain ⟨r, g5, e5, r1, r2, h5⟩ := draw' h4 4 (by decide) (by decide)
  obtain ⟨P, z, g6, hP, hz, h6, e6⟩ := pair_d (k := k + 41) h5 p1 p2 w1 (.val (.int (m : Nat))) (.val (.int (a : Nat))) (.val (.int r))
  obtain ⟨b, e7, hb⟩ := right_place (k := k + 44) (g := g6) hP (m := m) (a := a) (by omega) r1 r2
  obtain ⟨g7, e8, h7⟩ := right_ok (k := k) hb h6
  obtain ⟨d, e9, hd⟩ := wrong_place (k := k + 44) (g := g7) hz (m := m) (a := a) (by omega) r1 r2
  obtain ⟨g8, e10, h8⟩ := wrong_ok (k := k) hd h7
  refine ⟨g8, ?_, h8⟩
  rw [call_def d_law_one_place rfl]
  unfold b_law_one_place
  have i : exL (Mi.call T (k + 45)) [.asg 1 (.call 20 [(.nm 0), (.lit (.int 3))]), .asg 2 (.call 20 [(.nm 0), (.lit (.int 18))]), .asg 3 (.call 20 [(.nm 0), (.lit (.int 4))]), .asg 4 (.call 20 [(.nm 0), (.op .add (.nm 3) (.lit (.int 1)))]), .asg 5 (.call 20 [(.nm 0), (.lit (.int 4))])] [some (.val .st), none, none, none, none, none, none, none] g = .nx [some (.val .st), some (.val (.int p)), some (.val (.int w)), some (.val (.int (m : Nat))), some (.val (.int (a : Nat))), some (.val (.int r)), none, none] g5 := by
    simp [e1, e2, e3, e4, e5, mkCell]
  rw [exL_split 5 i]
  show fin (exL _ (_ :: _) _ _) = _
  rw [exL_cons, e6, SR.seq_nx]
  have e7' : Mi.call T (k + 45) 47 [P.d, .int (m : Nat), .int (a : Nat), .int r] g6 = .ok b.d g6 := e7
  have e9' : Mi.call T (k + 45) 47 [z, .int (m : Nat), .int (a : Nat), .int r] g7 = .ok d g7 := e9
  generalize P.d = Q at e7' ⊢
  generalize b.d = B at e7' e8
  simp [e7', e8, e9', e10]
end
end K61


set_option Elab.async false
set_option maxRecDepth 10000
set_option maxHeartbeats 8000000
set_option linter.unusedSimpArgs false
set_option linter.unusedVariables false
/-! k61: full blocks, and one more. -/
namespace K61
open PySem L2 Mi Mi.Pl
def sameD : D := .tup [.str "same", .tup [.str "len"], .int 3]
def sameT : Te := .cmv "same" .len 3
theorem sameT_d : sameT.d = sameD := by kernel_rfl
def placedF (xs : List D) : List D := [.tup xs, .tup [.tup [.str "loop", .int 1, .tup xs]], .tup [.tup [.str "if", sameD, .tup [], .tup xs]], .tup [.tup [.str "if", sameD, .tup xs, .tup []]]]
theorem ex_list {Q : Pt → Prop} : ∀ {ds : List D}, (∀ d ∈ ds, ∃ p : Pt, d = p.d ∧ Q p) → ∃ l : List Pt, ds = l.map Pt.d ∧ l.length = ds.length ∧ ∀ p ∈ l, Q p
  | [], _ => ⟨[], rfl, rfl, by simp⟩
  | d :: ds, h => by
    obtain ⟨p, e, hp⟩ := h d List.mem_cons_self
    obtain ⟨l, e2, e3, hl⟩ := ex_list fun x hx => h x (List.mem_cons_of_mem _ hx)
    refine ⟨p :: l, by rw [e, e2]; rfl, by simp [e3], fun q hq => ?_⟩
    rcases List.mem_cons.mp hq with rfl | hq
    · exact hp
    · exact hl q hq
structure Tiny (p : Pt) : Prop where
  ok : p.ok = true
  h : p.h ≤ 1
  c : p.c ≤ 2
def tiny3 : List Pt := [.lp 0 .nil, .gv .len, .lt 2 (.num 9)]
theorem tiny3_ok : ∀ p ∈ tiny3, Tiny p := by
  intro p hp
  simp only [tiny3, List.mem_cons, List.not_mem_nil, or_false] at hp
  rcases hp with rfl | rfl | rfl <;> exact ⟨by decide +kernel, by decide +kernel, by decide +kernel⟩
def tiny3D : List D := [.tup [.str "loop", .int 0, .tup []], .tup [.str "give", .tup [.str "len"]], .tup [.str "let", .int 2, .tup [.str "num", .int 9]]]
theorem tiny3_eq : tiny3.map Pt.d = tiny3D := by kernel_rfl
section
variable {k : Nat} {g : Gs}
theorem full_e (h : Ok g) {m : Nat} (hm : m ≤ 30) {w : Int} (w1 : 0 ≤ w) (w2 : w < 4) (P : D → Prop) (hP : ∀ l : List Pt, l.length = m → (∀ p ∈ l, Tiny p) → ∀ y ∈ placedF (l.map Pt.d), P y) : ∃ y g', Mi.call T (k + 3) 49 [.st, .int (m : Nat), .int w] g = .ok y g' ∧ P y ∧ Ok g' := by
  obtain ⟨ds, g1, e1, l1, p1, h1⟩ := ev_comp_st (c := Mi.call T (k + 2)) (ρ := [some (.val .st), some (.val (.int (m : Nat))), some (.val (.int w)), none, none, none, none]) (g := g) (tg := .nm 6) (it := .irng1 (.nm 1)) (own := [6])
    (elt := .ix (.tup [(.tup [(.lit (.str "loop")), (.lit (.int 0)), (.tup [])]), (.tup [(.lit (.str "give")), (.tup [(.lit (.str "len"))])]), (.tup [(.lit (.str "let")), (.lit (.int 2)), (.tup [(.lit (.str "num")), (.lit (.int 9))])])]) (.call 20 [(.nm 0), (.lit (.int 3))]))
    Ok (fun d => ∃ p : Pt, d = p.d ∧ Tiny p) ((List.range m).map fun (k : Nat) => D.int k) (fun x => [some (.val .st), some (.val (.int (m : Nat))), some (.val (.int w)), none, none, none, some (.val x)]) h
    (evI_rng1 (n := m) (by simp) (by omega)) (fun x _ => rfl) (fun x _ g h => by
      obtain ⟨v, g', e, v1, v2, h'⟩ := draw' h 3 (by decide) (by decide)
      obtain ⟨d, e2, p, rfl, hp⟩ := pick (xs := tiny3D) v1 (by exact v2) (fun d => ∃ p : Pt, d = p.d ∧ Tiny p) (fun d hd => by
        rw [← tiny3_eq] at hd
        obtain ⟨p, hp, rfl⟩ := List.mem_map.mp hd
        exact ⟨p, rfl, tiny3_ok p hp⟩)
      refine ⟨p.d, g', ?_, ⟨p, rfl, hp⟩, h'⟩
      generalize p.d = Q at e2 ⊢
      unfold tiny3D at e2
      simp [e, e2]) (by rw [List.length_map, List.length_range]; exact sizeLine_ge (by omega))
  obtain ⟨l, rfl, l2, hl⟩ := ex_list p1
  simp only [List.length_map, List.length_range] at l1
  obtain ⟨y, e2, hy⟩ := pick (xs := placedF (l.map Pt.d)) w1 (by exact w2) P (hP l l1 hl)
  refine ⟨y, g1, ?_, hy, h1⟩
  rw [call_def d_law_full_block rfl]
  unfold b_law_full_block
  generalize hX : l.map Pt.d = X at e1 e2
  have s1 : exS (Mi.call T (k + 2)) (.asg 3 (.comp (.nm 6) (.irng1 (.nm 1)) (.lit (.bl true)) [6] (.ix (.tup [(.tup [(.lit (.str "loop")), (.lit (.int 0)), (.tup [])]), (.tup [(.lit (.str "give")), (.tup [(.lit (.str "len"))])]), (.tup [(.lit (.str "let")), (.lit (.int 2)), (.tup [(.lit (.str "num")), (.lit (.int 9))])])]) (.call 20 [(.nm 0), (.lit (.int 3))])))) [some (.val .st), some (.val (.int (m : Nat))), some (.val (.int w)), none, none, none, none] g = .nx [some (.val .st), some (.val (.int (m : Nat))), some (.val (.int w)), some (.own X), none, none, none] g1 := by
    generalize hq : E.comp (.nm 6) (.irng1 (.nm 1)) (.lit (.bl true)) [6] (.ix (.tup [(.tup [(.lit (.str "loop")), (.lit (.int 0)), (.tup [])]), (.tup [(.lit (.str "give")), (.tup [(.lit (.str "len"))])]), (.tup [(.lit (.str "let")), (.lit (.int 2)), (.tup [(.lit (.str "num")), (.lit (.int 9))])])]) (.call 20 [(.nm 0), (.lit (.int 3))])) = q at e1
    have fq : isFr q = true := by rw [← hq]; rfl
    rw [exS_asg, e1]
    simp [fq, mkCell]
  have s2 : exS (Mi.call T (k + 2)) (.asg 4 (.tup [(.lit (.str "same")), (.tup [(.lit (.str "len"))]), (.lit (.int 3))])) [some (.val .st), some (.val (.int (m : Nat))), some (.val (.int w)), some (.own X), none, none, none] g1 = .nx [some (.val .st), some (.val (.int (m : Nat))), some (.val (.int w)), some (.own X), some (.val sameD), none, none] g1 := by
    unfold sameD
    simp
  have s3 : exS (Mi.call T (k + 2)) (.asg 5 (.bi .tuple [(.nm 3)])) [some (.val .st), some (.val (.int (m : Nat))), some (.val (.int w)), some (.own X), some (.val sameD), none, none] g1 = .nx [some (.val .st), some (.val (.int (m : Nat))), some (.val (.int w)), some (.own X), some (.val sameD), some (.val (.tup X)), none] g1 := by
    generalize sameD = Z
    simp [mkCell]
  rw [exL_cons]
  show fin ((exS _ _ [some (.val .st), some (.val (.int (m : Nat))), some (.val (.int w)), none, none, none, none] g).seq _) = _
  rw [s1, SR.seq_nx, exL_cons, s2, SR.seq_nx, exL_cons, s3, SR.seq_nx]
  have i7 : ev (Mi.call T (k + 2)) (.lst [(.nm 5), (.tup [(.tup [(.lit (.str "loop")), (.lit (.int 1)), (.nm 5)])]), (.tup [(.tup [(.lit (.str "if")), (.nm 4), (.tup []), (.nm 5)])]), (.tup [(.tup [(.lit (.str "if")), (.nm 4), (.nm 5), (.tup [])])])]) [some (.val .st), some (.val (.int (m : Nat))), some (.val (.int w)), some (.own X), some (.val sameD), some (.val (.tup X)), none] g1 = .ok (.lst (placedF X)) g1 := by kernel_rfl
  generalize ([(.nm 5), (.tup [(.tup [(.lit (.str "loop")), (.lit (.int 1)), (.nm 5)])]), (.tup [(.tup [(.lit (.str "if")), (.nm 4), (.tup []), (.nm 5)])]), (.tup [(.tup [(.lit (.str "if")), (.nm 4), (.nm 5), (.tup [])])])] : List E) = q at i7 ⊢
  generalize placedF X = R at i7 e2
  have i4 : ev (Mi.call T (k + 2)) (.ix (.lst q) (.nm 2)) [some (.val .st), some (.val (.int (m : Nat))), some (.val (.int w)), some (.own X), some (.val sameD), some (.val (.tup X)), none] g1 = .ok y g1 := by
    rw [ev_ix]
    have i8 : brw (.lst q) [some (.val .st), some (.val (.int (m : Nat))), some (.val (.int w)), some (.own X), some (.val sameD), some (.val (.tup X)), none] g1 (ev (Mi.call T (k + 2)) (.lst q) [some (.val .st), some (.val (.int (m : Nat))), some (.val (.int w)), some (.own X), some (.val sameD), some (.val (.tup X)), none] g1) = .ok (.lst R) g1 := i7
    rw [i8, Mi.R.bind_ok]
    simp [e2]
  rw [exL_cons, exS, i4]
  rfl
theorem full_good (h : Ok g) {w : Int} (w1 : 0 ≤ w) (w2 : w < 4) : ∃ (b : Bk) (g' : Gs), Mi.call T (k + 3) 49 [.st, .int 20, .int w] g = .ok b.d g' ∧ Good b b.d ∧ Ok g' := by
  obtain ⟨y, g', e, ⟨b, rfl, hb⟩, h'⟩ := full_e (k := k) h (m := 20) (by decide) w1 w2 (fun y => ∃ b : Bk, y = b.d ∧ Good b b.d) (fun l hl ht y hy => by
    have o1 := ofL_ok fun p hp => (ht p hp).ok
    have o2 := ofL_h fun p hp => (ht p hp).h
    have o3 := ofL_c fun p hp => (ht p hp).c
    have o4 := ofL_ds l
    have o5 : (ofL l).ds.length ≤ 20 := by rw [o4, List.length_map]; omega
    have o6 : (ofL l).c ≤ 40 := by rw [hl] at o3; exact o3
    have e1 : sameT.ok = true := by decide +kernel
    simp only [placedF, List.mem_cons, List.not_mem_nil, or_false] at hy
    rcases hy with rfl | rfl | rfl | rfl
    · exact ⟨ofL l, by unfold Bk.d; rw [o4], good_of o1 o5 (by omega) (by omega)⟩
    · refine ⟨ofL [.lp 1 (ofL l)], by simp [Bk.d, ofL, Bk.ds, Pt.d, o4], good_of ?_ ?_ ?_ ?_⟩
      · simp [ofL, Bk.ok, Pt.ok, o1, o5, (by decide : vr 1 = true)]
      · simp [ofL, Bk.ds]
      · simp [ofL, Bk.h, Pt.h]; omega
      · simp [ofL, Bk.c, Pt.c]; omega
    · refine ⟨ofL [.ife sameT .nil (ofL l)], by simp [Bk.d, ofL, Bk.ds, Pt.d, o4, sameT_d], good_of ?_ ?_ ?_ ?_⟩
      · simp [ofL, Bk.ok, Pt.ok, o1, o5, e1, Bk.ds]
      · simp [ofL, Bk.ds]
      · simp [ofL, Bk.h, Pt.h, sameT, Te.h, Am.h]; omega
      · simp [ofL, Bk.c, Pt.c, sameT, Te.c, Am.c]; omega
    · refine ⟨ofL [.ife sameT (ofL l) .nil], by simp [Bk.d, ofL, Bk.ds, Pt.d, o4, sameT_d], good_of ?_ ?_ ?_ ?_⟩
      · simp [ofL, Bk.ok, Pt.ok, o1, o5, e1, Bk.ds]
      · simp [ofL, Bk.ds]
      · simp [ofL, Bk.h, Pt.h, sameT, Te.h, Am.h]; omega
      · simp [ofL, Bk.c, Pt.c, sameT, Te.c, Am.c]; omega)
  exact ⟨b, g', e, hb, h'⟩
theorem full_bad (h : Ok g) {w : Int} (w1 : 0 ≤ w) (w2 : w < 4) : ∃ (d : D) (g' : Gs), Mi.call T (k + 3) 49 [.st, .int 21, .int w] g = .ok d g' ∧ Bad d ∧ Ok g' := by
  refine full_e (k := k) h (m := 21) (by decide) w1 w2 Bad (fun l hl ht y hy => ?_)
  have hb : Bd .bl (.tup (l.map Pt.d)) := bd_leaf (by simp [partsP, rowOfD, hl])
  have hf : fineDs (l.map Pt.d) = true := fines_of fun x hx => by obtain ⟨p, hp, rfl⟩ := List.mem_map.mp hx; exact pt_fine (ht p hp).ok
  have hd : dpts (l.map Pt.d) ≤ 4 := dpts_le fun x hx => by obtain ⟨p, hp, rfl⟩ := List.mem_map.mp hx; have := pt_dpt p; have := (ht p hp).h; omega
  have ft := fine_tup (xs := l.map Pt.d) (by rw [List.length_map]; omega) hf
  have fe : fineD sameD = true := by decide +kernel
  have de : dpt sameD = 2 := by decide +kernel
  simp only [placedF, List.mem_cons, List.not_mem_nil, or_false] at hy
  rcases hy with rfl | rfl | rfl | rfl
  · exact ⟨ft, by rw [dpt_tup]; omega, bd_cnt hb⟩
  · exact ⟨fine_tup (by simp) (fineDs_cons (fine_tup (by simp) (fineDs_cons (fine_str x3) (fineDs_cons fine_int (fineDs_cons ft fine_nil)))) fine_nil), by simp only [dpt_tup, dpts_cons, dpts_nil, dpt_str, dpt_int]; omega, bd_cnt (bd_block List.mem_cons_self (k_loop (by decide) hb))⟩
  · exact ⟨fine_tup (by simp) (fineDs_cons (fine_tup (by simp) (fineDs_cons (fine_str x2) (fineDs_cons fe (fineDs_cons (fine_tup (by simp) fine_nil) (fineDs_cons ft fine_nil))))) fine_nil), by simp only [dpt_tup, dpts_cons, dpts_nil, dpt_str, dpt_int, de]; omega, bd_cnt (bd_block List.mem_cons_self (k_ifb hb))⟩
  · exact ⟨fine_tup (by simp) (fineDs_cons (fine_tup (by simp) (fineDs_cons (fine_str x2) (fineDs_cons fe (fineDs_cons ft (fineDs_cons (fine_tup (by simp) fine_nil) fine_nil))))) fine_nil), by simp only [dpt_tup, dpts_cons, dpts_nil, dpt_str, dpt_int, de]; omega, bd_cnt (bd_block List.mem_cons_self (k_ifa hb))⟩
end
end K61


set_option Elab.async false
set_option maxRecDepth 10000
set_option maxHeartbeats 8000000
set_option linter.unusedSimpArgs false
set_option linter.unusedVariables false
/-! k61: towers. -/
namespace K61
open PySem L2 Mi Mi.Pl
section
variable {k : Nat} {g : Gs}
/-- the tower's environment -/
def twE (high : Nat) (s2 s3 s4 s5 s6 s7 s8 s9 : Option Cell) : Mi.Env := [some (.val .st), some (.val (.int (high : Nat))), s2, s3, s4, s5, s6, s7, s8, s9]
def twB1 : List Mi.S := [
    .asg 2 (.ite (.cmp .eq (.call 20 [(.nm 0), (.lit (.int 2))]) (.lit (.int 0))) (.tup [(.lit (.str "op")), (.lit (.str "xor")), (.nm 2), (.nm 4)]) (.tup [(.lit (.str "with")), (.lit (.str "sub")), (.nm 2), (.op .mod (.bi .int [(.nm 4)]) (.lit (.int 4)))]))]
theorem tw1 (h : Ok g) {high w : Nat} (hw : w ≤ 20) (s5 s6 s7 s8 s9 : Option Cell) : ∃ (a : Am) (s4 : Option Cell) (g' : Gs), exS (Mi.call T (k + 1)) (.forS (.nm 4) (.irng1 (.nm 3)) twB1) (twE high (some (.val (Am.d .len))) (some (.val (.int (w : Nat)))) none s5 s6 s7 s8 s9) g = .nx (twE high (some (.val a.d)) (some (.val (.int (w : Nat)))) s4 s5 s6 s7 s8 s9) g' ∧ a.ok = true ∧ a.h = w ∧ a.c ≤ w + 1 ∧ Ok g' := by
  obtain ⟨ρ', g', e, a, s4, rfl, a1, a2, a3, hg⟩ := forS_items (c := Mi.call T (k + 1)) (i := 4) (it := .irng1 (.nm 3)) (body := twB1) (g := g) (g1 := g)
    (ρ0 := twE high (some (.val (Am.d .len))) (some (.val (.int (w : Nat)))) none s5 s6 s7 s8 s9) ((List.range w).map fun (k : Nat) => D.int k)
    (fun j ρ g' => ∃ (a : Am) (s4 : Option Cell), ρ = twE high (some (.val a.d)) (some (.val (.int (w : Nat)))) s4 s5 s6 s7 s8 s9 ∧ a.ok = true ∧ a.h = j ∧ a.c ≤ j + 1 ∧ Ok g')
    ⟨.len, none, rfl, rfl, rfl, by simp [Am.c], h⟩ (evJ_rngS (by simp [twE]) (by omega)) fun j hj ρ g2 ⟨a, s4, q1, q2, q3, q4, q5⟩ => by
      subst q1
      have hj : j < w := by simpa using hj
      obtain ⟨v, g3, e3, v1, v2, h3⟩ := draw' q5 2 (by decide) (by decide)
      have ej : ((List.range w).map fun (k : Nat) => D.int k)[j]'(by simpa using hj) = .int j := by simp
      rw [ej]
      by_cases hv : v = 0
      · subst hv
        refine ⟨_, g3, ?_, .op "xor" a j, some (.val (.int j)), rfl, ?_, by simp only [Am.h]; omega, by simp only [Am.c]; omega, h3⟩
        · unfold twB1 twE
          generalize hX : a.d = X
          simp [e3, mkCell, Am.d, hX]
        · have f0 : ∀ n : Int, opFits (.str "xor") (.int n) = inR 0 65535 (.int n) := fun n => by kernel_rfl
          have f1 : opFits (.str "xor") (.int (j : Int)) = true := (f0 _).trans (wd_of (by omega) (by omega))
          simp only [Am.ok, f1, q2, (by decide +kernel : PyData.strOk ("xor" : Str) = true)]; rfl
      · refine ⟨_, g3, ?_, .wth "sub" a ((j : Int) % 4), some (.val (.int j)), rfl, ?_, by simp only [Am.h]; omega, by simp only [Am.c]; omega, h3⟩
        · unfold twB1 twE
          generalize hX : a.d = X
          simp [e3, mkCell, Am.d, hX, beqF hv]
        · have f1 : withN (.str "sub") = true := by decide +kernel
          have f2 : vr ((j : Int) % 4) = true := vr_of (by omega) (by omega)
          simp only [Am.ok, f1, f2, q2, (by decide +kernel : PyData.strOk ("sub" : Str) = true)]; rfl
  refine ⟨a, s4, g', e, a1, ?_, ?_, hg⟩
  · simpa using a2
  · simpa using a3
def twB2 : List Mi.S := [
      .asg 7 (.tup [(.lit (.str "eq")), (.tup [(.lit (.str "len"))]), (.nm 4)]),
      .asg 2 (.ix (.tup [(.tup [(.lit (.str "not")), (.nm 2)]), (.tup [(.lit (.str "and")), (.nm 7), (.nm 2)]), (.tup [(.lit (.str "or")), (.nm 2), (.nm 7)])]) (.call 20 [(.nm 0), (.lit (.int 3))]))]
theorem tw2 (h : Ok g) {high w : Nat} (hw : w ≤ 20) {t0 : Te} (ok0 : t0.ok = true) (h0 : 1 ≤ t0.h) (s3 s4 s5 s7 s8 s9 : Option Cell) : ∃ (t : Te) (z4 z7 : Option Cell) (g' : Gs), exS (Mi.call T (k + 1)) (.forS (.nm 4) (.irng1 (.nm 6)) twB2) (twE high (some (.val t0.d)) s3 s4 s5 (some (.val (.int (w : Nat)))) s7 s8 s9) g = .nx (twE high (some (.val t.d)) s3 z4 s5 (some (.val (.int (w : Nat)))) z7 s8 s9) g' ∧ t.ok = true ∧ t.h = t0.h + w ∧ t.c ≤ t0.c + 3 * w ∧ Ok g' := by
  obtain ⟨ρ', g', e, t, z4, z7, rfl, a1, a2, a3, hg⟩ := forS_items (c := Mi.call T (k + 1)) (i := 4) (it := .irng1 (.nm 6)) (body := twB2) (g := g) (g1 := g)
    (ρ0 := twE high (some (.val t0.d)) s3 s4 s5 (some (.val (.int (w : Nat)))) s7 s8 s9) ((List.range w).map fun (k : Nat) => D.int k)
    (fun j ρ g' => ∃ (t : Te) (s4 s7 : Option Cell), ρ = twE high (some (.val t.d)) s3 s4 s5 (some (.val (.int (w : Nat)))) s7 s8 s9 ∧ t.ok = true ∧ t.h = t0.h + j ∧ t.c ≤ t0.c + 3 * j ∧ Ok g')
    ⟨t0, s4, s7, rfl, ok0, rfl, by omega, h⟩ (evJ_rngS (by simp [twE]) (by omega)) fun j hj ρ g2 ⟨t, s4, s7, q1, q2, q3, q4, q5⟩ => by
      subst q1
      have hj : j < w := by simpa using hj
      obtain ⟨v, g3, e3, v1, v2, h3⟩ := draw' q5 3 (by decide) (by decide)
      have ej : ((List.range w).map fun (k : Nat) => D.int k)[j]'(by simpa using hj) = .int j := by simp
      rw [ej]
      have sok : (Te.cmp "eq" .len j).ok = true := by simp only [Te.ok, Am.ok, wd_of (by omega : (0 : Int) ≤ j) (by omega)]; decide +kernel
      obtain ⟨y, e4, u, rfl, u1, u2, u3⟩ := pick (xs := [Te.d (.not t), Te.d (.two "and" (.cmp "eq" .len j) t), Te.d (.two "or" t (.cmp "eq" .len j))]) v1 (by exact v2) (fun y => ∃ u : Te, y = u.d ∧ u.ok = true ∧ u.h = t.h + 1 ∧ u.c ≤ t.c + 3) (by
        intro y hy
        simp only [List.mem_cons, List.not_mem_nil, or_false] at hy
        rcases hy with rfl | rfl | rfl
        · exact ⟨_, rfl, by simpa only [Te.ok] using q2, rfl, by simp only [Te.c]; omega⟩
        · refine ⟨_, rfl, by rw [Te.ok, sok, q2]; decide +kernel, by simp only [Te.h, Am.h]; omega, by simp only [Te.c, Am.c]; omega⟩
        · refine ⟨_, rfl, by rw [Te.ok, sok, q2]; decide +kernel, by simp only [Te.h, Am.h]; omega, by simp only [Te.c, Am.c]; omega⟩)
      refine ⟨_, g3, ?_, u, some (.val (.int j)), some (.val (.tup [.str "eq", .tup [.str "len"], .int j])), rfl, u1, by omega, by omega, h3⟩
      unfold twB2 twE
      simp only [Te.d, Am.d] at e4
      generalize t.d = X at e4 ⊢
      generalize u.d = Y at e4 ⊢
      simp [e3, e4, mkCell]
  refine ⟨t, z4, z7, g', e, a1, ?_, ?_, hg⟩
  · simpa using a2
  · simpa using a3
def twB3 : List Mi.S := [
    .asg 9 (.call 20 [(.nm 0), (.lit (.int 3))]),
    .ife (.cmp .eq (.nm 9) (.lit (.int 0))) [
      .asg 8 (.tup [(.lit (.str "loop")), (.op .mod (.bi .int [(.nm 4)]) (.lit (.int 4))), (.tup [(.nm 8)])])] [
      .ife (.cmp .eq (.nm 9) (.lit (.int 1))) [
        .asg 8 (.tup [(.lit (.str "if")), (.tup [(.lit (.str "eq")), (.tup [(.lit (.str "len"))]), (.nm 4)]), (.tup [(.nm 8)]), (.tup [])])] [
        .asg 8 (.tup [(.lit (.str "if")), (.tup [(.lit (.str "same")), (.tup [(.lit (.str "var")), (.lit (.int 1))]), (.lit (.int 2))]), (.tup [(.tup [(.lit (.str "let")), (.lit (.int 2)), (.tup [(.lit (.str "num")), (.nm 4)])])]), (.tup [(.nm 8), (.tup [(.lit (.str "loop")), (.lit (.int 3)), (.tup [])])])])]]]
theorem tw3 (h : Ok g) {high at_ : Nat} (hw : high ≤ 20) (ha : at_ ≤ high) {p0 : Pt} (ok0 : p0.ok = true) (h0 : 1 ≤ p0.h) (s2 s3 s4 s6 s7 s9 : Option Cell) : ∃ (p : Pt) (z4 z9 : Option Cell) (g' : Gs), exS (Mi.call T (k + 1)) (.forS (.nm 4) (.irng1 (.op .sub (.nm 1) (.nm 5))) twB3) (twE high s2 s3 s4 (some (.val (.int (at_ : Nat)))) s6 s7 (some (.val p0.d)) s9) g = .nx (twE high s2 s3 z4 (some (.val (.int (at_ : Nat)))) s6 s7 (some (.val p.d)) z9) g' ∧ p.ok = true ∧ p.h = p0.h + (high - at_) ∧ p.c ≤ p0.c + 6 * (high - at_) ∧ Ok g' := by
  have cast : ((high : Nat) : Int) - ((at_ : Nat) : Int) = ((high - at_ : Nat) : Int) := by omega
  obtain ⟨ρ', g', e, p, z4, z9, rfl, a1, a2, a3, hg⟩ := forS_items (c := Mi.call T (k + 1)) (i := 4) (it := .irng1 (.op .sub (.nm 1) (.nm 5))) (body := twB3) (g := g) (g1 := g)
    (ρ0 := twE high s2 s3 s4 (some (.val (.int (at_ : Nat)))) s6 s7 (some (.val p0.d)) s9) ((List.range (high - at_)).map fun (k : Nat) => D.int k)
    (fun j ρ g' => ∃ (p : Pt) (s4 s9 : Option Cell), ρ = twE high s2 s3 s4 (some (.val (.int (at_ : Nat)))) s6 s7 (some (.val p.d)) s9 ∧ p.ok = true ∧ p.h = p0.h + j ∧ p.c ≤ p0.c + 6 * j ∧ Ok g')
    ⟨p0, s4, s9, rfl, ok0, rfl, by omega, h⟩ (evJ_rngS (by simp [twE, cast]) (by omega)) fun j hj ρ g2 ⟨p, s4, s9, q1, q2, q3, q4, q5⟩ => by
      subst q1
      have hj : j < high - at_ := by simpa using hj
      obtain ⟨v, g3, e3, v1, v2, h3⟩ := draw' q5 3 (by decide) (by decide)
      have ej : ((List.range (high - at_)).map fun (k : Nat) => D.int k)[j]'(by simpa using hj) = .int j := by simp
      rw [ej]
      have b1 : Bk.ok (.cons p .nil) = true := by rw [Bk.ok, q2]; rfl
      have dj : (Te.cmp "eq" .len j).ok = true := by simp only [Te.ok, Am.ok, wd_of (by omega : (0 : Int) ≤ j) (by omega)]; decide +kernel
      by_cases c0 : v = 0
      · subst c0
        refine ⟨_, g3, ?_, .lp ((j : Int) % 4) (.cons p .nil), some (.val (.int j)), some (.val (.int 0)), rfl, ?_, ?_, ?_, h3⟩
        · unfold twB3 twE
          simp only [Pt.d, Bk.ds]
          generalize p.d = X
          simp [e3, mkCell]
        · simp only [Pt.ok, vr_of (by omega : (0 : Int) ≤ (j : Int) % 4) (by omega), b1, Bk.ds]; simp
        · simp only [Pt.h, Bk.h]; omega
        · simp only [Pt.c, Bk.c]; omega
      · by_cases c1 : v = 1
        · subst c1
          refine ⟨_, g3, ?_, .ife (.cmp "eq" .len j) (.cons p .nil) .nil, some (.val (.int j)), some (.val (.int 1)), rfl, ?_, ?_, ?_, h3⟩
          · unfold twB3 twE
            simp only [Pt.d, Bk.ds, Te.d, Am.d]
            generalize p.d = X
            simp [e3, mkCell]
          · rw [Pt.ok, dj, b1]; simp [Bk.ds, Bk.ok]
          · simp only [Pt.h, Bk.h, Te.h, Am.h]; omega
          · simp only [Pt.c, Bk.c, Te.c, Am.c]; omega
        · refine ⟨_, g3, ?_, .ife (.cmv "same" (.var 1) 2) (.cons (.lt 2 (.num j)) .nil) (.cons p (.cons (.lp 3 .nil) .nil)), some (.val (.int j)), some (.val (.int v)), rfl, ?_, ?_, ?_, h3⟩
          · unfold twB3 twE
            simp only [Pt.d, Bk.ds, Te.d, Am.d]
            generalize p.d = X
            simp [e3, mkCell, beqF c0, beqF c1]
          · have t9 : (Te.cmv "same" (.var 1) 2).ok = true := by decide +kernel
            have b2 : Bk.ok (.cons (.lt 2 (.num j)) .nil) = true := by simp only [Bk.ok, Pt.ok, Am.ok, wd_of (by omega : (0 : Int) ≤ j) (by omega)]; decide +kernel
            have b3 : Bk.ok (.cons p (.cons (.lp 3 .nil) .nil)) = true := by rw [Bk.ok, q2]; decide +kernel
            rw [Pt.ok, t9, b2, b3]; simp [Bk.ds]
          · simp only [Pt.h, Bk.h, Te.h, Am.h]; omega
          · simp only [Pt.c, Bk.c, Te.c, Am.c]; omega
  refine ⟨p, z4, z9, g', e, a1, ?_, ?_, hg⟩
  · simpa using a2
  · simpa using a3
end
end K61


set_option Elab.async false
set_option maxRecDepth 10000
set_option maxHeartbeats 8000000
set_option linter.unusedSimpArgs false
set_option linter.unusedVariables false
/-! k61: a tower. -/
namespace K61
open PySem L2 Mi Mi.Pl
section
variable {k : Nat} {g : Gs}
def twIf : Mi.S := .ife (.tand (.cmp .gt (.op .sub (.nm 1) (.nm 3)) (.lit (.int 1))) (.cmp .eq (.call 20 [(.nm 0), (.lit (.int 2))]) (.lit (.int 0)))) [
    .asg 2 (.tup [(.lit (.str "more")), (.nm 2), (.call 20 [(.nm 0), (.lit (.int 3))])]),
    .asg 6 (.call 20 [(.nm 0), (.op .sub (.nm 1) (.nm 5))]),
    .forS (.nm 4) (.irng1 (.nm 6)) twB2,
    .asg 8 (.tup [(.lit (.str "if")), (.nm 2), (.tup []), (.tup [(.tup [(.lit (.str "give")), (.tup [(.lit (.str "num")), (.lit (.int 1))])])])]),
    .asg 5 (.op .add (.op .add (.nm 5) (.nm 6)) (.lit (.int 1)))] [
    .asg 8 (.tup [(.lit (.str "let")), (.call 20 [(.nm 0), (.lit (.int 4))]), (.nm 2)])]
theorem tw_let (h : Ok g) {high w : Nat} {a : Am} (aok : a.ok = true) (ah : a.h = w) (ac : a.c ≤ w + 1) (s4 : Option Cell) :
    ∃ (p : Pt) (g' : Gs), exL (Mi.call T (k + 1)) [.asg 8 (.tup [(.lit (.str "let")), (.call 20 [(.nm 0), (.lit (.int 4))]), (.nm 2)])] (twE high (some (.val a.d)) (some (.val (.int (w : Nat)))) s4 (some (.val (.int ((w + 1 : Nat) : Int)))) none none none none) g = .nx (twE high (some (.val a.d)) (some (.val (.int (w : Nat)))) s4 (some (.val (.int ((w + 1 : Nat) : Int)))) none none (some (.val p.d)) none) g' ∧ p.ok = true ∧ p.h = w + 1 ∧ p.c ≤ w + 2 ∧ Ok g' := by
  obtain ⟨v, g3, e3, v1, v2, h3⟩ := draw' h 4 (by decide) (by decide)
  refine ⟨.lt v a, g3, ?_, ?_, by simp only [Pt.h]; omega, by simp only [Pt.c]; omega, h3⟩
  · unfold twE
    simp only [Pt.d]
    generalize a.d = X
    simp [e3, mkCell]
  · simp only [Pt.ok, vr_of v1 (by omega), aok]; rfl
theorem tw_if (h : Ok g) {high w : Nat} (hw : w < high) (hh : high ≤ 20) {a : Am} (aok : a.ok = true) (ah : a.h = w) (ac : a.c ≤ w + 1) (s4 : Option Cell) :
    ∃ (p : Pt) (at_ : Nat) (x2 x4 x6 x7 : Option Cell) (g' : Gs), exS (Mi.call T (k + 1)) twIf (twE high (some (.val a.d)) (some (.val (.int (w : Nat)))) s4 (some (.val (.int ((w + 1 : Nat) : Int)))) none none none none) g = .nx (twE high x2 (some (.val (.int (w : Nat)))) x4 (some (.val (.int (at_ : Nat)))) x6 x7 (some (.val p.d)) none) g' ∧ p.ok = true ∧ 1 ≤ at_ ∧ at_ ≤ high ∧ p.h = at_ ∧ p.c ≤ 4 + 4 * at_ ∧ Ok g' := by
  have cast1 : ((high : Nat) : Int) - ((w : Nat) : Int) = ((high - w : Nat) : Int) := by omega
  have cast2 : ((high : Nat) : Int) - (((w + 1 : Nat)) : Int) = ((high - (w + 1) : Nat) : Int) := by omega
  by_cases c1 : high - w > 1
  · have c1' : (1 : Int) < (high : Int) - (w : Int) := by omega
    obtain ⟨v, g2, e2, v1, v2, h2⟩ := draw' h 2 (by decide) (by decide)
    by_cases c2 : v = 0
    · subst c2
      obtain ⟨y, g3, e3, y1, y2, h3⟩ := draw' h2 3 (by decide) (by decide)
      obtain ⟨m, g4, e4, m1, m2, h4⟩ := draw' h3 ((high - (w + 1) : Nat) : Int) (by omega) (by omega)
      obtain ⟨m, rfl⟩ := Int.eq_ofNat_of_zero_le m1
      have hm : m < high - (w + 1) := by omega
      have t0 : (Te.cmp "more" a y).ok = true := by
        have : isCmp ("more" : Str) = true := by decide +kernel
        simp only [Te.ok, this, wd_of y1 (by omega : y ≤ 65535), aok]; rfl
      obtain ⟨t, z4, z7, g5, e5, tok, th, tc, h5⟩ := tw2 (k := k) h4 (high := high) (w := m) (by omega) (t0 := .cmp "more" a y) t0 (by simp only [Te.h]; omega) (some (.val (.int (w : Nat)))) s4 (some (.val (.int ((w + 1 : Nat) : Int)))) none none none
      simp only [Te.h, Te.c] at th tc
      have cast3 : (((w + 1 : Nat)) : Int) + ((m : Nat) : Int) + 1 = ((w + 1 + m + 1 : Nat) : Int) := by omega
      refine ⟨.ife t .nil (.cons (.gv (.num 1)) .nil), w + 1 + m + 1, some (.val t.d), z4, some (.val (.int (m : Nat))), z7, g5, ?_, ?_, by omega, by omega, ?_, ?_, h5⟩
      · unfold twIf
        have i1 : brw (E.tand (.cmp .gt (.op .sub (.nm 1) (.nm 3)) (.lit (.int 1))) (.cmp .eq (.call 20 [(.nm 0), (.lit (.int 2))]) (.lit (.int 0)))) (twE high (some (.val a.d)) (some (.val (.int (w : Nat)))) s4 (some (.val (.int ((w + 1 : Nat) : Int)))) none none none none) g (ev (Mi.call T (k + 1)) (.tand (.cmp .gt (.op .sub (.nm 1) (.nm 3)) (.lit (.int 1))) (.cmp .eq (.call 20 [(.nm 0), (.lit (.int 2))]) (.lit (.int 0)))) (twE high (some (.val a.d)) (some (.val (.int (w : Nat)))) s4 (some (.val (.int ((w + 1 : Nat) : Int)))) none none none none) g) = .ok (.bl true) g2 := by
          unfold twE
          generalize a.d = X
          simp [e2, c1']
        have i2 : exL (Mi.call T (k + 1)) [.asg 2 (.tup [(.lit (.str "more")), (.nm 2), (.call 20 [(.nm 0), (.lit (.int 3))])]), .asg 6 (.call 20 [(.nm 0), (.op .sub (.nm 1) (.nm 5))])] (twE high (some (.val a.d)) (some (.val (.int (w : Nat)))) s4 (some (.val (.int ((w + 1 : Nat) : Int)))) none none none none) g2 = .nx (twE high (some (.val (Te.cmp "more" a y).d)) (some (.val (.int (w : Nat)))) s4 (some (.val (.int ((w + 1 : Nat) : Int)))) (some (.val (.int (m : Nat)))) none none none) g4 := by
          unfold twE
          simp only [Te.d]
          generalize a.d = X
          rw [← cast2] at e4
          have e4' : ∀ k : Nat, Mi.call T (k + 1) 20 [.st, .int ((high : Int) - ((w : Int) + 1))] g3 = .ok (.int (m : Nat)) g4 := e4
          simp [e3, e4', mkCell]
        have i3 : exL (Mi.call T (k + 1)) [.asg 8 (.tup [(.lit (.str "if")), (.nm 2), (.tup []), (.tup [(.tup [(.lit (.str "give")), (.tup [(.lit (.str "num")), (.lit (.int 1))])])])]), .asg 5 (.op .add (.op .add (.nm 5) (.nm 6)) (.lit (.int 1)))] (twE high (some (.val t.d)) (some (.val (.int (w : Nat)))) z4 (some (.val (.int ((w + 1 : Nat) : Int)))) (some (.val (.int (m : Nat)))) z7 none none) g5 = .nx (twE high (some (.val t.d)) (some (.val (.int (w : Nat)))) z4 (some (.val (.int ((w + 1 + m + 1 : Nat) : Int)))) (some (.val (.int (m : Nat)))) z7 (some (.val (Pt.ife t .nil (.cons (.gv (.num 1)) .nil)).d)) none) g5 := by
          unfold twE
          simp only [Pt.d, Bk.ds, Am.d]
          generalize t.d = X
          rw [← cast3]
          simp [mkCell]
        rw [exS_ife, i1, Mi.R.st_ok]
        show exL _ _ _ _ = _
        rw [exL_split 2 i2]
        show exL _ (_ :: _) _ _ = _
        rw [exL_cons, e5, SR.seq_nx]
        exact i3
      · have : Bk.ok (.cons (.gv (.num 1)) .nil) = true := by decide +kernel
        rw [Pt.ok, tok, this]; simp [Bk.ok, Bk.ds]
      · simp only [Pt.h, Bk.h, Am.h]; omega
      · simp only [Pt.c, Bk.c, Am.c]; omega
    · obtain ⟨p, g3, e3, p1, p2, p3, h3⟩ := tw_let (k := k) h2 (high := high) aok ah ac s4
      refine ⟨p, w + 1, some (.val a.d), s4, none, none, g3, ?_, p1, by omega, by omega, p2, by omega, h3⟩
      unfold twIf
      have i1 : brw (E.tand (.cmp .gt (.op .sub (.nm 1) (.nm 3)) (.lit (.int 1))) (.cmp .eq (.call 20 [(.nm 0), (.lit (.int 2))]) (.lit (.int 0)))) (twE high (some (.val a.d)) (some (.val (.int (w : Nat)))) s4 (some (.val (.int ((w + 1 : Nat) : Int)))) none none none none) g (ev (Mi.call T (k + 1)) (.tand (.cmp .gt (.op .sub (.nm 1) (.nm 3)) (.lit (.int 1))) (.cmp .eq (.call 20 [(.nm 0), (.lit (.int 2))]) (.lit (.int 0)))) (twE high (some (.val a.d)) (some (.val (.int (w : Nat)))) s4 (some (.val (.int ((w + 1 : Nat) : Int)))) none none none none) g) = .ok (.bl false) g2 := by
        unfold twE
        generalize a.d = X
        simp [e2, c1', beqF c2]
      rw [exS_ife, i1, Mi.R.st_ok]
      exact e3
  · have c1' : ¬ (1 : Int) < (high : Int) - (w : Int) := by omega
    obtain ⟨p, g3, e3, p1, p2, p3, h3⟩ := tw_let (k := k) h (high := high) aok ah ac s4
    refine ⟨p, w + 1, some (.val a.d), s4, none, none, g3, ?_, p1, by omega, by omega, p2, by omega, h3⟩
    unfold twIf
    have i1 : brw (E.tand (.cmp .gt (.op .sub (.nm 1) (.nm 3)) (.lit (.int 1))) (.cmp .eq (.call 20 [(.nm 0), (.lit (.int 2))]) (.lit (.int 0)))) (twE high (some (.val a.d)) (some (.val (.int (w : Nat)))) s4 (some (.val (.int ((w + 1 : Nat) : Int)))) none none none none) g (ev (Mi.call T (k + 1)) (.tand (.cmp .gt (.op .sub (.nm 1) (.nm 3)) (.lit (.int 1))) (.cmp .eq (.call 20 [(.nm 0), (.lit (.int 2))]) (.lit (.int 0)))) (twE high (some (.val a.d)) (some (.val (.int (w : Nat)))) s4 (some (.val (.int ((w + 1 : Nat) : Int)))) none none none none) g) = .ok (.bl false) g := by
      unfold twE
      generalize a.d = X
      simp [c1']
    rw [exS_ife, i1, Mi.R.st_ok]
    exact e3
theorem tower_d (h : Ok g) {high : Nat} (h1 : 1 ≤ high) (hh : high ≤ 13) : ∃ (b : Bk) (g' : Gs), Mi.call T (k + 2) 32 [.st, .int (high : Nat)] g = .ok b.d g' ∧ b.ok = true ∧ b.ds.length = 1 ∧ b.h = high + 1 ∧ b.c ≤ 200 ∧ Ok g' := by
  obtain ⟨w, g1, e1, w1, w2, hg1⟩ := draw' h ((high : Nat) : Int) (by omega) (by omega)
  obtain ⟨w, rfl⟩ := Int.eq_ofNat_of_zero_le w1
  obtain ⟨a, s4, g2, e2, aok, ah, ac, hg2⟩ := tw1 (k := k) hg1 (high := high) (w := w) (by omega) none none none none none
  obtain ⟨p, at_, x2, x4, x6, x7, g3, e3, pok, at1, at2, ph, pc, hg3⟩ := tw_if (k := k) hg2 (high := high) (w := w) (by omega) (by omega) aok ah ac s4
  obtain ⟨q, z4, z9, g4, e4, qok, qh, qc, hg4⟩ := tw3 (k := k) hg3 (high := high) (at_ := at_) (by omega) at2 pok (by omega) x2 (some (.val (.int (w : Nat)))) x4 x6 x7 none
  refine ⟨.cons q .nil, g4, ?_, by rw [Bk.ok, qok]; rfl, by simp [Bk.ds], by simp only [Bk.h]; omega, by simp only [Bk.c]; omega, hg4⟩
  rw [call_def d_law_tower rfl]
  unfold b_law_tower
  have i1 : exL (Mi.call T (k + 1)) [.asg 2 (.tup [(.lit (.str "len"))]), .asg 3 (.call 20 [(.nm 0), (.nm 1)])] (twE high none none none none none none none none) g = .nx (twE high (some (.val (Am.d .len))) (some (.val (.int (w : Nat)))) none none none none none none) g1 := by
    unfold twE
    simp [e1, mkCell, Am.d]
  have i2 : exS (Mi.call T (k + 1)) (.asg 5 (.op .add (.nm 3) (.lit (.int 1)))) (twE high (some (.val a.d)) (some (.val (.int (w : Nat)))) s4 none none none none none) g2 = .nx (twE high (some (.val a.d)) (some (.val (.int (w : Nat)))) s4 (some (.val (.int ((w + 1 : Nat) : Int)))) none none none none) g2 := by
    unfold twE
    generalize a.d = X
    simp [mkCell]
  rw [exL_split 2 i1]
  show fin (exL _ (_ :: _) _ _) = _
  rw [exL_cons]
  show fin ((exS _ (.forS (.nm 4) (.irng1 (.nm 3)) twB1) _ _).seq _) = _
  rw [e2, SR.seq_nx, exL_cons, i2, SR.seq_nx, exL_cons]
  show fin ((exS _ twIf _ _).seq _) = _
  rw [e3, SR.seq_nx, exL_cons]
  show fin ((exS _ (.forS (.nm 4) (.irng1 (.op .sub (.nm 1) (.nm 5))) twB3) _ _).seq _) = _
  rw [e4, SR.seq_nx]
  unfold twE
  simp only [Bk.d, Bk.ds]
  generalize q.d = X
  simp
theorem tower_good (h : Ok g) : ∃ (b : Bk) (g' : Gs), Mi.call T (k + 2) 32 [.st, .int 12] g = .ok b.d g' ∧ Good b b.d ∧ Ok g' := by
  obtain ⟨b, g', e, b1, b2, b3, b4, h'⟩ := tower_d (k := k) h (high := 12) (by decide) (by decide)
  exact ⟨b, g', e, good_of b1 (by omega) (by omega) b4, h'⟩
theorem tower_bad (h : Ok g) : ∃ (d : D) (g' : Gs), Mi.call T (k + 2) 32 [.st, .int 13] g = .ok d g' ∧ Bad d ∧ Ok g' := by
  obtain ⟨b, g', e, b1, b2, b3, b4, h'⟩ := tower_d (k := k) h (high := 13) (by decide) (by decide)
  have := bk_dpt b
  refine ⟨b.d, g', e, ⟨bk_fine b1 (by omega), by omega, ?_⟩, h'⟩
  rw [cnt_bk b1, if_neg (by omega)]
end
end K61


set_option Elab.async false
set_option maxRecDepth 10000
set_option maxHeartbeats 8000000
set_option linter.unusedSimpArgs false
set_option linter.unusedVariables false
/-! k61: the wide source. -/
namespace K61
open PySem L2 Mi Mi.Pl
def iL (L : List Nat) : List D := L.map fun n => D.int (n : Nat)
theorem iL_len (L : List Nat) : (iL L).length = L.length := List.length_map ..
theorem ixN_nat {n i : Nat} (h : i < n) : ixN n (i : Int) = some i := by
  unfold ixN
  rw [if_pos (by omega), if_pos (by omega)]
  simp
theorem at_iL {L : List Nat} {j : Nat} (h : j < L.length) : atI (iL L) (j : Int) = some (.int (L[j] : Nat)) := by
  rw [Mi.Pl.atI_nat]
  unfold iL
  rw [List.getElem?_map, List.getElem?_eq_getElem h]
  rfl
theorem set_iL (L : List Nat) (j v : Nat) : (iL L).set j (.int (v : Nat)) = iL (L.set j v) := by unfold iL; rw [List.map_set]
theorem sum_set : ∀ (L : List Nat) (j v : Nat) (h : j < L.length), (L.set j v).sum + L[j] = L.sum + v
  | [], j, v, h => absurd h (Nat.not_lt_zero _)
  | x :: L, 0, v, h => by simp [List.sum_cons]; omega
  | x :: L, j + 1, v, h => by
    have := sum_set L j v (by simpa using h)
    simp only [List.set_cons_succ, List.sum_cons, List.getElem_cons_succ]
    omega
structure Szs (L : List Nat) (s m : Nat) : Prop where
  len : L.length = 20
  sum : L.sum = s
  lo : ∀ x ∈ L, 6 ≤ x
  hi : ∀ x ∈ L, x ≤ m
theorem Szs.put {L : List Nat} {s m j v : Nat} (h : Szs L s m) (hj : j < 20) (v1 : 6 ≤ v) (v2 : v ≤ m) {s' : Nat} (hs : s' + L[j]'(by rw [h.len]; exact hj) = s + v) : Szs (L.set j v) s' m := by
  have hl : j < L.length := by rw [h.len]; exact hj
  refine ⟨by rw [List.length_set, h.len], ?_, ?_, ?_⟩
  · have := sum_set L j v hl
    rw [h.sum] at this
    omega
  · intro x hx
    rcases List.mem_or_eq_of_mem_set hx with hx | rfl
    · exact h.lo x hx
    · exact v1
  · intro x hx
    rcases List.mem_or_eq_of_mem_set hx with hx | rfl
    · exact h.hi x hx
    · exact v2
section
variable {k : Nat} {g : Gs}
theorem set_at {c : CallF} {ρ : Mi.Env} {i : Nat} {e : E} {L : List Nat} {j v : Nat} (h2 : ρ.get 2 = some (.own (iL L))) (hi : ρ.get i = some (.val (.int (j : Nat)))) (hj : j < L.length)
    (he : ev c e ρ g = .ok (.int (v : Nat)) g) : exS c (.setix 2 (.nm i) e) ρ g = .nx (ρ.set 2 (some (.own (iL (L.set j v))))) g := by
  rw [exS_setix, he, Mi.R.st_ok]
  simp only [h2]
  have e1 : ev c (.nm i) ρ g = .ok (.int (j : Nat)) g := by simp [hi]
  rw [e1, Mi.R.st_ok]
  simp only [iL_len, ixN_nat hj, set_iL]
def wdE (total : Int) (L : List Nat) (c3 c4 c5 c6 : Cell) (X : List D) (s8 s9 s10 : Option Cell) : Mi.Env := [some (.val .st), some (.val (.int total)), some (.own (iL L)), some c3, some c4, some c5, some c6, some (.own X), s8, s9, s10]
def wdB1 : List Mi.S := [
      .asg 9 (.tup [(.lit (.str "op")), (.ix (.tup [(.lit (.str "add")), (.lit (.str "or")), (.lit (.str "right"))]) (.op .mod (.bi .int [(.op .add (.nm 8) (.nm 10))]) (.lit (.int 3)))), (.nm 9), (.op .mod (.bi .int [(.nm 10)]) (.lit (.int 16)))])]
def ops3 : List Str := ["add", "or", "right"]
theorem ops3_ok : ∀ z ∈ ops3, PyData.strOk z = true ∧ ∀ n : Int, 0 ≤ n → n ≤ 15 → opFits (.str z) (.int n) = true := by
  intro z hz
  simp only [ops3, List.mem_cons, List.not_mem_nil, or_false] at hz
  have f1 : ∀ n : Int, opFits (.str "add") (.int n) = inR 0 65535 (.int n) := fun n => by kernel_rfl
  have f2 : ∀ n : Int, opFits (.str "or") (.int n) = inR 0 65535 (.int n) := fun n => by kernel_rfl
  have f3 : ∀ n : Int, opFits (.str "right") (.int n) = inR 0 15 (.int n) := fun n => by kernel_rfl
  rcases hz with rfl | rfl | rfl
  · exact ⟨by decide +kernel, fun n n1 n2 => (f1 n).trans (wd_of n1 (by omega))⟩
  · exact ⟨by decide +kernel, fun n n1 n2 => (f2 n).trans (wd_of n1 (by omega))⟩
  · exact ⟨by decide +kernel, fun n n1 n2 => (f3 n).trans (by show (decide _ && decide _) = true; simp [n1, n2])⟩
theorem wd1 {total : Int} {L : List Nat} {c3 c4 c5 c6 : Cell} {X : List D} {at_ : Nat} (hat : at_ < L.length) (h20 : L.length = 20) (h2 : 2 ≤ L[at_]) (h13 : L[at_] ≤ 13) (s10 : Option Cell) : ∃ (a : Am) (z10 : Option Cell),
    exS (Mi.call T (k + 1)) (.forS (.nm 10) (.irng1 (.op .sub (.ix (.nm 2) (.nm 8)) (.lit (.int 2)))) wdB1) (wdE total L c3 c4 c5 c6 X (some (.val (.int (at_ : Nat)))) (some (.val (Am.byte (at_ : Nat)).d)) s10) g = .nx (wdE total L c3 c4 c5 c6 X (some (.val (.int (at_ : Nat)))) (some (.val a.d)) z10) g ∧ a.ok = true ∧ a.h + 2 = L[at_] ∧ a.c + 1 = L[at_] := by
  generalize hs : L[at_] = s at h2 h13 ⊢
  have cast : ((s : Nat) : Int) - 2 = ((s - 2 : Nat) : Int) := by omega
  have ea := at_iL hat
  rw [hs] at ea
  obtain ⟨ρ', g', e, rfl, a, z10, rfl, a1, a2, a3⟩ := forS_items (c := Mi.call T (k + 1)) (i := 10) (it := .irng1 (.op .sub (.ix (.nm 2) (.nm 8)) (.lit (.int 2)))) (body := wdB1) (g := g) (g1 := g)
    (ρ0 := wdE total L c3 c4 c5 c6 X (some (.val (.int (at_ : Nat)))) (some (.val (Am.byte (at_ : Nat)).d)) s10) ((List.range (s - 2)).map fun (k : Nat) => D.int k)
    (fun j ρ g' => g' = g ∧ ∃ (a : Am) (z10 : Option Cell), ρ = wdE total L c3 c4 c5 c6 X (some (.val (.int (at_ : Nat)))) (some (.val a.d)) z10 ∧ a.ok = true ∧ a.h = j ∧ a.c = j + 1)
    ⟨rfl, .byte (at_ : Nat), s10, rfl, by simp only [Am.ok]; exact wd_of (by omega) (by omega), rfl, rfl⟩ (evJ_rngS (by simp [wdE, ea, cast]) (by omega)) fun j hj ρ g2 ⟨q0, a, z10, q1, q2, q3, q4⟩ => by
      subst q1 q0
      have hj : j < s - 2 := by simpa using hj
      have ej : ((List.range (s - 2)).map fun (k : Nat) => D.int k)[j]'(by simpa using hj) = .int j := by simp
      rw [ej]
      have m1 := Int.emod_nonneg ((at_ : Int) + (j : Int)) (b := 3) (by decide)
      have m2 := Int.emod_lt_of_pos ((at_ : Int) + (j : Int)) (b := 3) (by decide)
      obtain ⟨y, e4, z, rfl, hz⟩ := pick (xs := [.str "add", .str "or", .str "right"]) m1 (by exact m2) (fun y => ∃ z, y = D.str z ∧ z ∈ ops3) (by
        intro y hy
        simp only [List.mem_cons, List.not_mem_nil, or_false] at hy
        rcases hy with rfl | rfl | rfl
        · exact ⟨_, rfl, by simp [ops3]⟩
        · exact ⟨_, rfl, by simp [ops3]⟩
        · exact ⟨_, rfl, by simp [ops3]⟩)
      refine ⟨_, g2, ?_, rfl, .op z a ((j : Int) % 16), some (.val (.int j)), rfl, ?_, by simp only [Am.h]; omega, by simp only [Am.c]; omega⟩
      · unfold wdB1 wdE
        simp only [Am.d]
        generalize a.d = Y
        simp [e4, mkCell]
      · have := ops3_ok z hz
        simp only [Am.ok, this.1, this.2 ((j : Int) % 16) (by omega) (by omega), q2]; rfl
  refine ⟨a, z10, e, a1, ?_, ?_⟩
  · simp at a2; omega
  · simp at a3; omega
end
end K61


set_option Elab.async false
set_option maxRecDepth 10000
set_option maxHeartbeats 8000000
set_option linter.unusedSimpArgs false
set_option linter.unusedVariables false
/-! k61: the wide source, whole. -/
namespace K61
open PySem L2 Mi Mi.Pl
theorem ofL_sum : ∀ l : List Pt, (ofL l).c = (l.map Pt.c).sum
  | [] => rfl
  | p :: l => by rw [ofL, Bk.c, ofL_sum l, List.map_cons, List.sum_cons]
section
variable {k : Nat} {g : Gs}
def wdB2 : List Mi.S := [
    .asg 9 (.tup [(.lit (.str "byte")), (.nm 8)]),
    .forS (.nm 10) (.irng1 (.op .sub (.ix (.nm 2) (.nm 8)) (.lit (.int 2)))) wdB1,
    .app 7 (.tup [(.lit (.str "let")), (.op .mod (.bi .int [(.nm 8)]) (.lit (.int 4))), (.nm 9)])]
theorem wd2 {total : Int} {L : List Nat} {c3 c4 c5 c6 : Cell} {s : Nat} (hL : Szs L s 12) (s8 s9 s10 : Option Cell) : ∃ (l : List Pt) (z8 z9 z10 : Option Cell),
    exS (Mi.call T (k + 1)) (.forS (.nm 8) (.irng1 (.lit (.int 20))) wdB2) (wdE total L c3 c4 c5 c6 [] s8 s9 s10) g = .nx (wdE total L c3 c4 c5 c6 (l.map Pt.d) z8 z9 z10) g ∧ l.length = 20 ∧ (∀ p ∈ l, p.ok = true ∧ p.h ≤ 11) ∧ (l.map Pt.c).sum = s := by
  have h20 := hL.len
  obtain ⟨ρ', g', e, rfl, l, z8, z9, z10, rfl, a1, a2, a3⟩ := forS_items (c := Mi.call T (k + 1)) (i := 8) (it := .irng1 (.lit (.int 20))) (body := wdB2) (g := g) (g1 := g)
    (ρ0 := wdE total L c3 c4 c5 c6 [] s8 s9 s10) ((List.range 20).map fun (k : Nat) => D.int k)
    (fun j ρ g' => g' = g ∧ ∃ (l : List Pt) (z8 z9 z10 : Option Cell), ρ = wdE total L c3 c4 c5 c6 (l.map Pt.d) z8 z9 z10 ∧ l.length = j ∧ (∀ p ∈ l, p.ok = true ∧ p.h ≤ 11) ∧ (l.map Pt.c).sum = (L.take j).sum)
    ⟨rfl, [], s8, s9, s10, rfl, rfl, by simp, rfl⟩ (evJ_rngS (n := 20) (by simp [wdE]) (by omega)) fun j hj ρ g2 ⟨q0, l, z8, z9, z10, q1, q2, q3, q4⟩ => by
      subst q1 q0
      have hj : j < 20 := by simpa using hj
      have ej : ((List.range 20).map fun (k : Nat) => D.int k)[j]'(by simpa using hj) = .int j := by simp
      rw [ej]
      have hl : j < L.length := by omega
      have lo := hL.lo L[j] (List.getElem_mem hl)
      have hi := hL.hi L[j] (List.getElem_mem hl)
      have i1 : exS (Mi.call T (k + 1)) (.asg 9 (.tup [(.lit (.str "byte")), (.nm 8)])) (wdE total L c3 c4 c5 c6 (l.map Pt.d) (some (.val (.int (j : Nat)))) z9 z10) g2 = .nx (wdE total L c3 c4 c5 c6 (l.map Pt.d) (some (.val (.int (j : Nat)))) (some (.val (Am.byte (j : Nat)).d)) z10) g2 := by
        unfold wdE
        simp only [Am.d]
        generalize l.map Pt.d = X
        generalize iL L = Y
        simp [mkCell]
      obtain ⟨a, y10, e2, aok, ah, ac⟩ := wd1 (k := k) (g := g2) (total := total) (c3 := c3) (c4 := c4) (c5 := c5) (c6 := c6) (X := l.map Pt.d) hl h20 (by omega) (by omega) z10
      have i3 : exS (Mi.call T (k + 1)) (.app 7 (.tup [(.lit (.str "let")), (.op .mod (.bi .int [(.nm 8)]) (.lit (.int 4))), (.nm 9)])) (wdE total L c3 c4 c5 c6 (l.map Pt.d) (some (.val (.int (j : Nat)))) (some (.val a.d)) y10) g2 = .nx (wdE total L c3 c4 c5 c6 ((l ++ [Pt.lt ((j : Int) % 4) a]).map Pt.d) (some (.val (.int (j : Nat)))) (some (.val a.d)) y10) g2 := by
        have s1 : l.length < sizeLine := by have := sizeLine_ge (n := 100) (by decide); omega
        unfold wdE
        rw [List.map_append]
        have s2 : (l.map Pt.d).length < sizeLine := by rw [List.length_map]; exact s1
        simp only [List.map_cons, List.map_nil, Pt.d]
        generalize l.map Pt.d = X at s2 ⊢
        generalize iL L = Y
        generalize a.d = A
        simp [mkCell, s2]
      refine ⟨_, g2, ?_, rfl, l ++ [Pt.lt ((j : Int) % 4) a], some (.val (.int (j : Nat))), some (.val a.d), y10, rfl, ?_, ?_, ?_⟩
      · unfold wdB2
        rw [exL_cons]
        show (exS _ _ (wdE total L c3 c4 c5 c6 (l.map Pt.d) (some (.val (.int (j : Nat)))) z9 z10) g2).seq _ = _
        rw [i1, SR.seq_nx, exL_cons, e2, SR.seq_nx, exL_cons, i3, SR.seq_nx]
        rfl
      · rw [List.length_append, q2]; rfl
      · intro p hp
        rcases List.mem_append.mp hp with hp | hp
        · exact q3 p hp
        · rw [List.mem_singleton] at hp
          subst hp
          exact ⟨by simp only [Pt.ok, vr_of (by omega : (0 : Int) ≤ (j : Int) % 4) (by omega), aok]; rfl, by simp only [Pt.h]; omega⟩
      · rw [List.map_append, List.sum_append, q4, List.take_succ_eq_append_getElem hl, List.sum_append]
        simp only [List.map_cons, List.map_nil, List.sum_cons, List.sum_nil, Pt.c]
        omega
  refine ⟨l, z8, z9, z10, e, ?_, a2, ?_⟩
  · simpa using a1
  · rw [a3]
    simp only [List.length_map, List.length_range]
    rw [List.take_of_length_le (by omega), hL.sum]
/-- the sizes -/
theorem wd0 (h : Ok g) {e : Nat} (he : e ≤ 1) : ∃ (L : List Nat) (n : Bool) (c3 c4 c6 : Cell) (g' : Gs),
    exL (Mi.call T (k + 1)) [.asg 2 (.comp (.nm 8) (.irng1 (.lit (.int 20))) (.lit (.bl true)) [8] (.lit (.int 10))),
  .asg 3 (.call 20 [(.nm 0), (.lit (.int 20))]),
  .asg 4 (.op .mod (.bi .int [(.op .add (.op .add (.nm 3) (.lit (.int 1))) (.call 20 [(.nm 0), (.lit (.int 19))]))]) (.lit (.int 20))),
  .setix 2 (.nm 3) (.lit (.int 11)),
  .setix 2 (.nm 4) (.lit (.int 9)),
  .asg 5 (.cmp .eq (.call 20 [(.nm 0), (.lit (.int 2))]) (.lit (.int 1))),
  .ife (.nm 5) [
    .setix 2 (.nm 4) (.lit (.int 6))] [],
  .asg 6 (.call 20 [(.nm 0), (.lit (.int 20))]),
  .setix 2 (.nm 6) (.op .sub (.op .add (.ix (.nm 2) (.nm 6)) (.nm 1)) (.lit (.int 200))),
  .asg 7 (.lst [])] [some (.val .st), some (.val (.int (200 + (e : Nat)))), none, none, none, none, none, none, none, none, none] g = .nx (wdE (200 + (e : Nat)) L c3 c4 (.val (.bl n)) c6 [] none none none) g' ∧ Szs L (if n then 197 + e else 200 + e) 12 ∧ Ok g' := by
  obtain ⟨i, g1, e1, i1, i2, h1⟩ := draw' h 20 (by decide) (by decide)
  obtain ⟨i, rfl⟩ := Int.eq_ofNat_of_zero_le i1
  obtain ⟨d, g2, e2, d1, d2, h2⟩ := draw' h1 19 (by decide) (by decide)
  obtain ⟨v, g3, e3, v1, v2, h3⟩ := draw' h2 2 (by decide) (by decide)
  obtain ⟨m, g4, e4, m1, m2, h4⟩ := draw' h3 20 (by decide) (by decide)
  obtain ⟨m, rfl⟩ := Int.eq_ofNat_of_zero_le m1
  obtain ⟨j, hj⟩ := Int.eq_ofNat_of_zero_le (Int.emod_nonneg ((i : Int) + 1 + d) (b := 20) (by decide))
  have hji : j ≠ i := by omega
  have hj2 : j < 20 := by omega
  have hi : i < 20 := by omega
  have hm : m < 20 := by omega
  have L0 : Szs (List.replicate 20 10) 200 11 := ⟨by simp, by decide, by decide, by decide⟩
  have L1 : Szs ((List.replicate 20 10).set i 11) 201 11 := L0.put hi (by decide) (by decide) (by rw [List.getElem_replicate])
  have L2 : Szs (((List.replicate 20 10).set i 11).set j 9) 200 11 := L1.put hj2 (by decide) (by decide) (by rw [List.getElem_set_ne (fun e => hji e.symm), List.getElem_replicate])
  have a1 : exS (Mi.call T (k + 1)) (.asg 2 (.comp (.nm 8) (.irng1 (.lit (.int 20))) (.lit (.bl true)) [8] (.lit (.int 10)))) [some (.val .st), some (.val (.int (200 + (e : Nat)))), none, none, none, none, none, none, none, none, none] g = .nx [some (.val .st), some (.val (.int (200 + (e : Nat)))), some (.own (iL (List.replicate 20 10))), none, none, none, none, none, none, none, none] g := by
    have c1 := ev_comp_map (c := Mi.call T (k + 1)) (g := g) (ρ := [some (.val .st), some (.val (.int (200 + (e : Nat)))), none, none, none, none, none, none, none, none, none]) (tg := .nm 8) (it := .irng1 (.lit (.int 20))) (own := [8]) (elt := .lit (.int 10)) (List.range 20) (fun j => D.int j) (fun _ => D.int 10)
      (fun j => [some (.val .st), some (.val (.int (200 + (e : Nat)))), none, none, none, none, none, none, some (.val (.int j)), none, none])
      (evI_rng1 (n := 20) (by simp) (by omega)) (fun x _ => rfl) (fun x _ => by simp) (by rw [List.length_range]; exact sizeLine_ge (by omega))
    generalize hq : E.comp (.nm 8) (.irng1 (.lit (.int 20))) (.lit (.bl true)) [8] (.lit (.int 10)) = q at c1
    have fq : isFr q = true := by rw [← hq]; rfl
    have ec : (List.range 20).map (fun _ => D.int 10) = iL (List.replicate 20 10) := rfl
    rw [exS_asg, c1, ec]
    generalize iL _ = X
    simp [fq, mkCell]
  have a2 : exS (Mi.call T (k + 1)) (.asg 3 (.call 20 [(.nm 0), (.lit (.int 20))])) [some (.val .st), some (.val (.int (200 + (e : Nat)))), some (.own (iL (List.replicate 20 10))), none, none, none, none, none, none, none, none] g = .nx [some (.val .st), some (.val (.int (200 + (e : Nat)))), some (.own (iL (List.replicate 20 10))), some (.val (.int (i : Nat))), none, none, none, none, none, none, none] g1 := by
    generalize iL _ = X
    simp [e1, mkCell]
  have a3 : exS (Mi.call T (k + 1)) (.asg 4 (.op .mod (.bi .int [(.op .add (.op .add (.nm 3) (.lit (.int 1))) (.call 20 [(.nm 0), (.lit (.int 19))]))]) (.lit (.int 20)))) [some (.val .st), some (.val (.int (200 + (e : Nat)))), some (.own (iL (List.replicate 20 10))), some (.val (.int (i : Nat))), none, none, none, none, none, none, none] g1 = .nx [some (.val .st), some (.val (.int (200 + (e : Nat)))), some (.own (iL (List.replicate 20 10))), some (.val (.int (i : Nat))), some (.val (.int (j : Nat))), none, none, none, none, none, none] g2 := by
    generalize iL _ = X
    simp [e2, hj, mkCell]
  have a4 := set_at (c := Mi.call T (k + 1)) (g := g2) (ρ := [some (.val .st), some (.val (.int (200 + (e : Nat)))), some (.own (iL (List.replicate 20 10))), some (.val (.int (i : Nat))), some (.val (.int (j : Nat))), none, none, none, none, none, none]) (i := 3) (e := .lit (.int 11)) (L := List.replicate 20 10) (j := i) (v := 11) rfl rfl (by rw [L0.len]; exact hi) (by simp)
  generalize hX1 : (List.replicate 20 10).set i 11 = M1 at a4 L1 L2
  have a5 := set_at (c := Mi.call T (k + 1)) (g := g2) (ρ := [some (.val .st), some (.val (.int (200 + (e : Nat)))), some (.own (iL M1)), some (.val (.int (i : Nat))), some (.val (.int (j : Nat))), none, none, none, none, none, none]) (i := 4) (e := .lit (.int 9)) (L := M1) (j := j) (v := 9) rfl rfl (by rw [L1.len]; exact hj2) (by simp)
  have g9 : (M1.set j 9)[j]'(by rw [L2.len]; exact hj2) = 9 := by rw [List.getElem_set_self]
  generalize hX2 : M1.set j 9 = M2 at a5 L2 g9
  have a6 : exS (Mi.call T (k + 1)) (.asg 5 (.cmp .eq (.call 20 [(.nm 0), (.lit (.int 2))]) (.lit (.int 1)))) [some (.val .st), some (.val (.int (200 + (e : Nat)))), some (.own (iL M2)), some (.val (.int (i : Nat))), some (.val (.int (j : Nat))), none, none, none, none, none, none] g2 = .nx [some (.val .st), some (.val (.int (200 + (e : Nat)))), some (.own (iL M2)), some (.val (.int (i : Nat))), some (.val (.int (j : Nat))), some (.val (.bl (v == 1))), none, none, none, none, none] g3 := by
    generalize iL _ = X
    simp [e3, mkCell]
  obtain ⟨M3, L3, a7⟩ : ∃ M3, Szs M3 (if (v == 1) = true then 197 else 200) 11 ∧ exS (Mi.call T (k + 1)) (.ife (.nm 5) [.setix 2 (.nm 4) (.lit (.int 6))] []) [some (.val .st), some (.val (.int (200 + (e : Nat)))), some (.own (iL M2)), some (.val (.int (i : Nat))), some (.val (.int (j : Nat))), some (.val (.bl (v == 1))), none, none, none, none, none] g3 = .nx [some (.val .st), some (.val (.int (200 + (e : Nat)))), some (.own (iL M3)), some (.val (.int (i : Nat))), some (.val (.int (j : Nat))), some (.val (.bl (v == 1))), none, none, none, none, none] g3 := by
    cases hv : v == 1 with
    | false =>
      refine ⟨M2, L2, ?_⟩
      generalize iL _ = X
      simp
    | true =>
      refine ⟨M2.set j 6, L2.put hj2 (by decide) (by decide) (by rw [g9]; rfl), ?_⟩
      have b1 := set_at (c := Mi.call T (k + 1)) (g := g3) (ρ := [some (.val .st), some (.val (.int (200 + (e : Nat)))), some (.own (iL M2)), some (.val (.int (i : Nat))), some (.val (.int (j : Nat))), some (.val (.bl true)), none, none, none, none, none]) (i := 4) (e := .lit (.int 6)) (L := M2) (j := j) (v := 6) rfl rfl (by rw [L2.len]; exact hj2) (by simp)
      rw [exS_ife]
      have b2 : brw (.nm 5) [some (.val .st), some (.val (.int (200 + (e : Nat)))), some (.own (iL M2)), some (.val (.int (i : Nat))), some (.val (.int (j : Nat))), some (.val (.bl true)), none, none, none, none, none] g3 (ev (Mi.call T (k + 1)) (.nm 5) [some (.val .st), some (.val (.int (200 + (e : Nat)))), some (.own (iL M2)), some (.val (.int (i : Nat))), some (.val (.int (j : Nat))), some (.val (.bl true)), none, none, none, none, none] g3) = .ok (.bl true) g3 := by
        generalize iL _ = X
        simp
      rw [b2, Mi.R.st_ok]
      show exL _ [_] _ _ = _
      rw [exL_cons, b1, SR.seq_nx]
      rfl
  have a8 : exS (Mi.call T (k + 1)) (.asg 6 (.call 20 [(.nm 0), (.lit (.int 20))])) [some (.val .st), some (.val (.int (200 + (e : Nat)))), some (.own (iL M3)), some (.val (.int (i : Nat))), some (.val (.int (j : Nat))), some (.val (.bl (v == 1))), none, none, none, none, none] g3 = .nx [some (.val .st), some (.val (.int (200 + (e : Nat)))), some (.own (iL M3)), some (.val (.int (i : Nat))), some (.val (.int (j : Nat))), some (.val (.bl (v == 1))), some (.val (.int (m : Nat))), none, none, none, none] g4 := by
    generalize iL _ = X
    simp [e4, mkCell]
  have hm3 : m < M3.length := by rw [L3.len]; exact hm
  have b3 := at_iL hm3
  have b4 := L3.lo M3[m] (List.getElem_mem hm3)
  have b5 := L3.hi M3[m] (List.getElem_mem hm3)
  have a9 := set_at (c := Mi.call T (k + 1)) (g := g4) (ρ := [some (.val .st), some (.val (.int (200 + (e : Nat)))), some (.own (iL M3)), some (.val (.int (i : Nat))), some (.val (.int (j : Nat))), some (.val (.bl (v == 1))), some (.val (.int (m : Nat))), none, none, none, none]) (i := 6) (e := .op .sub (.op .add (.ix (.nm 2) (.nm 6)) (.nm 1)) (.lit (.int 200))) (L := M3) (j := m) (v := M3[m] + e) rfl rfl hm3 (by
    have : ((M3[m] : Nat) : Int) + (200 + (e : Nat)) - 200 = ((M3[m] + e : Nat) : Int) := by omega
    rw [← this]
    generalize hY : iL M3 = Y at b3
    simp [b3])
  have L4 : Szs (M3.set m (M3[m] + e)) (if (v == 1) = true then 197 + e else 200 + e) 12 := Szs.put (m := 12) ⟨L3.len, L3.sum, L3.lo, fun x hx => by have := L3.hi x hx; omega⟩ hm (by omega) (by omega) (by split <;> omega)
  refine ⟨M3.set m (M3[m] + e), v == 1, .val (.int (i : Nat)), .val (.int (j : Nat)), .val (.int (m : Nat)), g4, ?_, L4, h4⟩
  generalize hM : M3.set m (M3[m] + e) = M4 at a9
  have a10 : exS (Mi.call T (k + 1)) (.asg 7 (.lst [])) [some (.val .st), some (.val (.int (200 + (e : Nat)))), some (.own (iL M4)), some (.val (.int (i : Nat))), some (.val (.int (j : Nat))), some (.val (.bl (v == 1))), some (.val (.int (m : Nat))), none, none, none, none] g4 = .nx (wdE (200 + (e : Nat)) M4 (.val (.int (i : Nat))) (.val (.int (j : Nat))) (.val (.bl (v == 1))) (.val (.int (m : Nat))) [] none none none) g4 := by
    unfold wdE
    generalize iL _ = X
    simp [mkCell]
  rw [exL_cons, a1, SR.seq_nx, exL_cons, a2, SR.seq_nx, exL_cons, a3, SR.seq_nx, exL_cons, a4, SR.seq_nx, exL_cons]
  show (exS _ _ [some (.val .st), some (.val (.int (200 + (e : Nat)))), some (.own (iL M1)), some (.val (.int (i : Nat))), some (.val (.int (j : Nat))), none, none, none, none, none, none] g2).seq _ = _
  rw [a5, SR.seq_nx, exL_cons]
  show (exS _ _ [some (.val .st), some (.val (.int (200 + (e : Nat)))), some (.own (iL M2)), some (.val (.int (i : Nat))), some (.val (.int (j : Nat))), none, none, none, none, none, none] g2).seq _ = _
  rw [a6, SR.seq_nx, exL_cons, a7, SR.seq_nx, exL_cons, a8, SR.seq_nx, exL_cons, a9, SR.seq_nx, exL_cons]
  show (exS _ _ [some (.val .st), some (.val (.int (200 + (e : Nat)))), some (.own (iL M4)), some (.val (.int (i : Nat))), some (.val (.int (j : Nat))), some (.val (.bl (v == 1))), some (.val (.int (m : Nat))), none, none, none, none] g4).seq _ = _
  rw [a10, SR.seq_nx]
  rfl
end
end K61


set_option Elab.async false
set_option maxRecDepth 10000
set_option maxHeartbeats 8000000
set_option linter.unusedSimpArgs false
set_option linter.unusedVariables false
/-! k61: the wide source's end. -/
namespace K61
open PySem L2 Mi Mi.Pl
def bitT : Te := .cmp "bits" .len 3
section
variable {k : Nat} {g : Gs}
theorem wide_d (h : Ok g) {e : Nat} (he : e ≤ 1) : ∃ (b : Bk) (g' : Gs), Mi.call T (k + 2) 33 [.st, .int (200 + (e : Nat))] g = .ok b.d g' ∧ b.ok = true ∧ b.ds.length ≤ 20 ∧ b.h ≤ 13 ∧ b.c = 200 + e ∧ Ok g' := by
  obtain ⟨L, n, c3, c4, c6, g1, e1, hL, h1⟩ := wd0 (k := k) h he
  obtain ⟨l, z8, z9, z10, e2, l1, l2, l3⟩ := wd2 (k := k) (g := g1) (total := 200 + (e : Nat)) (c3 := c3) (c4 := c4) (c5 := .val (.bl n)) (c6 := c6) hL none none none
  have k1 : ∀ p ∈ l, p.ok = true := fun p hp => (l2 p hp).1
  have k2 : ∀ p ∈ l, p.h ≤ 11 := fun p hp => (l2 p hp).2
  have go : ∀ (b : Bk), exL (Mi.call T (k + 1)) [.ife (.nm 5) [
    .ret (.op .add (.bi .tuple [(.sl (.nm 7) (.lit .non) (.part (.lit (.int 12))))]) (.tup [(.tup [(.lit (.str "if")), (.tup [(.lit (.str "bits")), (.tup [(.lit (.str "len"))]), (.lit (.int 3))]), (.bi .tuple [(.sl (.nm 7) (.part (.lit (.int 12))) (.lit .non))]), (.tup [])])]))] [],
  .ret (.bi .tuple [(.nm 7)])] (wdE (200 + (e : Nat)) L c3 c4 (.val (.bl n)) c6 (l.map Pt.d) z8 z9 z10) g1 = .rt b.d g1 → Mi.call T (k + 2) 33 [.st, .int (200 + (e : Nat))] g = .ok b.d g1 := fun b hb => by
    rw [call_def d_law_wide rfl]
    unfold b_law_wide
    rw [exL_split 10 e1]
    show fin (exL _ (_ :: _) _ _) = _
    rw [exL_cons]
    show fin ((exS _ (.forS (.nm 8) (.irng1 (.lit (.int 20))) wdB2) _ _).seq _) = _
    rw [e2, SR.seq_nx]
    show fin (exL _ _ _ _) = _
    rw [hb]
    rfl
  cases n with
  | false =>
    refine ⟨ofL l, g1, go _ ?_, ofL_ok k1, by rw [ofL_ds, List.length_map]; omega, by have := ofL_h k2; omega, by rw [ofL_sum, l3]; rfl, h1⟩
    unfold Bk.d wdE
    rw [ofL_ds]
    generalize iL L = Y
    generalize l.map Pt.d = X
    simp
  | true =>
    have t1 : ∀ p ∈ l.take 12, p.ok = true := fun p hp => k1 p (List.mem_of_mem_take hp)
    have t2 : ∀ p ∈ l.drop 12, p.ok = true := fun p hp => k1 p (List.mem_of_mem_drop hp)
    have t3 : ∀ p ∈ l.drop 12, p.h ≤ 11 := fun p hp => k2 p (List.mem_of_mem_drop hp)
    have bo : bitT.ok = true := by decide +kernel
    have bd : bitT.d = .tup [.str "bits", .tup [.str "len"], .int 3] := by kernel_rfl
    have o2 := ofL_ok t2
    have hh := ofL_h t3
    have dl : (ofL (l.drop 12)).ds.length ≤ 20 := by rw [ofL_ds, List.length_map, List.length_drop]; omega
    have nok : (Pt.ife bitT (ofL (l.drop 12)) .nil).ok = true := by rw [Pt.ok, bo, o2]; simp [Bk.ok, Bk.ds]; simpa using dl
    have nh : (Pt.ife bitT (ofL (l.drop 12)) .nil).h ≤ 12 := by simp only [Pt.h, Bk.h, bitT, Te.h, Am.h]; omega
    have nc : (Pt.ife bitT (ofL (l.drop 12)) .nil).c = 3 + ((l.drop 12).map Pt.c).sum := by simp only [Pt.c, Bk.c, bitT, Te.c, Am.c, ofL_sum]; omega
    have sm : ((l.take 12).map Pt.c).sum + ((l.drop 12).map Pt.c).sum = 197 + e := by
      rw [← List.sum_append, ← List.map_append, List.take_append_drop, l3]; rfl
    refine ⟨ofL (l.take 12 ++ [Pt.ife bitT (ofL (l.drop 12)) .nil]), g1, go _ ?_, ofL_ok ?_, ?_, ?_, ?_, h1⟩
    · unfold Bk.d wdE
      rw [ofL_ds, List.map_append, List.map_cons, List.map_nil, Pt.d, ofL_ds, bd, List.map_take, List.map_drop]
      have lx : (l.map Pt.d).length = 20 := by rw [List.length_map, l1]
      have cu1 : cutD (l.map Pt.d) none (some 12) = (l.map Pt.d).take 12 := cutD_take _ 12
      have cu2 : cutD (l.map Pt.d) (some 12) none = (l.map Pt.d).drop 12 := cutD_drop _ 12
      have s2 : ((l.map Pt.d).take 12).length + 1 ≤ sizeLine := by
        have := sizeLine_ge (n := 100) (by decide)
        rw [List.length_take]; omega
      generalize iL L = Y
      generalize l.map Pt.d = X at cu1 cu2 s2
      simp only [List.length_take] at s2
      simp [partD, slD, cu1, cu2, s2, Bk.ds]
    · intro p hp
      rcases List.mem_append.mp hp with hp | hp
      · exact t1 p hp
      · rw [List.mem_singleton.mp hp]; exact nok
    · rw [ofL_ds, List.length_map, List.length_append, List.length_take]; simp only [List.length_singleton]; omega
    · have := ofL_h (m := 12) (l := l.take 12 ++ [Pt.ife bitT (ofL (l.drop 12)) .nil]) (fun p hp => by
        rcases List.mem_append.mp hp with hp | hp
        · have := k2 p (List.mem_of_mem_take hp); omega
        · rw [List.mem_singleton.mp hp]; exact nh)
      omega
    · rw [ofL_sum, List.map_append, List.sum_append, List.map_cons, List.map_nil, nc]
      simp only [List.sum_cons, List.sum_nil]
      omega
end
end K61
namespace K61
open PySem L2 Mi Mi.Pl
section
variable {k : Nat} {g : Gs}
theorem wide_good (h : Ok g) : ∃ (b : Bk) (g' : Gs), Mi.call T (k + 2) 33 [.st, .int 200] g = .ok b.d g' ∧ Good b b.d ∧ Ok g' := by
  obtain ⟨b, g', e, b1, b2, b3, b4, h'⟩ := wide_d (k := k) h (e := 0) (by decide)
  exact ⟨b, g', e, good_of b1 b2 b3 (by omega), h'⟩
theorem wide_bad (h : Ok g) : ∃ (d : D) (g' : Gs), Mi.call T (k + 2) 33 [.st, .int 201] g = .ok d g' ∧ Bad d ∧ Ok g' := by
  obtain ⟨b, g', e, b1, b2, b3, b4, h'⟩ := wide_d (k := k) h (e := 1) (by decide)
  have := bk_dpt b
  refine ⟨b.d, g', e, ⟨bk_fine b1 (by omega), by omega, ?_⟩, h'⟩
  rw [cnt_bk b1, if_neg (by omega)]
end
end K61


set_option Elab.async false
set_option maxRecDepth 10000
set_option maxHeartbeats 8000000
set_option linter.unusedSimpArgs false
set_option linter.unusedVariables false
/-! k61: the whole. -/
namespace K61
open PySem L2 Mi Mi.Pl
def giveD : D := .tup [.str "give", .tup [.str "len"]]
def lenD : D := .tup [.str "len"]
def wholeD : List D := [.non, .int 5, .str "", .bl true, .str "{ }", giveD, lenD, .tup [.tup []], .tup [lenD], .bl false]
theorem whole_bad : ∀ d ∈ wholeD, Bad d := by
  intro d hd
  have lf : ∀ d : D, partsP .bl d = none → fineD d = true → dpt d ≤ 30 → Bad d := fun d h1 h2 h3 => ⟨h2, h3, bd_cnt (bd_leaf h1)⟩
  have ln : ∀ (z : D) (xs : List D), z ∈ xs → partsP .ln z = none → fineD (.tup xs) = true → dpt (.tup xs) ≤ 30 → Bad (.tup xs) := fun z xs hz h1 h2 h3 => ⟨h2, h3, bd_cnt (bd_block hz (bd_leaf h1))⟩
  simp only [wholeD, List.mem_cons, List.not_mem_nil, or_false] at hd
  rcases hd with rfl | rfl | rfl | rfl | rfl | rfl | rfl | rfl | rfl | rfl
  · exact lf _ (by kernel_rfl) (by decide +kernel) (by decide +kernel)
  · exact lf _ (by kernel_rfl) (by decide +kernel) (by decide +kernel)
  · exact lf _ (by kernel_rfl) (by decide +kernel) (by decide +kernel)
  · exact lf _ (by kernel_rfl) (by decide +kernel) (by decide +kernel)
  · exact lf _ (by kernel_rfl) (by decide +kernel) (by decide +kernel)
  · exact ln (.str "give") _ List.mem_cons_self (by kernel_rfl) (by decide +kernel) (by decide +kernel)
  · exact ln (.str "len") _ List.mem_cons_self (by kernel_rfl) (by decide +kernel) (by decide +kernel)
  · exact ln (.tup []) _ List.mem_cons_self (by kernel_rfl) (by decide +kernel) (by decide +kernel)
  · exact ln lenD _ List.mem_cons_self (by kernel_rfl) (by decide +kernel) (by decide +kernel)
  · exact lf _ (by kernel_rfl) (by decide +kernel) (by decide +kernel)
def lwE (s2 s3 s4 : Option Cell) : Mi.Env := [none, some (.val .st), s2, s3, s4]
section
variable {g : Gs}
/-- a draw that is right -/
theorem if_right {e : E} {b : Bk} {g1 g2 : Gs} {s2 s3 s4 : Option Cell} (h1 : ev (Mi.call T 60) e (lwE s2 s3 s4) g = .ok b.d g1) (h2 : Mi.call T 60 40 [.st, b.d] g1 = .ok (.bl true) g2) :
    ev (Mi.call T 60) (.tnot (.call 40 [(.nm 1), e])) (lwE s2 s3 s4) g = .ok (.bl false) g2 := by
  generalize b.d = X at h1 h2
  unfold lwE at h1 ⊢
  simp [h1, h2]
theorem if_wrong {e : E} {d : D} {g1 g2 : Gs} {s2 s3 s4 : Option Cell} (h1 : ev (Mi.call T 60) e (lwE s2 s3 s4) g = .ok d g1) (h2 : Mi.call T 60 41 [.st, d] g1 = .ok (.bl true) g2) :
    ev (Mi.call T 60) (.tnot (.call 41 [(.nm 1), e])) (lwE s2 s3 s4) g = .ok (.bl false) g2 := by
  unfold lwE at h1 ⊢
  simp [h1, h2]
theorem if_not {e : E} {g2 : Gs} {ρ : Mi.Env} (h : brw e ρ g (ev (Mi.call T 60) e ρ g) = .ok (.bl false) g2) : exS (Mi.call T 60) (.ife e [.ret (.lit (.bl false))] []) ρ g = .nx ρ g2 := by
  rw [exS_ife, h, Mi.R.st_ok]
  show exL _ [] _ _ = _
  simp
theorem if_notT {e : E} {g2 : Gs} {ρ : Mi.Env} (h : ev (Mi.call T 60) (.tnot e) ρ g = .ok (.bl false) g2) : exS (Mi.call T 60) (.ife (.tnot e) [.ret (.lit (.bl false))] []) ρ g = .nx ρ g2 := if_not (e := .tnot e) h
theorem if_or {e f : E} {g1 g2 : Gs} {ρ : Mi.Env} (h1 : ev (Mi.call T 60) (.tnot e) ρ g = .ok (.bl false) g1) (h2 : ev (Mi.call T 60) (.tnot f) ρ g1 = .ok (.bl false) g2) :
    brw (.tor (.tnot e) (.tnot f)) ρ g (ev (Mi.call T 60) (.tor (.tnot e) (.tnot f)) ρ g) = .ok (.bl false) g2 := by
  show ev (Mi.call T 60) (.tor (.tnot e) (.tnot f)) ρ g = _
  rw [ev_tor]
  show ((ev (Mi.call T 60) (.tnot e) ρ g).bind _) = _
  rw [h1, Mi.R.bind_ok]
  show ((ev (Mi.call T 60) (.tnot f) ρ g1).bind _) = _
  rw [h2, Mi.R.bind_ok]
  rfl
theorem ones (h : Ok g) (s3 s4 : Option Cell) : ∃ (s2 : Option Cell) (g' : Gs), exS (Mi.call T 60) (.forS (.nm 2) (.irng1 (.lit (.int 3))) [
    .ife (.tnot (.call 48 [(.nm 1)])) [
      .ret (.lit (.bl false))] []]) (lwE none s3 s4) g = .nx (lwE s2 s3 s4) g' ∧ Ok g' := by
  obtain ⟨ρ', g', e, z, rfl, hg⟩ := forS_items (c := Mi.call T 60) (i := 2) (it := .irng1 (.lit (.int 3))) (body := [
    .ife (.tnot (.call 48 [(.nm 1)])) [
      .ret (.lit (.bl false))] []]) (g := g) (g1 := g)
    (ρ0 := lwE none s3 s4) ((List.range 3).map fun (k : Nat) => D.int k)
    (fun j ρ g' => ∃ s2 : Option Cell, ρ = lwE s2 s3 s4 ∧ Ok g')
    ⟨none, rfl, h⟩ (evJ_rngS (n := 3) (by simp [lwE]) (by omega)) fun j hj ρ g2 ⟨z, q1, q2⟩ => by
      subst q1
      obtain ⟨g3, e1, h3⟩ := one_place_ok (k := 14) q2
      have e1 : Mi.call T 60 48 [.st] g2 = .ok (.bl true) g3 := e1
      refine ⟨_, g3, ?_, some (.val (((List.range 3).map fun (k : Nat) => D.int k)[j])), rfl, h3⟩
      show exL _ _ (lwE (some (.val _)) s3 s4) g2 = _
      rw [exL_cons, if_not (g2 := g3) (by
        unfold lwE
        simp [e1]), SR.seq_nx]
      rfl
  exact ⟨z, g', e, hg⟩
theorem law_rest (h : Ok g) : ∃ g', exL (Mi.call T 60) b_law [none, some (.val .st), none, none, none] g = .rt (.bl true) g' := by
  obtain ⟨b1, g1, a1, c1, h1⟩ := source_d (k := 40) h
  obtain ⟨g2, a2, h2⟩ := right_ok (k := 15) c1 h1
  obtain ⟨s2, g3, a3, h3⟩ := ones h2 none none
  obtain ⟨w, g4, a4, w1, w2, h4⟩ := draw' h3 4 (by decide) (by decide)
  obtain ⟨b5, g5, a5, c5, h5⟩ := full_good (k := 57) h4 w1 w2
  obtain ⟨g6, a6, h6⟩ := right_ok (k := 15) c5 h5
  obtain ⟨d7, g7, a7, c7, h7⟩ := full_bad (k := 57) h6 w1 w2
  obtain ⟨g8, a8, h8⟩ := wrong_ok (k := 15) c7 h7
  obtain ⟨b9, g9, a9, c9, h9⟩ := tower_good (k := 58) h8
  obtain ⟨g10, a10, h10⟩ := right_ok (k := 15) c9 h9
  obtain ⟨d11, g11, a11, c11, h11⟩ := tower_bad (k := 58) h10
  obtain ⟨g12, a12, h12⟩ := wrong_ok (k := 15) c11 h11
  obtain ⟨b13, g13, a13, c13, h13⟩ := wide_good (k := 58) h12
  obtain ⟨g14, a14, h14⟩ := right_ok (k := 15) c13 h13
  obtain ⟨d15, g15, a15, c15, h15⟩ := wide_bad (k := 58) h14
  obtain ⟨g16, a16, h16⟩ := wrong_ok (k := 15) c15 h15
  obtain ⟨v, g17, a17, v1, v2, h17⟩ := draw' h16 10 (by decide) (by decide)
  obtain ⟨d18, a18, c18⟩ := pick (xs := wholeD) v1 (by exact v2) Bad whole_bad
  obtain ⟨g19, a19, h19⟩ := wrong_ok (k := 15) c18 h17
  obtain ⟨g20, a20, h20⟩ := right_ok (k := 15) (b := .nil) (good_of rfl (by decide) (by decide) (by decide)) h19
  have a1 : Mi.call T 60 31 [.st, .int 6, .bl true, .int 200] g = .ok b1.d g1 := a1
  have a5 : Mi.call T 60 49 [.st, .int 20, .int w] g4 = .ok b5.d g5 := a5
  have a7 : Mi.call T 60 49 [.st, .int 21, .int w] g6 = .ok d7 g7 := a7
  have a9 : Mi.call T 60 32 [.st, .int 12] g8 = .ok b9.d g9 := a9
  have a11 : Mi.call T 60 32 [.st, .int 13] g10 = .ok d11 g11 := a11
  have a13 : Mi.call T 60 33 [.st, .int 200] g12 = .ok b13.d g13 := a13
  have a15 : Mi.call T 60 33 [.st, .int 201] g14 = .ok d15 g15 := a15
  have a17 : Mi.call T 60 20 [.st, .int 10] g16 = .ok (.int v) g17 := a17 59
  have a19 : Mi.call T 60 41 [.st, d18] g17 = .ok (.bl true) g19 := a19
  have a20 : Mi.call T 60 40 [.st, .tup []] g19 = .ok (.bl true) g20 := a20
  refine ⟨g20, ?_⟩
  unfold b_law
  have n1 : ev (Mi.call T 60) (.call 31 [(.nm 1), (.lit (.int 6)), (.lit (.bl true)), (.lit (.int 200))]) (lwE none none none) g = .ok b1.d g1 := by
    generalize b1.d = X at a1
    unfold lwE
    simp [a1]
  have i1 := if_notT (if_right n1 a2)
  have i4 : exS (Mi.call T 60) (.asg 3 (.call 20 [(.nm 1), (.lit (.int 4))])) (lwE s2 none none) g3 = .nx (lwE s2 (some (.val (.int w))) none) g4 := by
    have a4 : Mi.call T 60 20 [.st, .int 4] g3 = .ok (.int w) g4 := a4 59
    unfold lwE
    simp [a4, mkCell]
  have n5 : ev (Mi.call T 60) (.call 49 [(.nm 1), (.lit (.int 20)), (.nm 3)]) (lwE s2 (some (.val (.int w))) none) g4 = .ok b5.d g5 := by
    generalize b5.d = X at a5
    unfold lwE
    simp [a5]
  have i5 := if_notT (if_right n5 a6)
  have n6 : ev (Mi.call T 60) (.call 49 [(.nm 1), (.lit (.int 21)), (.nm 3)]) (lwE s2 (some (.val (.int w))) none) g6 = .ok d7 g7 := by
    unfold lwE
    simp [a7]
  have i6 := if_notT (if_wrong n6 a8)
  have n7 : ev (Mi.call T 60) (.call 32 [(.nm 1), (.lit (.int 12))]) (lwE s2 (some (.val (.int w))) none) g8 = .ok b9.d g9 := by
    generalize b9.d = X at a9
    unfold lwE
    simp [a9]
  have n8 : ev (Mi.call T 60) (.call 32 [(.nm 1), (.lit (.int 13))]) (lwE s2 (some (.val (.int w))) none) g10 = .ok d11 g11 := by
    unfold lwE
    simp [a11]
  have i7 := if_not (if_or (if_right n7 a10) (if_wrong n8 a12))
  have n9 : ev (Mi.call T 60) (.call 33 [(.nm 1), (.lit (.int 200))]) (lwE s2 (some (.val (.int w))) none) g12 = .ok b13.d g13 := by
    generalize b13.d = X at a13
    unfold lwE
    simp [a13]
  have n10 : ev (Mi.call T 60) (.call 33 [(.nm 1), (.lit (.int 201))]) (lwE s2 (some (.val (.int w))) none) g14 = .ok d15 g15 := by
    unfold lwE
    simp [a15]
  have i8 := if_not (if_or (if_right n9 a14) (if_wrong n10 a16))
  have i9 : exS (Mi.call T 60) (.asg 4 (.lst [(.lit .non), (.lit (.int 5)), (.lit (.str "")), (.lit (.bl true)), (.lit (.str "{ }")), (.tup [(.lit (.str "give")), (.tup [(.lit (.str "len"))])]), (.tup [(.lit (.str "len"))]), (.tup [(.tup [])]), (.tup [(.tup [(.lit (.str "len"))])]), (.lit (.bl false))])) (lwE s2 (some (.val (.int w))) none) g16 = .nx (lwE s2 (some (.val (.int w))) (some (.own wholeD))) g16 := by kernel_rfl
  show exL _ _ (lwE none none none) g = _
  rw [exL_cons, i1, SR.seq_nx, exL_cons, a3, SR.seq_nx, exL_cons, i4, SR.seq_nx, exL_cons, i5, SR.seq_nx, exL_cons, i6, SR.seq_nx, exL_cons, i7, SR.seq_nx, exL_cons, i8, SR.seq_nx, exL_cons, i9, SR.seq_nx]
  have wl : wholeD.length = 10 := rfl
  unfold lwE
  generalize wholeD = W at a18 wl ⊢
  simp [wl, a17, a18, a19, a20]
theorem plain : Plain T 60 5 1 (fun ds => ds ++ []) 19 b_law := fun ns hns => by
  obtain ⟨a, b, e, h1, h2⟩ := begin_ok (k := 59) (g := offS) hns
  obtain ⟨g', e2⟩ := law_rest (g := mkG a b 0) ⟨a, b, 0, rfl, h1, h2⟩
  exact ⟨_, _, _, g', e, begin_row, List.nodup_nil, e2⟩
end
end K61


set_option Elab.async true
def PySem.Challenge.cw_packetoaths_k61_sources_are_checked_holds.tw12646263807058718702 : Nat := 0
def PySem.Challenge.cw_packetoaths_k61_sources_are_checked_holds.tw17067034921589115063 : Nat := 0
def PySem.Challenge.cw_packetoaths_k61_sources_are_checked_holds.tw15673771629282588041 : Nat := 0
def PySem.Challenge.cw_packetoaths_k61_sources_are_checked_holds.tw14991683722714716232 : Nat := 0
open PySem PySem.W PyProof.Rows in
set_option maxRecDepth 100000 in
set_option maxHeartbeats 0 in
theorem PySem.Challenge.cw_packetoaths_k61_sources_are_checked_holds : PySem.Challenge.rw_packetoaths_k61_sources_are_checked.Holds := by
  w_on; o_law; k_head; (case hw => w_witness2)
  k_fill
  refine Mi.walk (l := PySem.Challenge.rw_packetoaths_k61_sources_are_checked) (k := 60) rfl rfl ⟨rfl, by decide, by decide⟩ (fun w h Y => (by first | exact PySem.W.kIn_of Y | exact PySem.W.km_in_of Y)) ?F
  case F =>
    intro w mg fa h KX G hmg
    refine' Mi.law_mk (l := PySem.Challenge.rw_packetoaths_k61_sources_are_checked) (st := K61.topS 82) KX G hmg ?aL ?lL ?cL ?kL (K61.tx_law K61.plain) K61.okT
      (K61.T_ds (.cons (Mi.defAt_mk KX G ?a_is_from_to ?l_is_from_to ?c_is_from_to ?k_is_from_to K61.tx_is_from_to) (.cons (Mi.defAt_mk KX G ?a_is_row ?l_is_row ?c_is_row ?k_is_row K61.tx_is_row) (.cons (Mi.defAt_mk KX G ?a_is_word ?l_is_word ?c_is_word ?k_is_word K61.tx_is_word) (.cons (Mi.defAt_mkD KX G ?a_tupled ?l_tupled ?T_tupled ?u_tupled ?c_tupled ?k_tupled K61.tx_tupled) (.cons (Mi.defAt_mk KX G ?a_fits_form ?l_fits_form ?c_fits_form ?k_fits_form K61.tx_fits_form) (.cons (Mi.defAt_mk KX G ?a_is_variable ?l_is_variable ?c_is_variable ?k_is_variable K61.tx_is_variable) (.cons (Mi.defAt_mk KX G ?a_amount_shape ?l_amount_shape ?c_amount_shape ?k_amount_shape K61.tx_amount_shape) (.cons (Mi.defAt_mk KX G ?a_test_shape ?l_test_shape ?c_test_shape ?k_test_shape K61.tx_test_shape) (.cons (Mi.defAt_mk KX G ?a_line_shape ?l_line_shape ?c_line_shape ?k_line_shape K61.tx_line_shape) (.cons (Mi.defAt_mk KX G ?a_parts_of ?l_parts_of ?c_parts_of ?k_parts_of K61.tx_parts_of) (.cons (Mi.defAt_mk KX G ?a_count_parts ?l_count_parts ?c_count_parts ?k_count_parts K61.tx_count_parts) (.cons (Mi.defAt_mk KX G ?a_checked_source ?l_checked_source ?c_checked_source ?k_checked_source K61.tx_checked_source) (.cons (Mi.defAt_mk KX G ?a_check_source ?l_check_source ?c_check_source ?k_check_source K61.tx_check_source) (.cons (Mi.defAt_mk KX G ?a_parts_in ?l_parts_in ?c_parts_in ?k_parts_in K61.tx_parts_in) (.cons (Mi.defAt_mk KX G ?a_all_parts ?l_all_parts ?c_all_parts ?k_all_parts K61.tx_all_parts) (.cons (Mi.defAt_mk KX G ?a_variables_in ?l_variables_in ?c_variables_in ?k_variables_in K61.tx_variables_in) (.cons (Mi.defAt_mk KX G ?a_variables_of ?l_variables_of ?c_variables_of ?k_variables_of K61.tx_variables_of) (.cons (Mi.defAt_mk KX G ?a_nested_in ?l_nested_in ?c_nested_in ?k_nested_in K61.tx_nested_in) (.cons (Mi.defAt_mk KX G ?a_blocks_deep ?l_blocks_deep ?c_blocks_deep ?k_blocks_deep K61.tx_blocks_deep) (.cons (Mi.defAt_mk KX G ?a_law_begin ?l_law_begin ?c_law_begin ?k_law_begin K61.tx_law_begin) (.cons (Mi.defAt_mk KX G ?a_law_draw ?l_law_draw ?c_law_draw ?k_law_draw K61.tx_law_draw) (.cons (Mi.defAt_mk KX G ?a_law_same ?l_law_same ?c_law_same ?k_law_same K61.tx_law_same) (.cons (Mi.defAt_mk KX G ?a_law_lists ?l_law_lists ?c_law_lists ?k_law_lists K61.tx_law_lists) (.cons (Mi.defAt_mk KX G ?a_law_error ?l_law_error ?c_law_error ?k_law_error K61.tx_law_error) (.cons (Mi.defAt_mk KX G ?a_law_parts ?l_law_parts ?c_law_parts ?k_law_parts K61.tx_law_parts) (.cons (Mi.defAt_mk KX G ?a_law_word ?l_law_word ?c_law_word ?k_law_word K61.tx_law_word) (.cons (Mi.defAt_mk KX G ?a_law_leaf ?l_law_leaf ?c_law_leaf ?k_law_leaf K61.tx_law_leaf) (.cons (Mi.defAt_mk KX G ?a_law_amount ?l_law_amount ?c_law_amount ?k_law_amount K61.tx_law_amount) (.cons (Mi.defAt_mk KX G ?a_law_test ?l_law_test ?c_law_test ?k_law_test K61.tx_law_test) (.cons (Mi.defAt_mk KX G ?a_law_part ?l_law_part ?c_law_part ?k_law_part K61.tx_law_part) (.cons (Mi.defAt_mk KX G ?a_law_block ?l_law_block ?c_law_block ?k_law_block K61.tx_law_block) (.cons (Mi.defAt_mk KX G ?a_law_source ?l_law_source ?c_law_source ?k_law_source K61.tx_law_source) (.cons (Mi.defAt_mk KX G ?a_law_tower ?l_law_tower ?c_law_tower ?k_law_tower K61.tx_law_tower) (.cons (Mi.defAt_mk KX G ?a_law_wide ?l_law_wide ?c_law_wide ?k_law_wide K61.tx_law_wide) (.cons (Mi.defAt_mk KX G ?a_law_check_asked ?l_law_check_asked ?c_law_check_asked ?k_law_check_asked K61.tx_law_check_asked) (.cons (Mi.defAt_mk KX G ?a_law_parts_asked ?l_law_parts_asked ?c_law_parts_asked ?k_law_parts_asked K61.tx_law_parts_asked) (.cons (Mi.defAt_mk KX G ?a_law_variables_asked ?l_law_variables_asked ?c_law_variables_asked ?k_law_variables_asked K61.tx_law_variables_asked) (.cons (Mi.defAt_mk KX G ?a_law_deep_asked ?l_law_deep_asked ?c_law_deep_asked ?k_law_deep_asked K61.tx_law_deep_asked) (.cons (Mi.defAt_mk KX G ?a_law_uses ?l_law_uses ?c_law_uses ?k_law_uses K61.tx_law_uses) (.cons (Mi.defAt_mk KX G ?a_law_nested ?l_law_nested ?c_law_nested ?k_law_nested K61.tx_law_nested) (.cons (Mi.defAt_mk KX G ?a_law_right ?l_law_right ?c_law_right ?k_law_right K61.tx_law_right) (.cons (Mi.defAt_mk KX G ?a_law_wrong ?l_law_wrong ?c_law_wrong ?k_law_wrong K61.tx_law_wrong) (.cons (Mi.defAt_mk KX G ?a_law_wrong_amount ?l_law_wrong_amount ?c_law_wrong_amount ?k_law_wrong_amount K61.tx_law_wrong_amount) (.cons (Mi.defAt_mk KX G ?a_law_wrong_test ?l_law_wrong_test ?c_law_wrong_test ?k_law_wrong_test K61.tx_law_wrong_test) (.cons (Mi.defAt_mk KX G ?a_law_wrong_part ?l_law_wrong_part ?c_law_wrong_part ?k_law_wrong_part K61.tx_law_wrong_part) (.cons (Mi.defAt_mk KX G ?a_law_around_amount ?l_law_around_amount ?c_law_around_amount ?k_law_around_amount K61.tx_law_around_amount) (.cons (Mi.defAt_mk KX G ?a_law_around_test ?l_law_around_test ?c_law_around_test ?k_law_around_test K61.tx_law_around_test) (.cons (Mi.defAt_mk KX G ?a_law_around_part ?l_law_around_part ?c_law_around_part ?k_law_around_part K61.tx_law_around_part) (.cons (Mi.defAt_mk KX G ?a_law_one_place ?l_law_one_place ?c_law_one_place ?k_law_one_place K61.tx_law_one_place) (.cons (Mi.defAt_mk KX G ?a_law_full_block ?l_law_full_block ?c_law_full_block ?k_law_full_block K61.tx_law_full_block) .nil)))))))))))))))))))))))))))))))))))))))))))))))))))
      (.cons (PySem.W.mg_none_of KX G ?z_len) (.cons (PySem.W.mg_none_of KX G ?z_tuple) (.cons (PySem.W.mg_none_of KX G ?z_list) (.cons (PySem.W.mg_none_of KX G ?z_int) (.cons (PySem.W.mg_none_of KX G ?z_sum) (.cons (PySem.W.mg_none_of KX G ?z_all) (.cons (PySem.W.mg_none_of KX G ?z_any) (.cons (PySem.W.mg_none_of KX G ?z_max) (.cons (PySem.W.mg_none_of KX G ?z_min) (.cons (PySem.W.mg_none_of KX G ?z_abs) (.cons (PySem.W.mg_none_of KX G ?z_range) (.cons (PySem.W.mg_none_of KX G ?z_isinstance) (.cons (PySem.W.mg_none_of KX G ?z_bool) (.cons (PySem.W.mg_none_of KX G ?z_str) (.cons (PySem.W.mg_none_of KX G ?z_zip) (.cons (PySem.W.mg_none_of KX G ?z_enumerate) (.cons (PySem.W.mg_none_of KX G ?z_sorted) (.cons (PySem.W.mg_none_of KX G ?z_set) .nil))))))))))))))))))
      (.cons (PySem.W.mg_of KX G ?n_WORD) ?m_WORD (.cons (PySem.W.mg_of KX G ?n_MOST_SHIFT) ?m_MOST_SHIFT (.cons (PySem.W.mg_of KX G ?n_CELLS) ?m_CELLS (.cons (PySem.W.mg_of KX G ?n_WITH_NUMBER) ?m_WITH_NUMBER (.cons (PySem.W.mg_of KX G ?n_VARIABLES) ?m_VARIABLES (.cons (PySem.W.mg_of KX G ?n_MOST_IN_BLOCK) ?m_MOST_IN_BLOCK (.cons (PySem.W.mg_of KX G ?n_MOST_PARTS) ?m_MOST_PARTS (.cons (PySem.W.mg_of KX G ?n_MOST_DEEP) ?m_MOST_DEEP (.cons (PySem.W.mg_of KX G ?n_MOST_NEST) ?m_MOST_NEST (.cons (PySem.W.mg_of KX G ?n_WITH_NAMES) ?m_WITH_NAMES (.cons (PySem.W.mg_of KX G ?n_TESTS) ?m_TESTS .nil)))))))))))
      (.cons (PySem.W.mg_of KX G ?p_FORMS) ?q_FORMS ?r_FORMS (.cons (PySem.W.mg_of KX G ?p_WITH_TESTS) ?q_WITH_TESTS ?r_WITH_TESTS .nil))
      (Mi.clsAll KX G (.cons (Mi.clsAt1 (j := 0) (x := "InvalidShape") (qual := "InvalidShape.__init__") (f := "shape") KX G ?xsup ?xst ?xtop rfl rfl (by decide) ?x0a ?x0b ?x0i ?x0t ?x0f ?x0k ?x0d ?x0v ?x0p ?x0e ?x0l) (.cons (Mi.clsAt1 (j := 1) (x := "InvalidPacket") (qual := "InvalidPacket.__init__") (f := "packet") KX G ?xsup ?xst ?xtop rfl rfl (by decide) ?x1a ?x1b ?x1i ?x1t ?x1f ?x1k ?x1d ?x1v ?x1p ?x1e ?x1l) (.cons (Mi.clsAt1 (j := 2) (x := "InvalidNumber") (qual := "InvalidNumber.__init__") (f := "number") KX G ?xsup ?xst ?xtop rfl rfl (by decide) ?x2a ?x2b ?x2i ?x2t ?x2f ?x2k ?x2d ?x2v ?x2p ?x2e ?x2l) (.cons (Mi.clsAt1 (j := 3) (x := "InvalidValue") (qual := "InvalidValue.__init__") (f := "value") KX G ?xsup ?xst ?xtop rfl rfl (by decide) ?x3a ?x3b ?x3i ?x3t ?x3f ?x3k ?x3d ?x3v ?x3p ?x3e ?x3l) (.cons (Mi.clsAt1 (j := 4) (x := "InvalidProgram") (qual := "InvalidProgram.__init__") (f := "place") KX G ?xsup ?xst ?xtop rfl rfl (by decide) ?x4a ?x4b ?x4i ?x4t ?x4f ?x4k ?x4d ?x4v ?x4p ?x4e ?x4l) (.cons (Mi.clsAt1 (j := 5) (x := "InvalidSource") (qual := "InvalidSource.__init__") (f := "place") KX G ?xsup ?xst ?xtop rfl rfl (by decide) ?x5a ?x5b ?x5i ?x5t ?x5f ?x5k ?x5d ?x5v ?x5p ?x5e ?x5l) (.cons (Mi.clsAt1 (j := 6) (x := "InvalidRules") (qual := "InvalidRules.__init__") (f := "place") KX G ?xsup ?xst ?xtop rfl rfl (by decide) ?x6a ?x6b ?x6i ?x6t ?x6f ?x6k ?x6d ?x6v ?x6p ?x6e ?x6l) (.cons (Mi.clsAt1 (j := 7) (x := "InvalidText") (qual := "InvalidText.__init__") (f := "place") KX G ?xsup ?xst ?xtop rfl rfl (by decide) ?x7a ?x7b ?x7i ?x7t ?x7f ?x7k ?x7d ?x7v ?x7p ?x7e ?x7l) (.cons (Mi.clsAt1 (j := 8) (x := "InvalidLine") (qual := "InvalidLine.__init__") (f := "place") KX G ?xsup ?xst ?xtop rfl rfl (by decide) ?x8a ?x8b ?x8i ?x8t ?x8f ?x8k ?x8d ?x8v ?x8p ?x8e ?x8l) (.cons (Mi.clsAt1 (j := 9) (x := "TooMany") (qual := "TooMany.__init__") (f := "what") KX G ?xsup ?xst ?xtop rfl rfl (by decide) ?x9a ?x9b ?x9i ?x9t ?x9f ?x9k ?x9d ?x9v ?x9p ?x9e ?x9l) (.cons (Mi.clsAt1 (j := 10) (x := "Undefined") (qual := "Undefined.__init__") (f := "what") KX G ?xsup ?xst ?xtop rfl rfl (by decide) ?x10a ?x10b ?x10i ?x10t ?x10f ?x10k ?x10d ?x10v ?x10p ?x10e ?x10l) (.cons (Mi.clsAt1 (j := 11) (x := "NothingDone") (qual := "NothingDone.__init__") (f := "what") KX G ?xsup ?xst ?xtop rfl rfl (by decide) ?x11a ?x11b ?x11i ?x11t ?x11f ?x11k ?x11d ?x11v ?x11p ?x11e ?x11l) (.cons (Mi.clsAt2 (j := 12) (x := "Refused") (qual := "Refused.__init__") KX G ?xsup ?xst ?xtop rfl rfl ?x12a ?x12b ?x12i ?x12t ?x12f ?x12k ?x12d ?x12v ?x12p ?x12e ?x12l) .nil))))))))))))) (by decide) ?xoath ?xval ?xrel)
    (case aL => k_is)
    (case lL => k_is)
    (case cL => k_is)
    (case kL => k_is)
    (case a_is_from_to => k_is)
    (case l_is_from_to => k_is)
    (case c_is_from_to => k_is)
    (case k_is_from_to => k_is)
    (case a_is_row => k_is)
    (case l_is_row => k_is)
    (case c_is_row => k_is)
    (case k_is_row => k_is)
    (case a_is_word => k_is)
    (case l_is_word => k_is)
    (case c_is_word => k_is)
    (case k_is_word => k_is)
    (case a_tupled => k_is)
    (case l_tupled => k_is)
    (case c_tupled => k_is)
    (case k_tupled => k_is)
    (case a_fits_form => k_is)
    (case l_fits_form => k_is)
    (case c_fits_form => k_is)
    (case k_fits_form => k_is)
    (case a_is_variable => k_is)
    (case l_is_variable => k_is)
    (case c_is_variable => k_is)
    (case k_is_variable => k_is)
    (case a_amount_shape => k_is)
    (case l_amount_shape => k_is)
    (case c_amount_shape => k_is)
    (case k_amount_shape => k_is)
    (case a_test_shape => k_is)
    (case l_test_shape => k_is)
    (case c_test_shape => k_is)
    (case k_test_shape => k_is)
    (case a_line_shape => k_is)
    (case l_line_shape => k_is)
    (case c_line_shape => k_is)
    (case k_line_shape => k_is)
    (case a_parts_of => k_is)
    (case l_parts_of => k_is)
    (case c_parts_of => k_is)
    (case k_parts_of => k_is)
    (case a_count_parts => k_is)
    (case l_count_parts => k_is)
    (case c_count_parts => k_is)
    (case k_count_parts => k_is)
    (case a_checked_source => k_is)
    (case l_checked_source => k_is)
    (case c_checked_source => k_is)
    (case k_checked_source => k_is)
    (case a_check_source => k_is)
    (case l_check_source => k_is)
    (case c_check_source => k_is)
    (case k_check_source => k_is)
    (case a_parts_in => k_is)
    (case l_parts_in => k_is)
    (case c_parts_in => k_is)
    (case k_parts_in => k_is)
    (case a_all_parts => k_is)
    (case l_all_parts => k_is)
    (case c_all_parts => k_is)
    (case k_all_parts => k_is)
    (case a_variables_in => k_is)
    (case l_variables_in => k_is)
    (case c_variables_in => k_is)
    (case k_variables_in => k_is)
    (case a_variables_of => k_is)
    (case l_variables_of => k_is)
    (case c_variables_of => k_is)
    (case k_variables_of => k_is)
    (case a_nested_in => k_is)
    (case l_nested_in => k_is)
    (case c_nested_in => k_is)
    (case k_nested_in => k_is)
    (case a_blocks_deep => k_is)
    (case l_blocks_deep => k_is)
    (case c_blocks_deep => k_is)
    (case k_blocks_deep => k_is)
    (case a_law_begin => k_is)
    (case l_law_begin => k_is)
    (case c_law_begin => k_is)
    (case k_law_begin => k_is)
    (case a_law_draw => k_is)
    (case l_law_draw => k_is)
    (case c_law_draw => k_is)
    (case k_law_draw => k_is)
    (case a_law_same => k_is)
    (case l_law_same => k_is)
    (case c_law_same => k_is)
    (case k_law_same => k_is)
    (case a_law_lists => k_is)
    (case l_law_lists => k_is)
    (case c_law_lists => k_is)
    (case k_law_lists => k_is)
    (case a_law_error => k_is)
    (case l_law_error => k_is)
    (case c_law_error => k_is)
    (case k_law_error => k_is)
    (case a_law_parts => k_is)
    (case l_law_parts => k_is)
    (case c_law_parts => k_is)
    (case k_law_parts => k_is)
    (case a_law_word => k_is)
    (case l_law_word => k_is)
    (case c_law_word => k_is)
    (case k_law_word => k_is)
    (case a_law_leaf => k_is)
    (case l_law_leaf => k_is)
    (case c_law_leaf => k_is)
    (case k_law_leaf => k_is)
    (case a_law_amount => k_is)
    (case l_law_amount => k_is)
    (case c_law_amount => k_is)
    (case k_law_amount => k_is)
    (case a_law_test => k_is)
    (case l_law_test => k_is)
    (case c_law_test => k_is)
    (case k_law_test => k_is)
    (case a_law_part => k_is)
    (case l_law_part => k_is)
    (case c_law_part => k_is)
    (case k_law_part => k_is)
    (case a_law_block => k_is)
    (case l_law_block => k_is)
    (case c_law_block => k_is)
    (case k_law_block => k_is)
    (case a_law_source => k_is)
    (case l_law_source => k_is)
    (case c_law_source => k_is)
    (case k_law_source => k_is)
    (case a_law_tower => k_is)
    (case l_law_tower => k_is)
    (case c_law_tower => k_is)
    (case k_law_tower => k_is)
    (case a_law_wide => k_is)
    (case l_law_wide => k_is)
    (case c_law_wide => k_is)
    (case k_law_wide => k_is)
    (case a_law_check_asked => k_is)
    (case l_law_check_asked => k_is)
    (case c_law_check_asked => k_is)
    (case k_law_check_asked => k_is)
    (case a_law_parts_asked => k_is)
    (case l_law_parts_asked => k_is)
    (case c_law_parts_asked => k_is)
    (case k_law_parts_asked => k_is)
    (case a_law_variables_asked => k_is)
    (case l_law_variables_asked => k_is)
    (case c_law_variables_asked => k_is)
    (case k_law_variables_asked => k_is)
    (case a_law_deep_asked => k_is)
    (case l_law_deep_asked => k_is)
    (case c_law_deep_asked => k_is)
    (case k_law_deep_asked => k_is)
    (case a_law_uses => k_is)
    (case l_law_uses => k_is)
    (case c_law_uses => k_is)
    (case k_law_uses => k_is)
    (case a_law_nested => k_is)
    (case l_law_nested => k_is)
    (case c_law_nested => k_is)
    (case k_law_nested => k_is)
    (case a_law_right => k_is)
    (case l_law_right => k_is)
    (case c_law_right => k_is)
    (case k_law_right => k_is)
    (case a_law_wrong => k_is)
    (case l_law_wrong => k_is)
    (case c_law_wrong => k_is)
    (case k_law_wrong => k_is)
    (case a_law_wrong_amount => k_is)
    (case l_law_wrong_amount => k_is)
    (case c_law_wrong_amount => k_is)
    (case k_law_wrong_amount => k_is)
    (case a_law_wrong_test => k_is)
    (case l_law_wrong_test => k_is)
    (case c_law_wrong_test => k_is)
    (case k_law_wrong_test => k_is)
    (case a_law_wrong_part => k_is)
    (case l_law_wrong_part => k_is)
    (case c_law_wrong_part => k_is)
    (case k_law_wrong_part => k_is)
    (case a_law_around_amount => k_is)
    (case l_law_around_amount => k_is)
    (case c_law_around_amount => k_is)
    (case k_law_around_amount => k_is)
    (case a_law_around_test => k_is)
    (case l_law_around_test => k_is)
    (case c_law_around_test => k_is)
    (case k_law_around_test => k_is)
    (case a_law_around_part => k_is)
    (case l_law_around_part => k_is)
    (case c_law_around_part => k_is)
    (case k_law_around_part => k_is)
    (case a_law_one_place => k_is)
    (case l_law_one_place => k_is)
    (case c_law_one_place => k_is)
    (case k_law_one_place => k_is)
    (case a_law_full_block => k_is)
    (case l_law_full_block => k_is)
    (case c_law_full_block => k_is)
    (case k_law_full_block => k_is)
    (case z_len => k_is)
    (case z_tuple => k_is)
    (case z_list => k_is)
    (case z_int => k_is)
    (case z_sum => k_is)
    (case z_all => k_is)
    (case z_any => k_is)
    (case z_max => k_is)
    (case z_min => k_is)
    (case z_abs => k_is)
    (case z_range => k_is)
    (case z_isinstance => k_is)
    (case z_bool => k_is)
    (case z_str => k_is)
    (case z_zip => k_is)
    (case z_enumerate => k_is)
    (case z_sorted => k_is)
    (case z_set => k_is)
    (case n_WORD => k_is)
    (case n_MOST_SHIFT => k_is)
    (case n_CELLS => k_is)
    (case n_WITH_NUMBER => k_is)
    (case n_VARIABLES => k_is)
    (case n_MOST_IN_BLOCK => k_is)
    (case n_MOST_PARTS => k_is)
    (case n_MOST_DEEP => k_is)
    (case n_MOST_NEST => k_is)
    (case n_WITH_NAMES => k_is)
    (case n_TESTS => k_is)
    (case p_FORMS => k_is)
    (case p_WITH_TESTS => k_is)
    (case T_tupled => k_is)
    (case m_WORD => kernel_rfl)
    (case m_MOST_SHIFT => kernel_rfl)
    (case m_CELLS => kernel_rfl)
    (case m_WITH_NUMBER => kernel_rfl)
    (case m_VARIABLES => kernel_rfl)
    (case m_MOST_IN_BLOCK => kernel_rfl)
    (case m_MOST_PARTS => kernel_rfl)
    (case m_MOST_DEEP => kernel_rfl)
    (case m_MOST_NEST => kernel_rfl)
    (case m_WITH_NAMES => kernel_rfl)
    (case m_TESTS => kernel_rfl)
    (case q_FORMS => kernel_rfl)
    (case q_WITH_TESTS => kernel_rfl)
    (case r_FORMS => kernel_rfl)
    (case r_WITH_TESTS => kernel_rfl)
    (case u_tupled => kernel_rfl)
    (case xsup => k_is)
    (case xst => kernel_rfl)
    (case xtop => kernel_rfl)
    (case x0a => k_is)
    (case x0i => k_is)
    (case x0t => k_is)
    (case x0f => k_is)
    (case x0k => k_is)
    (case x0d => k_is)
    (case x0v => rfl)
    (case x0p => kernel_rfl)
    (case x0e => k_is)
    (case x0l => rfl)
    (case x0b => kernel_rfl)
    (case x1a => k_is)
    (case x1i => k_is)
    (case x1t => k_is)
    (case x1f => k_is)
    (case x1k => k_is)
    (case x1d => k_is)
    (case x1v => rfl)
    (case x1p => kernel_rfl)
    (case x1e => k_is)
    (case x1l => rfl)
    (case x1b => kernel_rfl)
    (case x2a => k_is)
    (case x2i => k_is)
    (case x2t => k_is)
    (case x2f => k_is)
    (case x2k => k_is)
    (case x2d => k_is)
    (case x2v => rfl)
    (case x2p => kernel_rfl)
    (case x2e => k_is)
    (case x2l => rfl)
    (case x2b => kernel_rfl)
    (case x3a => k_is)
    (case x3i => k_is)
    (case x3t => k_is)
    (case x3f => k_is)
    (case x3k => k_is)
    (case x3d => k_is)
    (case x3v => rfl)
    (case x3p => kernel_rfl)
    (case x3e => k_is)
    (case x3l => rfl)
    (case x3b => kernel_rfl)
    (case x4a => k_is)
    (case x4i => k_is)
    (case x4t => k_is)
    (case x4f => k_is)
    (case x4k => k_is)
    (case x4d => k_is)
    (case x4v => rfl)
    (case x4p => kernel_rfl)
    (case x4e => k_is)
    (case x4l => rfl)
    (case x4b => kernel_rfl)
    (case x5a => k_is)
    (case x5i => k_is)
    (case x5t => k_is)
    (case x5f => k_is)
    (case x5k => k_is)
    (case x5d => k_is)
    (case x5v => rfl)
    (case x5p => kernel_rfl)
    (case x5e => k_is)
    (case x5l => rfl)
    (case x5b => kernel_rfl)
    (case x6a => k_is)
    (case x6i => k_is)
    (case x6t => k_is)
    (case x6f => k_is)
    (case x6k => k_is)
    (case x6d => k_is)
    (case x6v => rfl)
    (case x6p => kernel_rfl)
    (case x6e => k_is)
    (case x6l => rfl)
    (case x6b => kernel_rfl)
    (case x7a => k_is)
    (case x7i => k_is)
    (case x7t => k_is)
    (case x7f => k_is)
    (case x7k => k_is)
    (case x7d => k_is)
    (case x7v => rfl)
    (case x7p => kernel_rfl)
    (case x7e => k_is)
    (case x7l => rfl)
    (case x7b => kernel_rfl)
    (case x8a => k_is)
    (case x8i => k_is)
    (case x8t => k_is)
    (case x8f => k_is)
    (case x8k => k_is)
    (case x8d => k_is)
    (case x8v => rfl)
    (case x8p => kernel_rfl)
    (case x8e => k_is)
    (case x8l => rfl)
    (case x8b => kernel_rfl)
    (case x9a => k_is)
    (case x9i => k_is)
    (case x9t => k_is)
    (case x9f => k_is)
    (case x9k => k_is)
    (case x9d => k_is)
    (case x9v => rfl)
    (case x9p => kernel_rfl)
    (case x9e => k_is)
    (case x9l => rfl)
    (case x9b => kernel_rfl)
    (case x10a => k_is)
    (case x10i => k_is)
    (case x10t => k_is)
    (case x10f => k_is)
    (case x10k => k_is)
    (case x10d => k_is)
    (case x10v => rfl)
    (case x10p => kernel_rfl)
    (case x10e => k_is)
    (case x10l => rfl)
    (case x10b => kernel_rfl)
    (case x11a => k_is)
    (case x11i => k_is)
    (case x11t => k_is)
    (case x11f => k_is)
    (case x11k => k_is)
    (case x11d => k_is)
    (case x11v => rfl)
    (case x11p => kernel_rfl)
    (case x11e => k_is)
    (case x11l => rfl)
    (case x11b => kernel_rfl)
    (case x12a => k_is)
    (case x12i => k_is)
    (case x12t => k_is)
    (case x12f => k_is)
    (case x12k => k_is)
    (case x12d => k_is)
    (case x12v => rfl)
    (case x12p => kernel_rfl)
    (case x12e => k_is)
    (case x12l => rfl)
    (case x12b => kernel_rfl)
    (case xoath => k_is)
    (case xval => k_is)
    (case xrel => kernel_rfl)
