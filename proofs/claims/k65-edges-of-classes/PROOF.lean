import PyProof.Rows.All
import Wide.All
import OpenK.AllK
import Wide.FinOn
import HandS.TupSets
import HandS.Zip
import KE.GoesZip
import KE.GoesMore
import HandS.ForMost
import HandS.ForExc
import HandS.Lambda
import HandS.TupAny
import HandS.TupMul
import HandS.Conv
import HandS.Wide
import KE.SortData
import HandS.IsInst
import HandS.Style
import HandS.Text
import HandS.Codes
import HandS.Gcd
import KE.KTupSum
import HandS.ExcField
import HandS.ExcIs
import KE.KExcIs
import KE.KDictCopyH
import HandS.Defaults
import HandS.HeadHook4
import HandS.ExcInit
import KE.KExcSuper
import KE.KSuper
import HandS.HeadWalk
import HandS.Head2
import PySem.Challenge.RW_leastslips_k65_edges_of_classes
set_option Elab.async false
set_option linter.all false
set_option maxRecDepth 100000
set_option maxHeartbeats 4000000
namespace PU
open PySem PySem.Spec PyProof.Rows L2

/-! ### set(rows), few of them unlike -/
/-- at most 62 rows that are unlike -/
def Few (rs : List (List Int)) : Prop := ∀ L : List (List Int), L.Nodup → (∀ x ∈ L, x ∈ rs) → L.length < 63
/-- what the set's loop has done before its turn i -/
structure Lap (P : Program) (w : World) (wr : List Addr) (G : Array GenState → Array GenState → Prop) (ks : List (Addr × List Int)) (h0 : Heap) (S : Addr) (s0 : Shared) (i : Nat) (s : Shared) : Prop where
  old : ∀ b o, h0.get? b = some o → s.heap.get? b = some o
  mv : Moved (S :: wr) G s0 s
  got : ∃ L es ep t, SetTR P w s.heap S L es ep t ∧ Got ks i L
section
variable {P : Program} {w : World} {A : Around} {E : Value → Shared → Prop} {s : Shared}
theorem setLoop {I S : Addr} {fp wr : List Addr} {G : Array GenState → Array GenState → Prop} {n : Nat} {Pv : Nat → Value → Prop} {St : Nat → Shared → Prop} {R : Result → Shared → Prop} {ks : List (Addr × List Int)} {h0 : Heap} {s0 : Shared}
    (W : WalksS P w A.in1 I fp wr G n Pv St) (nS : S ∉ fp) (en : n = ks.length) (few : Few (ks.map (·.2))) (val : ∀ i v, Pv i v → ∃ p, ks[i]? = some p ∧ v = .ref p.1) (at0 : ∀ p ∈ ks, IsT P w h0 p.2 p.1) (S0 : h0.get? S = none) (w0 : ∀ b ∈ wr, h0.get? b = none)
    (room : A.in1.units < cLine) (fin : ∀ s', Lap P w wr G ks h0 S s0 n s' → R (.ok (.ret .none)) s') :
    ∀ (k i : Nat) (s : Shared), i + k = n → St i s → Lap P w wr G ks h0 S s0 i s → codeAny (model P w) A (.builtin "set.update.loop" ⟨[.ref S, .ref I], []⟩) R s := by
  have wS : ∀ b ∈ wr, b ∈ S :: wr := fun b h => List.mem_cons_of_mem _ h
  have nw : S ∉ wr := fun z => nS (W.sub S z)
  -- the iterator's own moves
  have moved : ∀ {i : Nat} {s s' : Shared}, Moved wr G s s' → Lap P w wr G ks h0 S s0 i s → Lap P w wr G ks h0 S s0 i s' := fun {i s s'} m l => by
    have o' : ∀ b o, h0.get? b = some o → s'.heap.get? b = some o := fun b o e => m.heap b o (fun z => by rw [w0 b z] at e; cases e) (l.old b o e)
    obtain ⟨L, es, ep, t, q, g⟩ := l.got
    exact ⟨o', l.mv.trans W.gtrans (m.mono wS), L, es, ep, t, q.keep (fun o e => m.heap S o nw e) (fun p hp => isT_keep (at0 p (List.mem_of_mem_take (g.sub p hp))) o'), g⟩
  intro k
  induction k with
  | zero =>
    intro i s hi st l; obtain rfl : i = n := hi
    refine codeAny_builtin F.entry_set_update_loop ?_; rw [Around.under_plainId F.plain_set_update_loop _]
    show wpAny _ A.in1 (pyNext (.ref I) >>= _) _ _ _
    exact wpAny_bind (W.done s _ _ st fun s' m => wpAny_pure (fin s' (moved m l)))
  | succ k ih =>
    intro i s hi st l
    refine codeAny_builtin F.entry_set_update_loop ?_; rw [Around.under_plainId F.plain_set_update_loop _]
    show wpAny _ A.in1 (pyNext (.ref I) >>= _) _ _ _
    refine wpAny_bind (W.item i s _ _ (by omega) st fun v s1 pv st1 m => ?_)
    obtain ⟨q, hq, rfl⟩ := val i v pv
    have l1 := moved m l
    obtain ⟨L, es, ep, t, hL, g⟩ := l1.got
    have x : IsT P w s1.heap q.2 q.1 := isT_keep (at0 q (List.mem_of_getElem? hq)) l1.old
    have lim : L.length + 1 < 64 := by
      have := few (L.map (·.2)) hL.nd fun y hy => by
        obtain ⟨p, hp, rfl⟩ := List.mem_map.mp hy
        exact List.mem_map_of_mem (List.mem_of_mem_take (g.sub p hp))
      rw [List.length_map] at this; omega
    show wpAny _ A.in1 (holding [Value.ref q.1] (setAdd S (.ref q.1)) >>= _) _ _ _
    refine wpAny_bind (wpAny_holding ?_); unfold setAdd; refine wpAny_holding (wpAny_bind (wpAny_pyHash_tuple room x ?_))
    refine add_at (s := { s1 with toks := s1.toks + (q.2.length + 1) }) hL x room lim fun b h2 L2 es2 ep2 t2 sb hL2 c1 c2 => ?_
    have g2 : Got ks (i + 1) L2 := (Classical.em (q.2 ∈ L.map (·.2))).elim (fun c => by rw [c1 c]; exact g.same hq c) fun c => g.more hq (c2 c)
    have l2 : Lap P w wr G ks h0 S s0 (i + 1) { s1 with heap := h2, toks := s1.toks + (q.2.length + 1) } := ⟨fun b o e => (sb.2 b fun z => by rw [z, S0] at e; cases e).trans (l1.old b o e),
      l1.mv.then_heap (Nat.le_add_right _ _) fun b o nb e => (sb.2 b fun z => nb (by rw [z]; exact List.mem_cons_self)).trans e, L2, es2, ep2, t2, hL2, g2⟩
    exact wpAny_pure ⟨plainId_quiet F.plain_set_update_loop _, ih (i + 1) _ (by omega) (W.frame (i + 1) s1 _ _ st1 (Nat.le_add_right _ _) fun b hb o e => (sb.2 b fun z => nS (by rw [← z]; exact hb)).trans e) l2⟩
/-- a new set's object -/
abbrev newS (w : World) : Obj := { cls := .type "set", dict := none, data := .set #[] 0 (.fresh 0 0 (!w.params.followText "set-order")) }
abbrev BackS (P : Program) (w : World) (ks : List (Addr × List Int)) (s : Shared) (s' : Shared) : Prop := ∃ h' tk L es ep t, s' = { s with heap := h', toks := tk } ∧ SetTR P w h' s.heap.objs.size L es ep t ∧ Got ks ks.length L ∧ ∀ b o, s.heap.get? b = some o → h'.get? b = some o
theorem setInit {l : Addr} {items : Array Value} {ks : List (Addr × List Int)} (hh : A.handled = none) (hl : s.heap.IsList l items) (hit : items.toList = ks.map fun p => Value.ref p.1) (hk : ∀ p ∈ ks, IsT P w s.heap p.2 p.1) (few : Few (ks.map (·.2))) (hu : A.units + 1 < cLine) {Q : Fin → Shared → Prop}
    (q : ∀ s', BackS P w ks s s' → Q (.done (.ret .none)) s') : wpAny (model P w) A (Builtin.«set.__init__» ⟨[.ref s.heap.objs.size, .ref l], []⟩) Q E { s with heap := s.heap.push (newS w) } := by
  have en : items.size = ks.length := by
    have z := congrArg List.length hit; rw [List.length_map, Array.length_toList] at z; exact z
  obtain ⟨⟨oc, od, oa, os⟩, ol, e1, nl, e2⟩ := id hl
  dsimp only at e1 e2
  subst e1 e2
  have lt : l < s.heap.objs.size := Heap.lt_size ol
  have ol1 : (s.heap.push (newS w)).get? l = some { cls := .type "list", dict := od, data := .seq items nl, slots := os } := Heap.get?_push_of_some _ ol
  have hl1 : (s.heap.push (newS w)).IsList l items := ⟨_, ol1, rfl, nl, rfl⟩
  have sz : (s.heap.push (newS w)).objs.size = s.heap.objs.size + 1 := Heap.size_push ..
  have hS : (s.heap.push (newS w)).get? s.heap.objs.size = some (newS w) := Heap.get?_push_size _ rfl
  have s1 := F.sub_list_set
  have s2 := F.sub_list_frozenset
  have ne : (Value.type "list" == Value.type "dict") = false := by decide
  have nw : ∀ b, s.heap.objs.size ≤ b → s.heap.get? b = none := fun b hb => by
    cases z : s.heap.get? b with
    | none => rfl
    | some o => exact absurd (Nat.lt_of_lt_of_le (Heap.lt_size z) hb) (Nat.lt_irrefl _)
  unfold Builtin.«set.__init__» noKeywords Builtin.Frozenset.updateFrom
  generalize pi : pyIter = J
  wp_walk
  subst pi
  refine wpAny_pyIter_list hl1 (wpAny_bind (wpAny_runValue ?_))
  have hI : l ≠ (s.heap.push (newS w)).objs.size := fun z => by
    rw [sz] at z
    exact absurd lt (by rw [z]; exact Nat.not_lt.mpr (Nat.le_succ _))
  have hh3 : A.in1.handled = none := by simp [hh]
  refine setLoop (A := A) (ks := ks) (h0 := s.heap) (s0 := { s with heap := (s.heap.push (newS w)).push { cls := .type "list_iterator", data := .fields #[.ref l, .int 0 0] } }) (W := (Walks.list hh3 (s.heap.push (newS w)).objs.size l hI items).toS) (S := s.heap.objs.size)
    (fun z => ?_) en few (fun i v hv => ?_) hk (nw _ (Nat.le_refl _)) (fun b hb => nw b ?_) (by show A.units + 1 < cLine; exact hu) (fun s' z => ?_) items.size 0 _ (Nat.zero_add _) ?_ ⟨fun b o e => Heap.get?_push_of_some _ (Heap.get?_push_of_some _ e), Moved.refl fun _ => rfl, [], #[], 0, _, setTR_fresh (Heap.get?_push_of_some _ hS), Got.zero ks⟩
  · rcases List.mem_cons.mp z with z | z
    · rw [sz] at z
      exact absurd z (Nat.ne_of_lt (Nat.lt_succ_self _))
    · exact absurd (List.mem_singleton.mp z) (Nat.ne_of_gt lt)
  · have z : items.toList[i]? = some v := by rw [Array.getElem?_toList]; exact hv
    rw [hit, List.getElem?_map] at z
    cases y : ks[i]? with
    | none => rw [y] at z; cases z
    | some p => rw [y] at z; exact ⟨p, rfl, (Option.some.inj z).symm⟩
  · rw [List.mem_singleton.mp hb, sz]
    exact Nat.le_succ _
  · obtain ⟨o, m, L, es, ep, t, h1, h2⟩ := z
    obtain ⟨h', g2, d2, tk, os2⟩ := s'
    obtain rfl : g2 = s.gens := m.gens
    obtain rfl : d2 = s.drawn := m.drawn
    obtain rfl : os2 = s.os := m.os
    rw [en] at h2
    show wpAny _ _ _ _ _ _
    refine wpAny_pure ?_
    show wpAny _ _ (ret Value.none) _ _ _
    exact wpAny_pure (q _ ⟨h', tk, L, es, ep, t, rfl, h1, h2, o⟩)
  · exact ⟨⟨_, Heap.get?_push_size _ rfl, rfl, rfl⟩, hl1.push _⟩
theorem setCall {l : Addr} {items : Array Value} {ks : List (Addr × List Int)} {Q : Value → Shared → Prop} (hh : A.handled = none) (hl : s.heap.IsList l items) (hit : items.toList = ks.map fun p => Value.ref p.1) (hk : ∀ p ∈ ks, IsT P w s.heap p.2 p.1) (few : Few (ks.map (·.2)))
    (hu : A.units + 4 < cLine) (q : ∀ s', BackS P w ks s s' → Q (.ref s.heap.objs.size) s') : wpAny (model P w) A (call (.type "set") [.ref l]) Q E s := by
  obtain ⟨c, tl, mro⟩ := F.called_set.mro
  have made := F.called_set.made
  have sub := F.called_set.sub
  have nt := F.called_set.notType
  have cc := F.called_set.canCreate
  have ct := F.typeCall_set_1 (.ref l)
  refine wpAny_call (codeAny_of_tree (show wpAny _ _ (callAny (.type "set") _) _ _ _ from wpAny_pure ⟨Code.quiet_builtin _ (by decide +kernel), codeAny_builtin F.entry_type_call ?_⟩))
  rw [Around.under_plain (weight_type_call_type "set" [.ref l] []) rfl]
  repeat (any_goals (first | assumption | wp_step))
  refine codeAny_mono (code_set_led1 (.ref l) (E := E) (Q₁ := fun o s1 => o = .ref s.heap.objs.size ∧ s1 = { s with heap := s.heap.push (newS w) }) ⟨rfl, rfl⟩) fun r s1 hr => ?_
  rcases r with e | (_ | _ | _ | o)
  · exact hr
  · exact hr.elim
  · exact hr.elim
  · exact hr.elim
  · obtain ⟨rfl, rfl⟩ := hr
    have ty : Shared.TypeIs { s with heap := s.heap.push (newS w) } (.ref s.heap.objs.size) "set" := ⟨_, Heap.get?_push_size _ rfl, rfl⟩
    have li := F.called_set.init.lookup
    have bi := F.called_set.init.bind (.ref s.heap.objs.size)
    repeat (any_goals (first | assumption | wp_step))
    refine codeAny_mono (codeAny_call_builtin (R := wants (fun r s2 => r = .none ∧ BackS P w ks s s2) E) F.called_set.init.plain F.entry_set_init (check_set_init_1 ty (setInit (by simp [hh]) hl hit hk few ?_ fun s' b => ⟨rfl, b⟩))) fun r2 s2 h2 => ?_
    · show A.units + 1 + 1 + 1 < cLine
      omega
    · rcases r2 with e | (_ | _ | _ | v)
      · exact h2
      · exact h2.elim
      · exact h2.elim
      · exact h2.elim
      · obtain ⟨rfl, b⟩ := h2
        repeat (any_goals (first | assumption | wp_step))
        exact q _ b
end
section
variable {X : Cx}
def rSetFew (K : PySem.W.Frag) (P : Program) (w : World) : List V → Hp → VK → Prop := fun xs H Q => ∃ (l : Addr) (ks : List (Addr × List Int)), xs = [V.ref l] ∧ SqL K H l (ks.map fun p => V.ref p.1) ∧ (∀ p ∈ ks, SqT K H p.1 (p.2.map V.int)) ∧ Few (ks.map (·.2)) ∧
  ∀ a L, H a = none → (∀ p ∈ L, p ∈ ks) → (∀ p ∈ ks, p.2 ∈ L.map (·.2)) → Q (.ref a) (upd H a (SetTO P w a L))
theorem cr_setFew (hc : X.calm = true) (hu : X.A.units + 64 < cLine) : CallR X (.type "set") (rSetFew X.K X.prog X.w) := by
  intro pins s σ H xs us Q I r ⟨l, ks, ex, sl, st, few, q⟩
  subst ex
  rw [Vals.ref1 r]
  obtain ⟨its, rv, pl, _⟩ := I.list sl
  refine setCall (ks := ks) (I.ok.hd hc) pl.isList (by simpa using refs_of_vals rv) (fun p hp => I.isT (st p hp)) few (by omega) fun s' ⟨h', tk, L, es, ep, t, e, R, g, old⟩ => ?_
  subst e
  exact ⟨.ref s.heap.objs.size, upd H s.heap.objs.size (SetTO X.prog X.w s.heap.objs.size L), I.laid (t' := tk) old (Nat.le_refl _) (setTO_new R.t0), rfl,
    q _ L (I.hok.fresh (Nat.le_refl _)) (fun p hp => List.mem_of_mem_take (g.sub p hp)) fun p hp => g.all p (by rw [List.take_length]; exact hp)⟩
end
end PU
set_option maxHeartbeats 4000000
namespace PU
open PySem PySem.Spec PyProof.Rows L2

/-! ### zip of a tuple and a list -/
/-- the tuple at a and the list at b as they stand at each turn, the items in new pairs -/
def ItzM (K : PySem.W.Frag) (a b : Addr) : It where
  go := fun i H => ∃ (xs ys : List V) (x y : V), SqT K H a xs ∧ SqL K H b ys ∧ xs[i]? = some x ∧ ys[i]? = some y
  yld := fun i H v H' => ∃ T x y, v = .ref T ∧ H T = none ∧ H' = upd H T (.tup [x, y]) ∧ (∀ xs, SqT K H a xs → xs[i]? = some x) ∧ ∀ ys, SqL K H b ys → ys[i]? = some y
  stop := fun i H => ∃ xs ys : List V, SqT K H a xs ∧ SqL K H b ys ∧ i ≤ xs.length ∧ i ≤ ys.length ∧ (i = xs.length ∨ i = ys.length)
/-- the cells of the zip lie apart -/
structure Sep5 (z TI TO i1 i2 a b : Addr) : Prop where
  s : ZipSep2 z TI TO i1 i2 [i1, a] [i2, b]
  ai : a ≠ i1
  bi : b ≠ i2
theorem sep5 (n a b : Nat) (ha : a < n) (hb : b < n) : Sep5 (n + 4) (n + 2) (n + 3) n (n + 1) a b := by
  refine ⟨⟨?_, ?_, ?_, ?_, ?_, ?_, ?_, ?_, ?_, ?_, ?_, ?_, ?_⟩, ?_, ?_⟩ <;> first | exact List.mem_cons_self | (intro h; simp only [List.mem_cons, List.not_mem_nil, or_false] at h; rcases h with h | h <;> (have h' : (_ : Nat) = _ := h; omega)) | (intro h; have h' : (_ : Nat) = _ := h; omega)
def tnM (a b z TI TO i1 i2 : Addr) (i : Nat) (h : Heap) : Prop := IsZip h z TI TO .none ∧ IsTupOf2 h TI (.ref i1) (.ref i2) ∧ (∃ x y, IsTupOf2 h TO x y) ∧ h.IsTupleIter i1 a i ∧ h.IsListIter i2 b i
theorem turn_zipM {P : Program} {w : World} {K : PySem.W.Frag} {elts : List Expr} {kk : Nat} {tpos : Pos} {a b z TI TO i1 i2 : Addr} (S : Sep5 z TI TO i1 i2 a b) :
    Turn P w K (.Tuple elts kk tpos) (ItzM K a b) [z, TI, TO, i1, i2] z (tnM a b z TI TO i1 i2) where
  mem := List.mem_cons_self
  obj := fun i h ⟨q1, q2, ⟨x, y, q3⟩, ⟨o4, e4, _, d4⟩, ⟨o5, e5, _, d5⟩⟩ c hc => by
    simp only [List.mem_cons, List.not_mem_nil, or_false] at hc
    rcases hc with rfl | rfl | rfl | rfl | rfl
    · exact ⟨_, q1, fun v => nofun⟩
    · exact ⟨_, q2, fun v => nofun⟩
    · exact ⟨_, q3, fun v => nofun⟩
    · exact ⟨o4, e4, fun v e => by rw [d4] at e; cases e⟩
    · exact ⟨o5, e5, fun v e => by rw [d5] at e; cases e⟩
  keep := fun i h h' ⟨q1, q2, ⟨x, y, q3⟩, q4, q5⟩ k =>
    ⟨k _ (by simp) _ q1, k _ (by simp) _ q2, ⟨x, y, k _ (by simp) _ q3⟩, q4.at fun o e => k _ (by simp) o e, q5.at fun o e => k _ (by simp) o e⟩
  item := by
    intro X hP hw hK hc i pins s σ H E I hf ⟨q1, q2, ⟨x0, y0, q3⟩, q4, q5⟩ ⟨xs, ys, x, y, t1, t2, g1, g2⟩
    subst hP hw hK
    obtain ⟨its, rv, p, _⟩ := I.tuple t1
    obtain ⟨its2, rv2, p2, _⟩ := I.list t2
    obtain ⟨u, hu, ru⟩ := rv.get g1
    obtain ⟨u2, hu2, ru2⟩ := rv2.get g2
    have hh : X.A.in1.handled = none := by simp [I.ok.hd hc]
    have W := WalksT.zipD2 (A := X.A) S.s (Draws.tuple (prog := X.prog) (w := X.w) hh i1 a S.ai its.toArray) (Draws.list (prog := X.prog) (w := X.w) hh i2 b S.bi its2.toArray)
    have n1 : i < its.toArray.size := by
      rw [List.size_toArray]; exact (List.getElem?_eq_some_iff.mp hu).1
    have n2 : i < its2.toArray.size := by
      rw [List.size_toArray]; exact (List.getElem?_eq_some_iff.mp hu2).1
    refine W.item i s _ _ (Nat.lt_min.mpr ⟨n1, n2⟩) ⟨q1, q2, ⟨_, _, q3⟩, ⟨q4, p⟩, q5, p2.isList⟩ fun T vals h' tk ⟨v1, v2, e1, e2, e3⟩ hT isT mid kp => ⟨_, rfl, ?_⟩
    have e1' : its[i]? = some v1 := by simpa using e1
    have e2' : its2[i]? = some v2 := by simpa using e2
    obtain rfl : u = v1 := Option.some.inj (hu.symm.trans e1')
    obtain rfl : u2 = v2 := Option.some.inj (hu2.symm.trans e2')
    have ap := W.apart _ _ _ mid
    refine W.go elts kk tpos i T { s with heap := h', toks := tk } _ _ mid fun h2 st2 kp2 => ?_
    have isT2 : h2.IsTuple T vals := isT.at fun o e => kp2 T o ap e
    rw [e3] at isT2
    have sub : ∀ c, c ∉ [z, TI, TO, i1, i2] → c ∉ [z, TO, i1, i2] := fun c hc z' => hc (by
      simp only [List.mem_cons, List.not_mem_nil, or_false] at z' ⊢
      rcases z' with h | h | h | h <;> simp [h])
    have new : ObjOk X.prog X.w (upd H T (.tup [x, y])) h2 T (.tup [x, y]) := ⟨by show 2 ≤ sizeLine; decide, [u, u2], .cons ru (.cons ru2 .nil), by simpa using (let ⟨o, e, c, n, d⟩ := isT2; ⟨o, e, c, n, d⟩ : IsTup h2 T #[u, u2])⟩
    have I1 : Inv X pins σ (upd H T (.tup [x, y])) { s with heap := h2, toks := tk } := I.turnedNew (t' := tk) (ch := [z, TI, TO, i1, i2]) (fun c o hb e => kp2 c o (sub c hb) (kp c o (sub c hb) e)) hf hT new
    obtain ⟨r1, r2, r3, r4, r5⟩ := st2
    refine ⟨.ref T, _, I1, rfl, ⟨T, x, y, rfl, I.hok.fresh hT, rfl, fun l hl => by rw [I.tuple_inj hl t1]; exact g1, fun l hl => by rw [I.list_inj hl t2]; exact g2⟩, ⟨r1, r2, r3, r4.1, r5.1⟩, fun c hcm => ?_⟩
    have lt : c < s.heap.objs.size := by
      simp only [List.mem_cons, List.not_mem_nil, or_false] at hcm
      rcases hcm with rfl | rfl | rfl | rfl | rfl
      · exact Heap.lt_size q1
      · exact Heap.lt_size q2
      · exact Heap.lt_size q3
      · obtain ⟨_, e, _⟩ := q4; exact Heap.lt_size e
      · obtain ⟨_, e, _⟩ := q5; exact Heap.lt_size e
    rw [upd_ne (Nat.ne_of_lt (Nat.lt_of_lt_of_le lt hT))]
    exact (hf c hcm).1
  done := by
    intro X hP hw hK hc i pins s σ H E I hf ⟨q1, q2, ⟨x0, y0, q3⟩, q4, q5⟩ ⟨xs, ys, t1, t2, l1, l2, l3⟩
    subst hP hw hK
    obtain ⟨its, rv, p, _⟩ := I.tuple t1
    obtain ⟨its2, rv2, p2, _⟩ := I.list t2
    have hh : X.A.in1.handled = none := by simp [I.ok.hd hc]
    have z1 := rv.length
    have z2 := rv2.length
    exact wpAny_pyNext_zipD2_end S.s (Draws.tuple (prog := X.prog) (w := X.w) hh i1 a S.ai its.toArray) (Draws.list (prog := X.prog) (w := X.w) hh i2 b S.bi its2.toArray) q1 q2 q3 ⟨q4, p⟩ ⟨q5, p2.isList⟩
      (by rw [List.size_toArray]; omega) (by rw [List.size_toArray]; omega) (by rw [List.size_toArray, List.size_toArray]; omega) fun h' tk kp =>
        ⟨rfl, I.turnedL (t' := tk) (ch := [z, TI, TO, i1, i2]) (fun c o hb e => kp c o (fun w => hb (by simp [w])) (fun w => hb (by simp [w])) (fun w => hb (by simp [w])) (fun w => hb (by simp [w])) e) hf⟩
  self := fun A i s Q E st q => wpAny_pyIter_zip st.1 q
def iZip3 (K : PySem.W.Frag) (ta : TA) : TI := fun σ H R => ta σ H fun vs H1 => ∃ a b xs ys, vs = [.ref a, .ref b] ∧ ((SqL K H1 a xs ∧ SqL K H1 b ys ∧ R (Itz K a b) H1) ∨ (SqT K H1 a xs ∧ SqT K H1 b ys ∧ R (RZ.ItzT K a b) H1) ∨ (SqT K H1 a xs ∧ SqL K H1 b ys ∧ R (ItzM K a b) H1))
theorem pi_zip3 {X : Cx} {e e2 : Expr} {ta : TA} {p pos tpos : Pos} {elts : List Expr} {kk : Nat} (hg : Gl X "zip") (hm : X.mg "zip" = none) (ha : PA X [e, e2] ta)
    (hs : starEach [e, e2] X.env = (false, eval e X.env) :: starEach [e2] X.env := by rfl) (hpl : (backTo pos (starEach [e2] X.env)).any (·.1) = false := by rfl) : PI X (.Tuple elts kk tpos) (.Call (.Name "zip" p) [e, e2] [] pos) (iZip3 X.K ta) := by
  refine ⟨fun pins s σ H R I h => Call_ (ld_blt I hg hm PyProof.Rows.boot_zip (PyProof.Rows.callWith_type1 (thn (ha.run pos pins s σ H _ I h) fun us s1 ⟨vs, H1, I1, r1, a, b, xs, ys, ex, q1⟩ => ?_) hs hpl))⟩
  subst ex
  obtain ⟨u1, u2, rfl, ra, rb⟩ := vals2 r1
  obtain rfl : u1 = Value.ref a := ra
  obtain rfl : u2 = Value.ref b := rb
  have new5 : ∀ c ∈ [s1.heap.objs.size + 4, s1.heap.objs.size + 2, s1.heap.objs.size + 3, s1.heap.objs.size, s1.heap.objs.size + 1], FpOk X pins H1 c := fun c hc => by
    have le : s1.heap.objs.size ≤ c := by
      simp only [List.mem_cons, List.not_mem_nil, or_false] at hc
      rcases hc with h | h | h | h | h <;> rw [h] <;> first | exact Nat.le_add_right _ _ | exact Nat.le_refl _
    exact I1.fpOk le (I1.hok.fresh le)
  rcases q1 with ⟨t1, t2, q⟩ | ⟨t1, t2, q⟩ | ⟨t1, t2, q⟩
  · obtain ⟨its, rv, p1, _⟩ := I1.list t1
    obtain ⟨its2, rv2, p2, _⟩ := I1.list t2
    refine zip_begins2 (begins_list a its.toArray) (begins_list b its2.toArray) p1.isList p2.isList fun h' z0 z1 z2 z3 z4 z5 kp => wpAny_pyIter_zip z0 ?_
    exact ⟨_, _, _, _, H1, rfl, I1.kept (t' := s1.toks) kp, turn_zip (PySem.W.ktu_apart s1.heap.objs.size a b p1.lt p2.lt), ⟨z0, z1, ⟨_, _, z2⟩, ⟨_, z3, rfl, rfl⟩, ⟨_, z4, rfl, rfl⟩⟩, new5, q⟩
  · obtain ⟨its, rv, p1, _⟩ := I1.tuple t1
    obtain ⟨its2, rv2, p2, _⟩ := I1.tuple t2
    obtain ⟨o1, g1, _⟩ := id p1
    obtain ⟨o2, g2, _⟩ := id p2
    refine zip_begins2 (begins_tuple a its.toArray) (begins_tuple b its2.toArray) p1 p2 fun h' z0 z1 z2 z3 z4 z5 kp => wpAny_pyIter_zip z0 ?_
    exact ⟨_, _, _, _, H1, rfl, I1.kept (t' := s1.toks) kp, RZ.turn_zipT (PySem.W.ktu_apart s1.heap.objs.size a b (Heap.lt_size g1) (Heap.lt_size g2)), ⟨z0, z1, ⟨_, _, z2⟩, ⟨_, z3, rfl, rfl⟩, ⟨_, z4, rfl, rfl⟩⟩, new5, q⟩
  · obtain ⟨its, rv, p1, _⟩ := I1.tuple t1
    obtain ⟨its2, rv2, p2, _⟩ := I1.list t2
    obtain ⟨o1, g1, _⟩ := id p1
    refine zip_begins2 (begins_tuple a its.toArray) (begins_list b its2.toArray) p1 p2.isList fun h' z0 z1 z2 z3 z4 z5 kp => wpAny_pyIter_zip z0 ?_
    exact ⟨_, _, _, _, H1, rfl, I1.kept (t' := s1.toks) kp, turn_zipM (sep5 s1.heap.objs.size a b (Heap.lt_size g1) p2.lt), ⟨z0, z1, ⟨_, _, z2⟩, ⟨_, z3, rfl, rfl⟩, ⟨_, z4, rfl, rfl⟩⟩, new5, q⟩
end PU
namespace PU
open PySem PySem.Spec PyProof.Rows L2

/-! ### data -/
inductive D where
  | non | bl (b : Bool) | int (i : Int) | str (s : Str) | tup (ds : List D) | lst (ds : List D) | dct (kvs : List (D × D)) | exn (C : Addr) (ps : List (Str × D))

mutual
def D.py : D → PyData
  | .non => .none
  | .bl b => .bool b
  | .int i => .int i
  | .str s => .str s
  | .tup ds => .tuple (D.pyL ds)
  | .lst ds => .list (D.pyL ds)
  | .dct _ => .none
  | .exn _ _ => .none
def D.pyL : List D → List PyData
  | [] => []
  | d :: ds => D.py d :: D.pyL ds
end
mutual
def D.flat : D → Bool
  | .non => true
  | .bl _ => true
  | .int _ => true
  | .str _ => true
  | .tup ds => D.flatL ds
  | .lst ds => D.flatL ds
  | .dct _ => false
  | .exn _ _ => false
def D.flatL : List D → Bool
  | [] => true
  | d :: ds => D.flat d && D.flatL ds
end
def keyD : Key → D
  | .inl i => .int i
  | .inr x => .str x
def tkD (k : List Key) : D := .tup (k.map keyD)

/-! ### what never changes again -/
def stb : HO → Bool
  | .tup _ => true
  | .frz _ _ => true
  | .ext _ => true
  | .xd _ => true
  | _ => false
def Ext (H H' : Hp) : Prop := ∀ b o, H b = some o → stb o = true → H' b = some o
theorem Ext.refl (H : Hp) : Ext H H := fun _ _ h _ => h
theorem Ext.trans {H H1 H2 : Hp} (a : Ext H H1) (b : Ext H1 H2) : Ext H H2 := fun c o h s => b c o (a c o h s) s
theorem Ext.of {H H' : Hp} (s : Same H H') : Ext H H' := fun b o h _ => s b o h
theorem same_upd {H : Hp} {p : Addr} {o : HO} (h : H p = none) : Same H (upd H p o) := fun b x e => by
  rw [upd_ne (ne_of_none e h)]; exact e

/-- the exception object at a, of the class at C, its own dict d -/
def ExcO (C : Addr) (d : Option Addr) (a : Addr) : HO := .ext fun h => ∃ oe : Obj, h.get? a = some oe ∧ oe.cls = .ref C ∧ oe.dict = d ∧ ∃ vs, oe.data = .fields vs

mutual
inductive Rp (K : PySem.W.Frag) (H : Hp) : V → D → Prop
  | non : Rp K H .non .non
  | bl (b : Bool) : Rp K H (.bl b) (.bl b)
  | int (i : Int) : Rp K H (.int i) (.int i)
  | str (x : Str) : Rp K H (.str x) (.str x)
  | tup {a : Addr} {xs : List V} {ds : List D} : H a = some (.tup xs) → RpL K H xs ds → Rp K H (.ref a) (.tup ds)
  | lst {a : Addr} {o : Obj} {xs : List V} {ds : List D} : H a = some (.frz o (.lst xs)) → RpL K H xs ds → Rp K H (.ref a) (.lst ds)
  | dk {a : Addr} {o : Obj} {kvs : List (Key × V)} {ks : List Key} {xs : List V} {ds : List D} : H a = some (.frz o (.dK kvs)) → kvs = ks.zip xs → ks.length = xs.length → RpL K H xs ds → Rp K H (.ref a) (.dct ((ks.map keyD).zip ds))
  | dt {a : Addr} {o : Obj} {kvs : List (List Key × V)} {ks : List (List Key)} {xs : List V} {ds : List D} : H a = some (.frz o (.dT kvs)) → kvs = ks.zip xs → ks.length = xs.length → RpL K H xs ds → Rp K H (.ref a) (.dct ((ks.map tkD).zip ds))
  | exn0 {a C : Addr} : H a = some (ExcO C none a) → Rp K H (.ref a) (.exn C [])
  | exn {a C dx : Addr} {ns : List Str} {xs : List V} {ds : List D} : H a = some (ExcO C (some dx) a) → H dx = some (.xd (ns.zip xs)) → ns.length = xs.length → RpL K H xs ds → Rp K H (.ref a) (.exn C (ns.zip ds))
inductive RpL (K : PySem.W.Frag) (H : Hp) : List V → List D → Prop
  | nil : RpL K H [] []
  | cons {v : V} {vs : List V} {d : D} {ds : List D} : Rp K H v d → RpL K H vs ds → RpL K H (v :: vs) (d :: ds)
end

theorem SqT.ext {K : PySem.W.Frag} {H H' : Hp} {a : Addr} {xs : List V} (e : Ext H H') (h : SqT K H a xs) : SqT K H' a xs := by
  rcases h with (h | ⟨o, h⟩) | h
  · exact .inl (.inl (e _ _ h rfl))
  · exact .inl (.inr ⟨o, e _ _ h rfl⟩)
  · exact .inr h

mutual
theorem Rp.ext {K : PySem.W.Frag} {H H' : Hp} (e : Ext H H') : ∀ {v : V} {d : D}, Rp K H v d → Rp K H' v d
  | _, _, .non => .non
  | _, _, .bl b => .bl b
  | _, _, .int i => .int i
  | _, _, .str x => .str x
  | _, _, .tup h l => .tup (e _ _ h rfl) (RpL.ext e l)
  | _, _, .lst h l => .lst (e _ _ h rfl) (RpL.ext e l)
  | _, _, .dk h e1 e2 l => .dk (e _ _ h rfl) e1 e2 (RpL.ext e l)
  | _, _, .dt h e1 e2 l => .dt (e _ _ h rfl) e1 e2 (RpL.ext e l)
  | _, _, .exn0 h => .exn0 (e _ _ h rfl)
  | _, _, .exn h h2 e1 l => .exn (e _ _ h rfl) (e _ _ h2 rfl) e1 (RpL.ext e l)
theorem RpL.ext {K : PySem.W.Frag} {H H' : Hp} (e : Ext H H') : ∀ {vs : List V} {ds : List D}, RpL K H vs ds → RpL K H' vs ds
  | _, _, .nil => .nil
  | _, _, .cons h t => .cons (Rp.ext e h) (RpL.ext e t)
end
section
variable {K : PySem.W.Frag} {H : Hp}
theorem RpL.length : ∀ {vs : List V} {ds : List D}, RpL K H vs ds → vs.length = ds.length
  | _, _, .nil => rfl
  | _, _, .cons _ t => by rw [List.length_cons, List.length_cons, RpL.length t]
theorem RpL.get : ∀ {vs : List V} {ds : List D} {i : Nat} {v : V}, RpL K H vs ds → vs[i]? = some v → ∃ d, ds[i]? = some d ∧ Rp K H v d
  | _, _, _, _, .nil, e => by simp at e
  | _, _, 0, _, .cons h _, e => by simp at e; subst e; exact ⟨_, rfl, h⟩
  | _, _, i + 1, v, .cons _ t, e => by
    obtain ⟨d, h1, h2⟩ := RpL.get (i := i) (v := v) t (by simpa using e)
    exact ⟨d, by simpa using h1, h2⟩
theorem RpL.getD : ∀ {vs : List V} {ds : List D} {i : Nat} {d : D}, RpL K H vs ds → ds[i]? = some d → ∃ v, vs[i]? = some v ∧ Rp K H v d
  | _, _, _, _, .nil, e => by simp at e
  | _, _, 0, _, .cons h _, e => by simp at e; subst e; exact ⟨_, rfl, h⟩
  | _, _, i + 1, v, .cons _ t, e => by
    obtain ⟨d, h1, h2⟩ := RpL.getD (i := i) (d := v) t (by simpa using e)
    exact ⟨d, by simpa using h1, h2⟩
theorem RpL.append : ∀ {vs ws : List V} {ds es : List D}, RpL K H vs ds → RpL K H ws es → RpL K H (vs ++ ws) (ds ++ es)
  | _, _, _, _, .nil, s => s
  | _, _, _, _, .cons h t, s => .cons h (RpL.append t s)
theorem RpL.take : ∀ {vs : List V} {ds : List D} (n : Nat), RpL K H vs ds → RpL K H (vs.take n) (ds.take n)
  | _, _, 0, _ => .nil
  | _, _, _ + 1, .nil => .nil
  | _, _, n + 1, .cons h t => .cons h (RpL.take n t)
theorem RpL.drop : ∀ {vs : List V} {ds : List D} (n : Nat), RpL K H vs ds → RpL K H (vs.drop n) (ds.drop n)
  | _, _, 0, r => r
  | _, _, _ + 1, .nil => .nil
  | _, _, n + 1, .cons _ t => RpL.drop n t
theorem RpL.nil_iff {vs : List V} {ds : List D} (r : RpL K H vs ds) : vs = [] ↔ ds = [] := by
  cases r <;> simp
theorem RpL.set {v : V} {d : D} (h : Rp K H v d) : ∀ {vs : List V} {ds : List D} (i : Nat), RpL K H vs ds → RpL K H (vs.set i v) (ds.set i d)
  | _, _, _, .nil => .nil
  | _, _, 0, .cons _ t => .cons h t
  | _, _, i + 1, .cons q t => .cons q (RpL.set h i t)
theorem RpL.eraseIdx : ∀ {vs : List V} {ds : List D} (i : Nat), RpL K H vs ds → RpL K H (vs.eraseIdx i) (ds.eraseIdx i)
  | _, _, _, .nil => .nil
  | _, _, 0, .cons _ t => t
  | _, _, i + 1, .cons q t => .cons q (RpL.eraseIdx i t)
theorem RpL.dropLast : ∀ {vs : List V} {ds : List D}, RpL K H vs ds → RpL K H vs.dropLast ds.dropLast
  | _, _, .nil => .nil
  | _, _, .cons h .nil => .nil
  | _, _, .cons h (.cons h2 t) => .cons h (RpL.dropLast (.cons h2 t))
theorem RpL.reverse : ∀ {vs : List V} {ds : List D}, RpL K H vs ds → RpL K H vs.reverse ds.reverse
  | _, _, .nil => .nil
  | _, _, .cons h t => by rw [List.reverse_cons, List.reverse_cons]; exact (RpL.reverse t).append (.cons h .nil)
theorem RpL.rep {vs : List V} {ds : List D} (h : RpL K H vs ds) : ∀ k : Nat, RpL K H (List.replicate k vs).flatten (List.replicate k ds).flatten
  | 0 => .nil
  | k + 1 => by rw [List.replicate_succ, List.replicate_succ, List.flatten_cons, List.flatten_cons]; exact h.append (RpL.rep h k)
theorem RpL.ints : ∀ {vs : List V} {ns : List Int}, RpL K H vs (ns.map .int) → vs = ns.map V.int
  | _, [], h => by cases h; rfl
  | _, n :: ns, h => by
    cases h with
    | cons h t => cases h; rw [RpL.ints t]; rfl
theorem RpL.of_ints : ∀ (ns : List Int), RpL K H (ns.map V.int) (ns.map .int)
  | [] => .nil
  | n :: ns => .cons (.int n) (RpL.of_ints ns)
end

/-! ### slots -/
structure DrS where
  great : List Int
  cells : List Int
  rest : Int
  turn : Int
inductive SV where
  | un | st (d : D) | ol (ds : List D) | od (kvs : List (D × D)) | dr (s : DrS)
def SV.own : SV → Bool
  | .ol _ => true
  | .od _ => true
  | .dr _ => true
  | _ => false
/-- an unfrozen dict at a, its keys tuples -/
def DMut (K : PySem.W.Frag) (H : Hp) (a : Addr) (kvs : List (D × D)) : Prop :=
  ∃ (ks : List (List Key)) (xs : List V) (ds : List D), H a = some (.dT (ks.zip xs)) ∧ ks.length = xs.length ∧ RpL K H xs ds ∧ kvs = (ks.map tkD).zip ds
def kGreat : Key := .inr "great"
def kCells : Key := .inr "cells"
def kRest : Key := .inr "rest"
def kTurn : Key := .inr "turn"
def DrOk (K : PySem.W.Frag) (H : Hp) (a g : Addr) (s : DrS) : Prop :=
  ∃ (c : Addr) (o : Obj), H a = some (.dK [(kGreat, .ref g), (kCells, .ref c), (kRest, .int s.rest), (kTurn, .int s.turn)]) ∧ H g = some (.lst (s.great.map V.int)) ∧ H c = some (.frz o (.lst (s.cells.map V.int)))
def SlotOk (K : PySem.W.Frag) (H : Hp) (v : Option V) : SV → List Addr → Prop
  | .un, fp => fp = []
  | .st d, fp => fp = [] ∧ ∃ u, v = some u ∧ Rp K H u d
  | .ol ds, fp => ∃ a xs, v = some (.ref a) ∧ fp = [a] ∧ H a = some (.lst xs) ∧ RpL K H xs ds
  | .od kvs, fp => ∃ a, v = some (.ref a) ∧ fp = [a] ∧ DMut K H a kvs
  | .dr s, fp => ∃ a g, v = some (.ref a) ∧ fp = [a, g] ∧ DrOk K H a g s
/-- the cells at fp stay as they were, the stable ones too -/
theorem DMut.keep {K : PySem.W.Frag} {H H' : Hp} {a : Addr} {kvs : List (D × D)} (e : Ext H H') (k : ∀ o, H a = some o → H' a = some o) (h : DMut K H a kvs) : DMut K H' a kvs := by
  obtain ⟨ks, xs, ds, h1, h2, h3, h4⟩ := h
  exact ⟨ks, xs, ds, k _ h1, h2, h3.ext e, h4⟩
theorem DrOk.keep {K : PySem.W.Frag} {H H' : Hp} {a g : Addr} {s : DrS} (e : Ext H H') (k : ∀ b ∈ [a, g], ∀ o, H b = some o → H' b = some o) (h : DrOk K H a g s) : DrOk K H' a g s := by
  obtain ⟨c, o, h1, h2, h3⟩ := h
  exact ⟨c, o, k a (by simp) _ h1, k g (by simp) _ h2, e _ _ h3 rfl⟩
theorem SlotOk.keep {K : PySem.W.Frag} {H H' : Hp} {v : Option V} {s : SV} {fp : List Addr} (e : Ext H H') (k : ∀ b ∈ fp, ∀ o, H b = some o → H' b = some o) (h : SlotOk K H v s fp) : SlotOk K H' v s fp := by
  cases s with
  | un => exact h
  | st d => obtain ⟨h1, u, h2, h3⟩ := h; exact ⟨h1, u, h2, h3.ext e⟩
  | ol ds => obtain ⟨a, xs, h1, h2, h3, h4⟩ := h; subst h2; exact ⟨a, xs, h1, rfl, k a (by simp) _ h3, h4.ext e⟩
  | od kvs => obtain ⟨a, h1, h2, h3⟩ := h; subst h2; exact ⟨a, h1, rfl, h3.keep e (k a (by simp))⟩
  | dr s => obtain ⟨a, g, h1, h2, h3⟩ := h; subst h2; exact ⟨a, g, h1, rfl, h3.keep e k⟩
/-- the cells at fp are there -/
theorem SlotOk.there {K : PySem.W.Frag} {H : Hp} {v : Option V} {s : SV} {fp : List Addr} (h : SlotOk K H v s fp) : ∀ b ∈ fp, ∃ o, H b = some o ∧ stb o = false ∧ ∀ ps, o ≠ .tbl ps := by
  intro b hb
  cases s with
  | un => cases h; cases hb
  | st d => obtain ⟨h1, _⟩ := h; subst h1; cases hb
  | ol ds => obtain ⟨a, xs, h1, h2, h3, h4⟩ := h; subst h2; simp at hb; subst hb; exact ⟨_, h3, rfl, fun ps z => by cases z⟩
  | od kvs =>
    obtain ⟨a, h1, h2, h3⟩ := h; subst h2; simp at hb; subst hb
    obtain ⟨_, _, _, q, _⟩ := h3
    exact ⟨_, q, rfl, fun ps z => by cases z⟩
  | dr s =>
    obtain ⟨a, g, h1, h2, c, o, q1, q2, q3⟩ := h; subst h2
    simp at hb
    rcases hb with rfl | rfl
    · exact ⟨_, q1, rfl, fun ps z => by cases z⟩
    · exact ⟨_, q2, rfl, fun ps z => by cases z⟩

abbrev Ρ := List SV
def svAt (ρ : Ρ) (i : Nat) : SV := ρ.getD i .un
def vAt (σ : L2.St) (i : Nat) : Option V := σ.getD i none

/-- what is fixed through a def: the tables, the heap at the entry, the cells that may change, the slots that are handed in to be changed, what else must stand -/
structure GC where
  T : List (Addr × Str)
  H0 : Hp
  Z : List Addr
  ow : List Nat
  pinV : Nat → V
  pinF : Nat → List Addr
  prot : List (Addr × HO)
/-- a further object must stand -/
def GC.pr (G : GC) (p : Addr) (o : HO) : GC := { G with prot := (p, o) :: G.prot }
/-- nothing is tracked at b but a table, perhaps -/
def FrT (H : Hp) (b : Addr) : Prop := ∀ o, H b = some o → ∃ ps, o = .tbl ps
structure Keep (Z : List Addr) (H0 H : Hp) : Prop where
  keep : ∀ b o, H0 b = some o → b ∉ Z → (∀ ps, o ≠ .tbl ps) → H b = some o
  dom : ∀ b o, H0 b = some o → (∀ ps, o ≠ .tbl ps) → ∃ o', H b = some o' ∧ ∀ ps, o' ≠ .tbl ps
theorem Keep.refl (Z : List Addr) (H : Hp) : Keep Z H H := ⟨fun _ _ h _ _ => h, fun _ o h t => ⟨o, h, t⟩⟩
theorem Keep.fr {Z : List Addr} {H0 H : Hp} (k : Keep Z H0 H) {b : Addr} (h : H b = none) : FrT H0 b := fun o e => by
  by_cases t : ∃ ps, o = .tbl ps
  · exact t
  · obtain ⟨o', e', _⟩ := k.dom b o e fun ps z => t ⟨ps, z⟩
    rw [h] at e'; cases e'
theorem Keep.trans {Z : List Addr} {H H1 H2 : Hp} (a : Keep Z H H1) (b : Keep Z H1 H2) : Keep Z H H2 := ⟨fun c o h z t => b.keep c o (a.keep c o h z t) z t, fun c o h t => by
  obtain ⟨o1, h1, t1⟩ := a.dom c o h t
  exact b.dom c o1 h1 t1⟩
theorem same_dom {H H' : Hp} (s : Same H H') : ∀ b, H' b = none → H b = none := fun b h => s.free h
theorem Keep.same {Z : List Addr} {H0 H H' : Hp} (a : Keep Z H0 H) (s : Same H H') : Keep Z H0 H' := ⟨fun c o h z t => s c o (a.keep c o h z t), fun c o h t => by
  obtain ⟨o1, h1, t1⟩ := a.dom c o h t
  exact ⟨o1, s c o1 h1, t1⟩⟩
structure StEx (K : PySem.W.Frag) (G : GC) (σ : L2.St) (H : Hp) (ρ : Ρ) (fp : Nat → List Addr) : Prop where
  len : σ.length = ρ.length
  slot : ∀ i, i < ρ.length → SlotOk K H (vAt σ i) (svAt ρ i) (fp i)
  sep : ∀ i j b, i < ρ.length → j < ρ.length → i ≠ j → b ∈ fp i → b ∉ fp j
  own : ∀ i b, i < ρ.length → b ∈ fp i → FrT G.H0 b ∨ b ∈ G.Z
  pin : ∀ i ∈ G.ow, i < ρ.length ∧ vAt σ i = some (G.pinV i) ∧ fp i = G.pinF i
  prot : ∀ p ∈ G.prot, H p.1 = some p.2 ∧ FrT G.H0 p.1 ∧ ∀ i, i < ρ.length → p.1 ∉ fp i
  notbl : ∀ p ∈ G.prot, ∀ ps, p.2 ≠ .tbl ps
  nd : (G.prot.map (·.1)).Nodup
structure StOk (K : PySem.W.Frag) (G : GC) (σ : L2.St) (H : Hp) (ρ : Ρ) : Prop where
  ex : ∃ fp, StEx K G σ H ρ fp
  keep : Keep G.Z G.H0 H
  tabs : LamX.Tabs G.T H
theorem StOk.same {K : PySem.W.Frag} {G : GC} {σ : L2.St} {H H' : Hp} {ρ : Ρ} (h : StOk K G σ H ρ) (s : Same H H') : StOk K G σ H' ρ := by
  obtain ⟨⟨fp, h1, h2, h3, h4, h5, h6, h8, h7⟩, k, t⟩ := h
  exact ⟨⟨fp, h1, fun i hi => (h2 i hi).keep (.of s) fun b _ o e => s b o e, h3, h4, h5, fun p hp => ⟨s _ _ (h6 p hp).1, (h6 p hp).2⟩, h8, h7⟩, k.same s, t.ext s⟩
theorem StOk.len {K : PySem.W.Frag} {G : GC} {σ : L2.St} {H : Hp} {ρ : Ρ} (h : StOk K G σ H ρ) : σ.length = ρ.length := let ⟨⟨_, e⟩, _, _⟩ := h; e.len
theorem svAt_of {ρ : Ρ} {i : Nat} {s : SV} (h : svAt ρ i = s) (hs : s ≠ .un) : i < ρ.length := by
  by_cases hi : i < ρ.length
  · exact hi
  · have : svAt ρ i = .un := by unfold svAt; simp [List.getD, List.getElem?_eq_none (by omega : ρ.length ≤ i)]
    exact absurd (h.symm.trans this) hs
theorem vAt_get {σ : L2.St} {i : Nat} {v : V} (h : vAt σ i = some v) : σ[i]? = some (some v) := by
  unfold vAt List.getD at h
  cases e : σ[i]? with
  | none => rw [e] at h; simp at h
  | some o => rw [e] at h; simp at h; rw [h]
/-- a stable slot is read -/
theorem StOk.st {K : PySem.W.Frag} {G : GC} {σ : L2.St} {H : Hp} {ρ : Ρ} (h : StOk K G σ H ρ) {i : Nat} {d : D} (e : svAt ρ i = .st d) : ∃ v, σ[i]? = some (some v) ∧ Rp K H v d := by
  obtain ⟨⟨fp, x⟩, _, _⟩ := h
  have := x.slot i (svAt_of e (by intro z; cases z))
  rw [e] at this
  obtain ⟨_, u, h1, h2⟩ := this
  exact ⟨u, vAt_get h1, h2⟩
theorem StOk.ol {K : PySem.W.Frag} {G : GC} {σ : L2.St} {H : Hp} {ρ : Ρ} (h : StOk K G σ H ρ) {i : Nat} {ds : List D} (e : svAt ρ i = .ol ds) : ∃ a xs, σ[i]? = some (some (.ref a)) ∧ H a = some (.lst xs) ∧ RpL K H xs ds := by
  obtain ⟨⟨fp, x⟩, _, _⟩ := h
  have := x.slot i (svAt_of e (by intro z; cases z))
  rw [e] at this
  obtain ⟨a, xs, h1, _, h2, h3⟩ := this
  exact ⟨a, xs, vAt_get h1, h2, h3⟩
theorem StOk.od {K : PySem.W.Frag} {G : GC} {σ : L2.St} {H : Hp} {ρ : Ρ} (h : StOk K G σ H ρ) {i : Nat} {kvs : List (D × D)} (e : svAt ρ i = .od kvs) : ∃ a, σ[i]? = some (some (.ref a)) ∧ DMut K H a kvs := by
  obtain ⟨⟨fp, x⟩, _, _⟩ := h
  have := x.slot i (svAt_of e (by intro z; cases z))
  rw [e] at this
  obtain ⟨a, h1, _, h2⟩ := this
  exact ⟨a, vAt_get h1, h2⟩

/-! ### results -/
/-- a raised exception: its class, its own dict's fields -/
structure Xn where
  C : Addr
  fs : List (Str × D)
def XnOk (K : PySem.W.Frag) (H : Hp) (d : Option Addr) (x : Xn) : Prop :=
  match x.fs with
  | [] => d = none
  | fs => ∃ (dx : Addr) (ns : List Str) (xs : List V) (ds : List D), d = some dx ∧ H dx = some (.xd (ns.zip xs)) ∧ ns.length = xs.length ∧ RpL K H xs ds ∧ fs = ns.zip ds
inductive Res (α : Type) where
  | bad | ok (a : α) (ρ : Ρ) | ex (x : Xn) (ρ : Ρ)
def Res.bind {α β : Type} (r : Res α) (k : α → Ρ → Res β) : Res β := match r with
  | .bad => .bad
  | .ok a ρ => k a ρ
  | .ex x ρ => .ex x ρ
theorem Res.bind_ok {α β : Type} (a : α) (ρ : Ρ) (k : α → Ρ → Res β) : (Res.ok a ρ).bind k = k a ρ := rfl
theorem Res.bind_bad {α β : Type} (k : α → Ρ → Res β) : (Res.bad : Res α).bind k = .bad := rfl
theorem Res.bind_ex {α β : Type} (x : Xn) (ρ : Ρ) (k : α → Ρ → Res β) : (Res.ex x ρ : Res α).bind k = .ex x ρ := rfl
def lift {α : Type} (o : Option α) (ρ : Ρ) : Res α := match o with
  | some a => .ok a ρ
  | none => .bad
theorem lift_some {α : Type} (a : α) (ρ : Ρ) : lift (some a) ρ = .ok a ρ := rfl
abbrev Ev (α : Type) := Ρ → Res α
inductive SRes where
  | bad | nx (ρ : Ρ) | rt (d : D) (ρ : Ρ) | bk (ρ : Ρ) | ct (ρ : Ρ) | ex (x : Xn) (ρ : Ρ)
abbrev Sv := Ρ → SRes

section
variable (K : PySem.W.Frag) (G : GC) (E : XK)
def atXe (x : Xn) (σ : L2.St) (ρ : Ρ) (H : Hp) : Prop := ∀ dx H', Ext H H' → StOk K G σ H' ρ → XnOk K H' dx x → E (.ref x.C) dx H'
def atX (x : Xn) (ρ : Ρ) (H : Hp) : Prop := ∀ dx H', Ext H H' → (∃ σ', StOk K G σ' H' ρ) → XnOk K H' dx x → E (.ref x.C) dx H'
def atE (r : Res D) (σ : L2.St) (H : Hp) (Q : VK) : Prop := match r with
  | .bad => False
  | .ok d ρ => ∀ v H', Ext H H' → StOk K G σ H' ρ → Rp K H' v d → Q v H'
  | .ex x ρ => atXe K G E x σ ρ H
def atT (r : Res Bool) (σ : L2.St) (H : Hp) (Q : Bool → Hp → Prop) : Prop := match r with
  | .bad => False
  | .ok b ρ => ∀ H', Ext H H' → StOk K G σ H' ρ → Q b H'
  | .ex x ρ => atXe K G E x σ ρ H
def atL (r : Res (List D)) (σ : L2.St) (H : Hp) (Q : List V → Hp → Prop) : Prop := match r with
  | .bad => False
  | .ok ds ρ => ∀ vs H', Ext H H' → StOk K G σ H' ρ → RpL K H' vs ds → Q vs H'
  | .ex x ρ => atXe K G E x σ ρ H
def trE (F : Ev D) : TE := fun σ H Q => ∃ ρ, StOk K G σ H ρ ∧ atE K G E (F ρ) σ H Q
def trT (F : Ev Bool) : TT := fun σ H Q => ∃ ρ, StOk K G σ H ρ ∧ atT K G E (F ρ) σ H Q
def trL (F : Ev (List D)) : TA := fun σ H Q => ∃ ρ, StOk K G σ H ρ ∧ atL K G E (F ρ) σ H Q
def atS (r : SRes) (D' : Ends) (σ : L2.St) (H : Hp) : Prop := match r with
  | .bad => False
  | .nx ρ => ∀ σ' H', Ext H H' → StOk K G σ' H' ρ → D'.nx σ' H'
  | .rt d ρ => ∀ v σ' H', Ext H H' → StOk K G σ' H' ρ → Rp K H' v d → D'.rt v H'
  | .bk ρ => ∀ σ' H', Ext H H' → StOk K G σ' H' ρ → D'.bk σ' H'
  | .ct ρ => ∀ σ' H', Ext H H' → StOk K G σ' H' ρ → D'.ct σ' H'
  | .ex x ρ => atX K G E x ρ H
def trS (F : Sv) : TS := fun D' σ H => ∃ ρ, StOk K G σ H ρ ∧ atS K G E (F ρ) D' σ H
end
section
variable {K : PySem.W.Frag} {G : GC} {E : XK} {σ : L2.St} {H H1 : Hp}
theorem atX.e {x : Xn} {ρ : Ρ} (h : atX K G E x ρ H) : atXe K G E x σ ρ H := fun dx H' e' s r => h dx H' e' ⟨σ, s⟩ r
theorem atXe.mono {x : Xn} {ρ : Ρ} (h : atXe K G E x σ ρ H) (e : Ext H H1) : atXe K G E x σ ρ H1 := fun dx H' e' s r => h dx H' (e.trans e') s r
theorem atX.mono {x : Xn} {ρ : Ρ} (h : atX K G E x ρ H) (e : Ext H H1) : atX K G E x ρ H1 := fun dx H' e' s r => h dx H' (e.trans e') s r
theorem atE.mono {r : Res D} {Q : VK} (h : atE K G E r σ H Q) (e : Ext H H1) : atE K G E r σ H1 Q := by
  cases r with
  | bad => exact h
  | ok d ρ => exact fun v H' e' s r => h v H' (e.trans e') s r
  | ex x ρ => exact atXe.mono h e
theorem atT.mono {r : Res Bool} {Q : Bool → Hp → Prop} (h : atT K G E r σ H Q) (e : Ext H H1) : atT K G E r σ H1 Q := by
  cases r with
  | bad => exact h
  | ok d ρ => exact fun H' e' s => h H' (e.trans e') s
  | ex x ρ => exact atXe.mono h e
theorem atL.mono {r : Res (List D)} {Q : List V → Hp → Prop} (h : atL K G E r σ H Q) (e : Ext H H1) : atL K G E r σ H1 Q := by
  cases r with
  | bad => exact h
  | ok d ρ => exact fun v H' e' s r => h v H' (e.trans e') s r
  | ex x ρ => exact atXe.mono h e
theorem atS.mono {r : SRes} {D' : Ends} (h : atS K G E r D' σ H) (e : Ext H H1) : atS K G E r D' σ H1 := by
  cases r with
  | bad => exact h
  | nx ρ => exact fun v H' e' s => h v H' (e.trans e') s
  | bk ρ => exact fun v H' e' s => h v H' (e.trans e') s
  | ct ρ => exact fun v H' e' s => h v H' (e.trans e') s
  | rt d ρ => exact fun v σ' H' e' s r => h v σ' H' (e.trans e') s r
  | ex x ρ => exact atX.mono h e
theorem atS.any {r : SRes} {D' : Ends} {σ' : L2.St} (h : atS K G E r D' σ H) : atS K G E r D' σ' H := by
  cases r <;> exact h
/-- the heart: what follows a part, at the part's own end -/
theorem atE.bindE {r : Res D} {k : D → Ρ → Res D} {Q : VK} (h : atE K G E (r.bind k) σ H Q) : atE K G E r σ H fun v H1 => ∃ d ρ, Ext H H1 ∧ StOk K G σ H1 ρ ∧ Rp K H1 v d ∧ atE K G E (k d ρ) σ H1 Q := by
  cases r with
  | bad => exact h
  | ok d ρ => exact fun v H' e s rp => ⟨d, ρ, e, s, rp, atE.mono (r := k d ρ) h e⟩
  | ex x ρ => exact h
theorem atT.bindE {r : Res D} {k : D → Ρ → Res Bool} {Q : Bool → Hp → Prop} (h : atT K G E (r.bind k) σ H Q) : atE K G E r σ H fun v H1 => ∃ d ρ, Ext H H1 ∧ StOk K G σ H1 ρ ∧ Rp K H1 v d ∧ atT K G E (k d ρ) σ H1 Q := by
  cases r with
  | bad => exact h
  | ok d ρ => exact fun v H' e s rp => ⟨d, ρ, e, s, rp, atT.mono (r := k d ρ) h e⟩
  | ex x ρ => exact h
theorem atL.bindE {r : Res D} {k : D → Ρ → Res (List D)} {Q : List V → Hp → Prop} (h : atL K G E (r.bind k) σ H Q) : atE K G E r σ H fun v H1 => ∃ d ρ, Ext H H1 ∧ StOk K G σ H1 ρ ∧ Rp K H1 v d ∧ atL K G E (k d ρ) σ H1 Q := by
  cases r with
  | bad => exact h
  | ok d ρ => exact fun v H' e s rp => ⟨d, ρ, e, s, rp, atL.mono (r := k d ρ) h e⟩
  | ex x ρ => exact h
theorem atE.bindT {r : Res Bool} {k : Bool → Ρ → Res D} {Q : VK} (h : atE K G E (r.bind k) σ H Q) : atT K G E r σ H fun b H1 => ∃ ρ, Ext H H1 ∧ StOk K G σ H1 ρ ∧ atE K G E (k b ρ) σ H1 Q := by
  cases r with
  | bad => exact h
  | ok d ρ => exact fun H' e s => ⟨ρ, e, s, atE.mono (r := k d ρ) h e⟩
  | ex x ρ => exact h
theorem atT.bindT {r : Res Bool} {k : Bool → Ρ → Res Bool} {Q : Bool → Hp → Prop} (h : atT K G E (r.bind k) σ H Q) : atT K G E r σ H fun b H1 => ∃ ρ, Ext H H1 ∧ StOk K G σ H1 ρ ∧ atT K G E (k b ρ) σ H1 Q := by
  cases r with
  | bad => exact h
  | ok d ρ => exact fun H' e s => ⟨ρ, e, s, atT.mono (r := k d ρ) h e⟩
  | ex x ρ => exact h
theorem atE.bindL {r : Res (List D)} {k : List D → Ρ → Res D} {Q : VK} (h : atE K G E (r.bind k) σ H Q) : atL K G E r σ H fun vs H1 => ∃ ds ρ, Ext H H1 ∧ StOk K G σ H1 ρ ∧ RpL K H1 vs ds ∧ atE K G E (k ds ρ) σ H1 Q := by
  cases r with
  | bad => exact h
  | ok d ρ => exact fun v H' e s rp => ⟨d, ρ, e, s, rp, atE.mono (r := k d ρ) h e⟩
  | ex x ρ => exact h
theorem atL.bindL {r : Res (List D)} {k : List D → Ρ → Res (List D)} {Q : List V → Hp → Prop} (h : atL K G E (r.bind k) σ H Q) : atL K G E r σ H fun vs H1 => ∃ ds ρ, Ext H H1 ∧ StOk K G σ H1 ρ ∧ RpL K H1 vs ds ∧ atL K G E (k ds ρ) σ H1 Q := by
  cases r with
  | bad => exact h
  | ok d ρ => exact fun v H' e s rp => ⟨d, ρ, e, s, rp, atL.mono (r := k d ρ) h e⟩
  | ex x ρ => exact h
theorem atE.imp {r : Res D} {Q Q' : VK} (h : atE K G E r σ H Q) (w : ∀ v H', Q v H' → Q' v H') : atE K G E r σ H Q' := by
  cases r with
  | bad => exact h
  | ok d ρ => exact fun v H' e s rp => w _ _ (h v H' e s rp)
  | ex x ρ => exact h
theorem atT.imp {r : Res Bool} {Q Q' : Bool → Hp → Prop} (h : atT K G E r σ H Q) (w : ∀ v H', Q v H' → Q' v H') : atT K G E r σ H Q' := by
  cases r with
  | bad => exact h
  | ok d ρ => exact fun H' e s => w _ _ (h H' e s)
  | ex x ρ => exact h
theorem atL.imp {r : Res (List D)} {Q Q' : List V → Hp → Prop} (h : atL K G E r σ H Q) (w : ∀ v H', Q v H' → Q' v H') : atL K G E r σ H Q' := by
  cases r with
  | bad => exact h
  | ok d ρ => exact fun v H' e s rp => w _ _ (h v H' e s rp)
  | ex x ρ => exact h
/-- a value without heap -/
theorem atE.now {d : D} {ρ : Ρ} {Q : VK} (h : atE K G E (.ok d ρ) σ H Q) (s : StOk K G σ H ρ) {v : V} (r : Rp K H v d) : Q v H := h v H (.refl H) s r
theorem atE.same {d : D} {ρ : Ρ} {Q : VK} (h : atE K G E (.ok d ρ) σ H Q) (s : StOk K G σ H ρ) (e : Same H H1) {v : V} (r : Rp K H1 v d) : Q v H1 := h v H1 (.of e) (s.same e) r
end
section
variable {X : Cx} {e : Expr} {es : List Expr} {st : Stmt} {sts : List Stmt}
theorem PE.imp {t t' : TE} (h : PE X e t) (w : ∀ σ H Q, t' σ H Q → t σ H Q) : PE X e t' := ⟨fun pins s σ H Q I q => h.run pins s σ H Q I (w σ H Q q)⟩
theorem PT.imp {t t' : TT} (h : PT X e t) (w : ∀ σ H Q, t' σ H Q → t σ H Q) : PT X e t' := ⟨fun pins s σ H Q I q => h.run pins s σ H Q I (w σ H Q q)⟩
theorem PW.imp {t t' : TT} (h : PW X e t) (w : ∀ σ H Q, t' σ H Q → t σ H Q) : PW X e t' := ⟨fun wh pins s σ H Q I q => h.run wh pins s σ H Q I (w σ H Q q)⟩
theorem PA.imp {t t' : TA} (h : PA X es t) (w : ∀ σ H Q, t' σ H Q → t σ H Q) : PA X es t' := ⟨fun pos pins s σ H Q I q => h.run pos pins s σ H Q I (w σ H Q q)⟩
theorem PS.imp {t t' : TS} (h : PS X st t) (w : ∀ D σ H, t' D σ H → t D σ H) : PS X st t' := ⟨fun pins s σ H D I q => h.run pins s σ H D I (w D σ H q)⟩
theorem PSs.imp {t t' : TS} (h : PSs X sts t) (w : ∀ D σ H, t' D σ H → t D σ H) : PSs X sts t' := ⟨fun pins s σ H D I q => h.run pins s σ H D I (w D σ H q)⟩
end
end PU
namespace PU
open PySem PySem.Spec PyProof.Rows L2

/-! ### a new list, a new dict: known to its object from now on -/
theorem _root_.L2.Inv.freeze {X : Cx} {pins : List (Addr × Obj)} {σ : L2.St} {H : Hp} {s : Shared} {a : Addr} {u : HO} {o : Obj} (I : Inv X pins σ H s) (ha : H a = some u) (mu : Mut (some u)) (ho : s.heap.get? a = some o) :
    Inv X pins σ (upd H a (.frz o u)) s := by
  have ne_tup : ∀ b xs, H b = some (.tup xs) → b ≠ a := fun b xs q z => by subst z; rw [ha] at q; cases q; exact mu
  have ne_frz : ∀ b ob w, H b = some (.frz ob w) → b ≠ a := fun b ob w q z => by subst z; rw [ha] at q; cases q; exact mu
  have ne_tbl : ∀ b ps, H b = some (.tbl ps) → b ≠ a := fun b ps q z => by subst z; rw [ha] at q; cases q; exact mu
  have ne_own : ∀ b y, H b = some (.own y) → b ≠ a := fun b y q z => by subst z; rw [ha] at q; cases q; exact mu
  have ne_none : ∀ b, H b = none → b ≠ a := fun b q z => by subst z; rw [ha] at q; cases q
  have u1 : Un X.fs X.ex H (upd H a (.frz o u)) s.heap s.heap :=
    ⟨fun b ob q _ _ _ => q, fun b ob q _ _ _ => ⟨ob.slots, q⟩, fun b ob q n _ => by rw [upd_ne (ne_none b n)]; exact n, fun b ob q _ => ⟨ob, q⟩,
      fun b xs q => by rw [upd_ne (ne_tup b xs q)]; exact q, fun b ob w q => by rw [upd_ne (ne_frz b ob w q)]; exact q, fun b ps q => ⟨#[], by rw [upd_ne (ne_tbl b ps q), q]; simp⟩⟩
  have stay : ∀ b w, H b = some w → ObjOk X.prog X.w H s.heap b w → ObjOk X.prog X.w (upd H a (.frz o u)) s.heap b w := fun b w _ k =>
    k.stay (fun _ _ _ q => q) (fun c q => by rw [upd_ne (ne_own c b q)]; exact q) fun c xs q => by rw [upd_ne (ne_tup c xs q)]; exact q
  refine ⟨I.ok, I.os, I.bare, I.base.trans u1, I.loc, I.cell, by rw [upd_ne (ne_none _ I.free)]; exact I.free, fun x c e => by rw [upd_ne (ne_none _ (I.freeC x c e))]; exact I.freeC x c e,
    fun p hp => ?_, fun b w q => ?_, I.len⟩
  · obtain ⟨h1, h2, h3⟩ := I.pin p hp
    exact ⟨h1, by rw [upd_ne (ne_none _ h2)]; exact h2, h3⟩
  · by_cases hb : b = a
    · subst hb
      rw [upd_same] at q
      cases q
      exact ⟨ho, stay b u ha (I.hok b u ha)⟩
    · rw [upd_ne hb] at q
      exact stay b w q (I.hok b w q)
/-- lists and dicts -/
def isLD : HO → Bool
  | .lst _ => true
  | .dK _ => true
  | .dT _ => true
  | _ => false
def Fz (Q : VK) : VK := fun v H => (∀ a u, v = .ref a → H a = some u → isLD u = true → ∀ o, Q v (upd H a (.frz o u))) ∧ ((∀ a u, v = .ref a → H a = some u → isLD u = false) → Q v H)
theorem fz_ep {X : Cx} {pins : List (Addr × Obj)} {σ : L2.St} {Q : VK} {u : Value} {s : Shared} (h : EP X pins σ (Fz Q) u s) : EP X pins σ Q u s := by
  obtain ⟨v, H, I, r, q1, q2⟩ := h
  by_cases hc : ∃ a u, v = .ref a ∧ H a = some u ∧ isLD u = true
  · obtain ⟨a, w, e1, e2, e3⟩ := hc
    have mu : Mut (some w) := by cases w <;> first | exact True.intro | (simp [isLD] at e3)
    have ho : ∃ o, s.heap.get? a = some o := by
      have z := I.hok a w e2
      cases w with
      | lst xs => obtain ⟨_, _, _, _, q⟩ := z; exact ⟨_, q⟩
      | dK kvs => obtain ⟨_, _, _, _, o, _, _, q, _⟩ := z; exact ⟨_, q⟩
      | dT kvs => obtain ⟨_, _, _, _, o, _, _, q, _⟩ := z; exact ⟨_, q⟩
      | _ => simp [isLD] at e3
    obtain ⟨o, ho⟩ := ho
    refine ⟨v, upd H a (.frz o w), I.freeze e2 mu ho, r, q1 a w e1 e2 e3 o⟩
  · exact ⟨v, H, I, r, q2 fun a w e1 e2 => by
      cases e3 : isLD w with
      | false => rfl
      | true => exact absurd ⟨a, w, e1, e2, e3⟩ hc⟩

section
variable {X : Cx}
theorem PE.fz {e : Expr} {t : TE} (h : PE X e t) : PE X e (fun σ H Q => t σ H (Fz Q)) := ⟨fun pins s σ H Q I q => thn (h.run pins s σ H (Fz Q) I q) fun _ _ z => fz_ep z⟩
theorem OpR.fz {f : Value → Value → Sem Value} {r : R2} (h : OpR X f r) : OpR X f (fun x y H Q => r x y H (Fz Q)) := fun pins s σ H x y v u Q I r1 r2 q => thn (h pins s σ H x y v u (Fz Q) I r1 r2 q) fun _ _ z => fz_ep z
theorem CallR.fz {f : Value} {r : List V → Hp → VK → Prop} (h : CallR X f r) : CallR X f (fun xs H Q => r xs H (Fz Q)) := fun pins s σ H xs us Q I r1 q => thn (h pins s σ H xs us (Fz Q) I r1 q) fun _ _ z => fz_ep z
/-- a new list is known from now on -/
theorem fz_lst {H : Hp} {p : Addr} {xs : List V} {Q : VK} (h : ∀ o, Q (.ref p) (upd H p (.frz o (.lst xs)))) : Fz Q (.ref p) (upd H p (.lst xs)) := by
  refine ⟨fun a u e1 e2 e3 o => ?_, fun z => ?_⟩
  · cases e1
    rw [upd_same] at e2
    cases e2
    rw [upd_upd]
    exact h o
  · exact absurd (z p _ rfl upd_same) (by simp [isLD])
theorem fz_dK {H : Hp} {p : Addr} {kvs : List (Key × V)} {Q : VK} (h : ∀ o, Q (.ref p) (upd H p (.frz o (.dK kvs)))) : Fz Q (.ref p) (upd H p (.dK kvs)) := by
  refine ⟨fun a u e1 e2 e3 o => ?_, fun z => ?_⟩
  · cases e1
    rw [upd_same] at e2
    cases e2
    rw [upd_upd]
    exact h o
  · exact absurd (z p _ rfl upd_same) (by simp [isLD])
theorem fz_dT {H : Hp} {p : Addr} {kvs : List (List Key × V)} {Q : VK} (h : ∀ o, Q (.ref p) (upd H p (.frz o (.dT kvs)))) : Fz Q (.ref p) (upd H p (.dT kvs)) := by
  refine ⟨fun a u e1 e2 e3 o => ?_, fun z => ?_⟩
  · cases e1
    rw [upd_same] at e2
    cases e2
    rw [upd_upd]
    exact h o
  · exact absurd (z p _ rfl upd_same) (by simp [isLD])
theorem fz_tup {H : Hp} {p : Addr} {xs : List V} {Q : VK} (h : Q (.ref p) (upd H p (.tup xs))) : Fz Q (.ref p) (upd H p (.tup xs)) := by
  refine ⟨fun a u e1 e2 e3 o => ?_, fun z => h⟩
  cases e1
  rw [upd_same] at e2
  cases e2
  cases e3
theorem fz_flat {H : Hp} {v : V} {Q : VK} (h : Q v H) (hv : ∀ a, v ≠ .ref a) : Fz Q v H := ⟨fun a u e1 _ _ _ => absurd e1 (hv a), fun _ => h⟩

/-! ### operators by values -/
def rD (K : PySem.W.Frag) (g : D → D → Option D) : R2 := fun x y H Q => ∃ d e r, Rp K H x d ∧ Rp K H y e ∧ g d e = some r ∧ ∀ v H', Same H H' → Rp K H' v r → Q v H'
def rDU (K : PySem.W.Frag) (g : D → Option D) : V → Hp → VK → Prop := fun x H Q => ∃ d r, Rp K H x d ∧ g d = some r ∧ ∀ v H', Same H H' → Rp K H' v r → Q v H'
/-- a call of a built-in, by values -/
def rDC (K : PySem.W.Frag) (g : List D → Option D) : List V → Hp → VK → Prop := fun xs H Q => ∃ ds r, RpL K H xs ds ∧ g ds = some r ∧ ∀ v H', Same H H' → Rp K H' v r → Q v H'
theorem new_lst {K : PySem.W.Frag} {H : Hp} {xs : List V} {ds : List D} {Q : VK} (h : RpL K H xs ds) (q : ∀ v H', Same H H' → Rp K H' v (.lst ds) → Q v H') : ∀ p, H p = none → Fz Q (.ref p) (upd H p (.lst xs)) := fun p hp =>
  fz_lst fun o => q _ _ (same_upd hp) (.lst (o := o) upd_same (h.ext (.of (same_upd hp))))
theorem new_tup {K : PySem.W.Frag} {H : Hp} {xs : List V} {ds : List D} {Q : VK} (h : RpL K H xs ds) (q : ∀ v H', Same H H' → Rp K H' v (.tup ds) → Q v H') : ∀ p, H p = none → Q (.ref p) (upd H p (.tup xs)) := fun p hp =>
  q _ _ (same_upd hp) (.tup upd_same (h.ext (.of (same_upd hp))))
/-- a known list is read -/
theorem _root_.L2.Inv.flst {pins : List (Addr × Obj)} {σ : L2.St} {H : Hp} {s : Shared} {p : Addr} {o : Obj} {xs : List V} (I : Inv X pins σ H s) (h : H p = some (.frz o (.lst xs))) :
    xs.length ≤ sizeLine ∧ ∃ (its : List Value) (n : Nat), Vals xs its ∧ xs.length = its.length ∧ s.heap.get? p = some { cls := .type "list", data := .seq its.toArray n } := by
  obtain ⟨_, z, its, n, r, e⟩ := (show ObjOk X.prog X.w H s.heap p (.frz o (.lst xs)) from I.hok p _ h)
  exact ⟨z, its, n, r, r.length, e⟩
def small (n : Nat) : Bool := decide (n ≤ sizeLine)
def dAdd : D → D → Option D
  | .int i, .int j => some (.int (i + j))
  | .str x, .str y => if x.length + y.length ≤ sizeLine then some (.str (x ++ y)) else none
  | .tup a, .tup b => if a.length + b.length ≤ sizeLine then some (.tup (a ++ b)) else none
  | .lst a, .lst b => if a.length + b.length ≤ sizeLine then some (.lst (a ++ b)) else none
  | _, _ => none
theorem op_addD : OpR X (binaryOp .Add) (rD X.K dAdd) := by
  intro pins s σ H x y v u Q I rx ry h
  obtain ⟨d, e, r, hd, he, hg, q⟩ := h
  cases hd with
  | int i =>
    cases he with
    | int j => cases hg; exact op_add pins s σ H _ _ v u Q I rx ry ⟨i, j, rfl, rfl, q _ _ (.refl H) (.int _)⟩
    | _ => cases hg
  | str i =>
    cases he with
    | str j =>
      simp only [dAdd] at hg
      split at hg
      · rename_i hz
        cases hg; exact op_add_str pins s σ H _ _ v u Q I rx ry ⟨i, j, rfl, rfl, hz, q _ _ (.refl H) (.str _)⟩
      · cases hg
    | _ => cases hg
  | @tup a xs ds h1 h2 =>
    cases he with
    | @tup b ys es h3 h4 =>
      simp only [dAdd] at hg
      split at hg
      · rename_i hz
        cases hg
        refine op_catA pins s σ H _ _ v u Q I rx ry ⟨a, b, xs, ys, rfl, rfl, .of h1, .of h3, by rw [h2.length, h4.length]; exact hz, fun e => ?_, fun _ e => ?_, fun _ _ => ?_⟩
        · subst e; cases h2; exact q _ _ (.refl H) (.tup h3 h4)
        · subst e; cases h4; rw [List.append_nil] at q; exact q _ _ (.refl H) (.tup h1 h2)
        · exact new_tup (h2.append h4) q
      · cases hg
    | _ => cases hg
  | @lst a o xs ds h1 h2 =>
    cases he with
    | @lst b o2 ys es h3 h4 =>
      simp only [dAdd] at hg
      split at hg
      · rename_i hz
        cases hg
        cases rx
        cases ry
        obtain ⟨z, its, n, r, hl, e⟩ := I.flst h1
        obtain ⟨z2, its2, n2, r2, hl2, e2⟩ := I.flst h3
        have hz' : its.length + its2.length ≤ sizeLine := by rw [← hl, ← hl2, h2.length, h4.length]; exact hz
        refine PySem.P.add_list e e2 ?_ (by rw [List.size_toArray, List.size_toArray]; exact hz')
        have ea : its.toArray ++ its2.toArray = (its ++ its2).toArray := by simp
        rw [ea]
        exact fz_ep ⟨.ref _, _, I.lnew (t' := s.toks) (r.append r2) (by rw [List.length_append]; omega), rfl, new_lst (h2.append h4) q _ I.fresh⟩
      · cases hg
    | _ => cases hg
  | _ => cases hg
/-- ints -/
def dI2 (g : Int → Int → Option D) : D → D → Option D
  | .int i, .int j => g i j
  | _, _ => none
theorem dI2_inv {g : Int → Int → Option D} {d e r : D} (h : dI2 g d e = some r) : ∃ i j, d = .int i ∧ e = .int j ∧ g i j = some r := by
  cases d <;> cases e <;> first | exact ⟨_, _, rfl, rfl, h⟩ | cases h
theorem Rp.int_inv {K : PySem.W.Frag} {H : Hp} {v : V} {i : Int} (h : Rp K H v (.int i)) : v = .int i := by cases h; rfl
theorem Rp.str_inv {K : PySem.W.Frag} {H : Hp} {v : V} {x : Str} (h : Rp K H v (.str x)) : v = .str x := by cases h; rfl
theorem Rp.bl_inv {K : PySem.W.Frag} {H : Hp} {v : V} {b : Bool} (h : Rp K H v (.bl b)) : v = .bl b := by cases h; rfl
def dSub : D → D → Option D := dI2 fun i j => some (.int (i - j))
theorem op_subD : OpR X (binaryOp .Sub) (rD X.K dSub) := by
  intro pins s σ H x y v u Q I rx ry h
  obtain ⟨d, e, r, hd, he, hg, q⟩ := h
  obtain ⟨i, j, rfl, rfl, hg⟩ := dI2_inv hg
  cases hg
  rw [hd.int_inv] at rx; rw [he.int_inv] at ry
  exact op_sub pins s σ H _ _ v u Q I rx ry ⟨i, j, rfl, rfl, q _ _ (.refl H) (.int _)⟩
def mulOk (i j : Int) : Bool := decide (i.natAbs.log2 + j.natAbs.log2 < 1000000)
def dMul : D → D → Option D
  | .int i, .int j => if mulOk i j then some (.int (i * j)) else none
  | .tup a, .int k => if a ≠ [] ∧ 2 ≤ k ∧ k ≤ 1000 ∧ a.length ≤ 1000 then some (.tup (List.replicate k.toNat a).flatten) else none
  | .lst a, .int k => if -(2 ^ 63) ≤ k ∧ k < 2 ^ 63 ∧ a.length * k.toNat ≤ sizeLine then some (.lst (List.replicate k.toNat a).flatten) else none
  | _, _ => none
/-- // by a positive number -/
def dFdiv : D → D → Option D := dI2 fun i j => if 0 < j ∧ j.natAbs.log2 < 9000 then some (.int (i / j)) else none
theorem op_fdivD : OpR X (binaryOp .FloorDiv) (rD X.K dFdiv) := by
  intro pins s σ H x y v u Q I rx ry h
  obtain ⟨d, e, r, hd, he, hg, q⟩ := h
  obtain ⟨i, j, rfl, rfl, hg2⟩ := dI2_inv hg
  split at hg2
  · rename_i hc
    cases hg2
    rw [hd.int_inv] at rx; rw [he.int_inv] at ry
    exact op_fdivW pins s σ H _ _ v u Q I rx ry ⟨i, j, rfl, rfl, hc, q _ _ (.refl H) (.int _)⟩
  · cases hg2
def dMod : D → D → Option D := dI2 fun i j => if 0 < j then some (.int (i % j)) else none
theorem op_modD : OpR X (binaryOp .Mod) (rD X.K dMod) := by
  intro pins s σ H x y v u Q I rx ry h
  obtain ⟨d, e, r, hd, he, hg, q⟩ := h
  obtain ⟨i, j, rfl, rfl, hg2⟩ := dI2_inv hg
  split at hg2
  · rename_i hc
    cases hg2
    rw [hd.int_inv] at rx; rw [he.int_inv] at ry
    exact op_mod pins s σ H _ _ v u Q I rx ry ⟨i, j, rfl, rfl, hc, q _ _ (.refl H) (.int _)⟩
  · cases hg2
def powOk (i j : Int) : Bool := decide (0 ≤ j) && decide (((Builtin.Int.intBits i : Nat) : Int) * j ≤ 2 ^ 27)
def dPow : D → D → Option D := dI2 fun i j => if powOk i j = true then some (.int (i ^ j.toNat)) else none
theorem op_powD : OpR X (binaryOp .Pow) (rD X.K dPow) := by
  intro pins s σ H x y v u Q I rx ry h
  obtain ⟨d, e, r, hd, he, hg, q⟩ := h
  obtain ⟨i, j, rfl, rfl, hg2⟩ := dI2_inv hg
  split at hg2
  · rename_i hc
    cases hg2
    rw [hd.int_inv] at rx; rw [he.int_inv] at ry
    obtain ⟨t, rfl⟩ := rx
    obtain ⟨t', rfl⟩ := ry
    simp only [powOk, Bool.and_eq_true, decide_eq_true_eq] at hc
    exact pow_int hc.1 hc.2 ⟨.int _, H, I.tok _, ⟨_, rfl⟩, q _ _ (.refl H) (.int _)⟩
  · cases hg2

/-! ### comparisons -/
/-- data of a depth, as the library's == takes them -/
def okd : Nat → D → Bool
  | _, .non => true
  | _, .bl _ => true
  | _, .int _ => true
  | _, .str x => PySem.PyData.strOk x
  | n + 1, .tup ds => ds.all (okd n)
  | n + 1, .lst ds => ds.all (okd n)
  | _, _ => false
theorem okd_ok : ∀ (n : Nat) (d : D), okd n d = true → PyData.canLay0 d.py = true ∧ d.py.depth ≤ n ∧ ∀ (K : PySem.W.Frag) (H : Hp) (v : V), Rp K H v d → Dp K H v d.py := by
  intro n
  induction n with
  | zero =>
    intro d h
    cases d <;> first | (cases h; done) | skip
    · exact ⟨rfl, Nat.zero_le _, fun K H v r => by cases r; exact .non⟩
    · exact ⟨rfl, Nat.zero_le _, fun K H v r => by cases r; exact .bl _⟩
    · exact ⟨rfl, Nat.zero_le _, fun K H v r => by cases r; exact .int _⟩
    · exact ⟨by (have h' : PyData.strOk _ = true := h); simpa only [D.py, PyData.canLay0] using h', Nat.zero_le _, fun K H v r => by cases r; exact .str _⟩
  | succ n ih =>
    have all : ∀ ds : List D, ds.all (okd n) = true → PyData.canLayAll0 (D.pyL ds) = true ∧ PyData.depthAll (D.pyL ds) ≤ n ∧ ∀ (K : PySem.W.Frag) (H : Hp) (vs : List V), RpL K H vs ds → DpAll K H vs (D.pyL ds) := by
      intro ds
      induction ds with
      | nil => intro _; exact ⟨rfl, Nat.zero_le _, fun K H vs r => by cases r; exact .nil⟩
      | cons d ds ih2 =>
        intro h
        rw [List.all_cons, Bool.and_eq_true] at h
        obtain ⟨a1, a2, a3⟩ := ih d h.1
        obtain ⟨b1, b2, b3⟩ := ih2 h.2
        refine ⟨?_, ?_, fun K H vs r => ?_⟩
        · simp only [D.pyL, PyData.canLayAll0, a1, b1, Bool.and_self]
        · simp only [D.pyL, PyData.depthAll]; omega
        · cases r with
          | cons h1 h2 => exact .cons (a3 K H _ h1) (b3 K H _ h2)
    intro d h
    cases d with
    | non => exact ⟨rfl, Nat.zero_le _, fun K H v r => by cases r; exact .non⟩
    | bl _ => exact ⟨rfl, Nat.zero_le _, fun K H v r => by cases r; exact .bl _⟩
    | int _ => exact ⟨rfl, Nat.zero_le _, fun K H v r => by cases r; exact .int _⟩
    | str _ => exact ⟨by (have h' : PyData.strOk _ = true := h); simpa only [D.py, PyData.canLay0] using h', Nat.zero_le _, fun K H v r => by cases r; exact .str _⟩
    | tup ds =>
      obtain ⟨a1, a2, a3⟩ := all ds h
      refine ⟨by simp only [D.py, PyData.canLay0]; exact a1, by simp only [D.py, PyData.depth]; omega, fun K H v r => ?_⟩
      cases r with
      | tup h1 h2 => exact .tup (.of h1) (a3 K H _ h2)
    | lst ds =>
      obtain ⟨a1, a2, a3⟩ := all ds h
      refine ⟨by simp only [D.py, PyData.canLay0]; exact a1, by simp only [D.py, PyData.depth]; omega, fun K H v r => ?_⟩
      cases r with
      | lst h1 h2 => exact .lst (.inl (.inr ⟨_, h1⟩)) (a3 K H _ h2)
    | dct _ => cases h
    | exn _ _ => cases h
theorem okd_shaped {d : D} (h : okd 60 d = true) : SeqAt.shaped d.py = true := by
  obtain ⟨h1, h2, _⟩ := okd_ok 60 d h
  show (PyData.canLay0 _ && decide (_ ≤ 64)) = true
  rw [h1, Bool.true_and]
  exact decide_eq_true (by omega)
def deq (d e : D) : Bool := PyData.eqv d.py e.py
def dEq (d e : D) : Option D := if okd 60 d && okd 60 e then some (.bl (deq d e)) else none
def dNe (d e : D) : Option D := if okd 60 d && okd 60 e then some (.bl (!deq d e)) else none
theorem op_eqD (hu : X.A.units + 64 < cLine) : OpR X (compareOp .Eq) (rD X.K dEq) := by
  intro pins s σ H x y v u Q I rx ry h
  obtain ⟨d, e, r, hd, he, hg, q⟩ := h
  simp only [dEq] at hg
  split at hg
  · rename_i hc
    rw [Bool.and_eq_true] at hc
    cases hg
    exact L2.op_eqD hu pins s σ H _ _ v u Q I rx ry ⟨_, _, (okd_ok 60 d hc.1).2.2 _ _ _ hd, (okd_ok 60 e hc.2).2.2 _ _ _ he, okd_shaped hc.1, okd_shaped hc.2, q _ _ (.refl H) (.bl _)⟩
  · cases hg
theorem op_neD (hu : X.A.units + 64 < cLine) : OpR X (compareOp .NotEq) (rD X.K dNe) := by
  intro pins s σ H x y v u Q I rx ry h
  obtain ⟨d, e, r, hd, he, hg, q⟩ := h
  simp only [dNe] at hg
  split at hg
  · rename_i hc
    rw [Bool.and_eq_true] at hc
    cases hg
    exact L2.op_neD hu pins s σ H _ _ v u Q I rx ry ⟨_, _, (okd_ok 60 d hc.1).2.2 _ _ _ hd, (okd_ok 60 e hc.2).2.2 _ _ _ he, okd_shaped hc.1, okd_shaped hc.2, q _ _ (.refl H) (.bl _)⟩
  · cases hg
/-- < -/
def isNon : D → Bool
  | .non => true
  | _ => false
def dltOk (d e : D) : Bool := okd 60 d && okd 60 e && PySem.W.alike d.py e.py && !isNon d
def dlt (d e : D) : Bool := PySem.W.dataLt d.py e.py
def dLt : D → D → Option D
  | .int i, .int j => some (.bl (decide (i < j)))
  | d, e => if dltOk d e then some (.bl (dlt d e)) else none
theorem op_ltD (hu : X.A.units + 64 < cLine) : OpR X (compareOp .Lt) (rD X.K dLt) := by
  intro pins s σ H x y v u Q I rx ry h
  obtain ⟨d, e, r, hd, he, hg, q⟩ := h
  by_cases hi : ∃ i j, d = .int i ∧ e = .int j
  · obtain ⟨i, j, rfl, rfl⟩ := hi
    cases hg
    rw [hd.int_inv] at rx; rw [he.int_inv] at ry
    exact op_lt pins s σ H _ _ v u Q I rx ry ⟨i, j, rfl, rfl, q _ _ (.refl H) (.bl _)⟩
  · have hg2 : (if dltOk d e then some (D.bl (dlt d e)) else none) = some r := by
      cases d <;> cases e <;> first | exact hg | exact absurd ⟨_, _, rfl, rfl⟩ hi
    split at hg2
    · rename_i hc
      simp only [dltOk, Bool.and_eq_true] at hc
      obtain ⟨⟨⟨c1, c2⟩, c3⟩, c4⟩ := hc
      cases hg2
      obtain ⟨a1, a2, a3⟩ := okd_ok 60 d c1
      obtain ⟨b1, b2, b3⟩ := okd_ok 60 e c2
      obtain ⟨as, r1⟩ := Dp.reads I _ x v (a3 _ _ _ hd) rx
      obtain ⟨bs, r2⟩ := Dp.reads I _ y u (b3 _ _ _ he) ry
      have hn : d.py ≠ .none := fun z => by
        cases d <;> simp [D.py] at z <;> first | (simp [isNon] at c4; done) | (simp [okd] at c1; done)
      exact PySem.W.rcLt_alike _ _ X.A s v u as bs r1 r2 c3 hn (by omega) X.prog X.w X.xe _ ⟨.bl _, H, I, rfl, q _ _ (.refl H) (.bl _)⟩
    · cases hg2
def dLe : D → D → Option D := dI2 fun i j => some (.bl (decide (i ≤ j)))
def dGt : D → D → Option D := dI2 fun i j => some (.bl (decide (j < i)))
def dGe : D → D → Option D := dI2 fun i j => some (.bl (decide (j ≤ i)))
theorem op_leD : OpR X (compareOp .LtE) (rD X.K dLe) := by
  intro pins s σ H x y v u Q I rx ry h
  obtain ⟨d, e, r, hd, he, hg, q⟩ := h
  obtain ⟨i, j, rfl, rfl, hg2⟩ := dI2_inv hg
  cases hg2
  rw [hd.int_inv] at rx; rw [he.int_inv] at ry
  exact op_le pins s σ H _ _ v u Q I rx ry ⟨i, j, rfl, rfl, q _ _ (.refl H) (.bl _)⟩
theorem op_gtD : OpR X (compareOp .Gt) (rD X.K dGt) := by
  intro pins s σ H x y v u Q I rx ry h
  obtain ⟨d, e, r, hd, he, hg, q⟩ := h
  obtain ⟨i, j, rfl, rfl, hg2⟩ := dI2_inv hg
  cases hg2
  rw [hd.int_inv] at rx; rw [he.int_inv] at ry
  exact op_gt pins s σ H _ _ v u Q I rx ry ⟨i, j, rfl, rfl, q _ _ (.refl H) (.bl _)⟩
theorem op_geD : OpR X (compareOp .GtE) (rD X.K dGe) := by
  intro pins s σ H x y v u Q I rx ry h
  obtain ⟨d, e, r, hd, he, hg, q⟩ := h
  obtain ⟨i, j, rfl, rfl, hg2⟩ := dI2_inv hg
  cases hg2
  rw [hd.int_inv] at rx; rw [he.int_inv] at ry
  exact op_ge pins s σ H _ _ v u Q I rx ry ⟨i, j, rfl, rfl, q _ _ (.refl H) (.bl _)⟩
/-- is None; is True, is False (of anything) -/
def dIsN (d _ : D) : Option D := some (.bl (isNon d))

/-! ### in -/
theorem okd_all {n : Nat} {ds : List D} (h : ds.all (okd n) = true) : PyData.canLayAll0 (D.pyL ds) = true ∧ PyData.depthAll (D.pyL ds) ≤ n := by
  obtain ⟨h1, h2, _⟩ := okd_ok (n + 1) (.tup ds) h
  refine ⟨by simpa only [D.py, PyData.canLay0] using h1, ?_⟩
  simp only [D.py, PyData.depth] at h2
  omega
theorem any_pyL (d : PyData) : ∀ es : List D, (D.pyL es).any (fun y => PyData.eqv y d) = es.any fun y => PyData.eqv y.py d
  | [] => rfl
  | e :: es => by simp only [D.pyL, List.any_cons, any_pyL d es]
def memD (d : D) (es : List D) : Bool := es.any fun e => deq e d
def inStr (x y : Str) : Bool := !(Builtin.Str.occurrences y x 0 y.length 1).isEmpty
def dIn : D → D → Option D
  | .str x, .str y => some (.bl (inStr x y))
  | d, .tup es => if okd 59 d && es.all (okd 59) then some (.bl (memD d es)) else none
  | d, .lst es => if okd 59 d && es.all (okd 59) then some (.bl (memD d es)) else none
  | _, _ => none
def dNotIn (d e : D) : Option D := match dIn d e with
  | some (.bl b) => some (.bl (!b))
  | _ => none
theorem dIn_cases {d e r : D} (h : dIn d e = some r) : (∃ x y, d = .str x ∧ e = .str y ∧ r = .bl (inStr x y)) ∨ ∃ es, (e = .tup es ∨ e = .lst es) ∧ okd 59 d = true ∧ es.all (okd 59) = true ∧ r = .bl (memD d es) := by
  have key : ∀ es : List D, (if okd 59 d && es.all (okd 59) then some (D.bl (memD d es)) else none) = some r → okd 59 d = true ∧ es.all (okd 59) = true ∧ r = .bl (memD d es) := fun es h => by
    split at h
    · rename_i hc
      rw [Bool.and_eq_true] at hc
      cases h
      exact ⟨hc.1, hc.2, rfl⟩
    · cases h
  cases e with
  | str y => cases d with
    | str x => cases h; exact .inl ⟨x, y, rfl, rfl, rfl⟩
    | _ => cases h
  | tup es => exact .inr ⟨es, .inl rfl, key es (by cases d <;> exact h)⟩
  | lst es => exact .inr ⟨es, .inr rfl, key es (by cases d <;> exact h)⟩
  | _ => cases d <;> cases h
theorem op_inD (hu : X.A.units + 64 < cLine) : OpR X (compareOp .In) (rD X.K dIn) := by
  intro pins s σ H x y v u Q I rx ry h
  obtain ⟨d, e, r, hd, he, hg, q⟩ := h
  rcases dIn_cases hg with ⟨a, b, rfl, rfl, rfl⟩ | ⟨es, hes, c1, c2, rfl⟩
  · rw [hd.str_inv] at rx; rw [he.str_inv] at ry
    exact op_in_str pins s σ H _ _ v u Q I rx ry ⟨a, b, rfl, rfl, q _ _ (.refl H) (.bl _)⟩
  · obtain ⟨a1, a2, a3⟩ := okd_ok 59 d c1
    obtain ⟨b1, b2⟩ := okd_all c2
    obtain ⟨as, r1⟩ := Dp.reads I _ x v (a3 _ _ _ hd) rx
    have hc : PyData.canLayAll0 (D.pyL es) = true := b1
    have hrm : X.A.units + 1 + min (PyData.depthAll (D.pyL es)) d.py.depth < cLine := by omega
    rcases hes with rfl | rfl
    · obtain ⟨bs, r2⟩ := Dp.reads I _ y u ((okd_ok 60 (.tup es) c2).2.2 _ _ _ he) ry
      exact SeqAt.in_tuple_reads r2 r1 hc a1 hrm ⟨.bl _, H, I, rfl, by rw [any_pyL]; exact q _ _ (.refl H) (.bl _)⟩
    · obtain ⟨bs, r2⟩ := Dp.reads I _ y u ((okd_ok 60 (.lst es) c2).2.2 _ _ _ he) ry
      exact SeqAt.in_list_reads r2 r1 hc a1 hrm ⟨.bl _, H, I, rfl, by rw [any_pyL]; exact q _ _ (.refl H) (.bl _)⟩
theorem op_notInD (hu : X.A.units + 64 < cLine) : OpR X (compareOp .NotIn) (rD X.K dNotIn) := by
  intro pins s σ H x y v u Q I rx ry h
  obtain ⟨d, e, r, hd, he, hg, q⟩ := h
  obtain ⟨b, hb, rfl⟩ : ∃ b, dIn d e = some (.bl b) ∧ r = .bl (!b) := by
    simp only [dNotIn] at hg
    split at hg
    · rename_i b hb; cases hg; exact ⟨b, hb, rfl⟩
    · cases hg
  rcases dIn_cases hb with ⟨a, b, rfl, rfl, hr⟩ | ⟨es, hes, c1, c2, hr⟩
  · cases hr
    rw [hd.str_inv] at rx; rw [he.str_inv] at ry
    exact op_notIn_str pins s σ H _ _ v u Q I rx ry ⟨a, b, rfl, rfl, q _ _ (.refl H) (.bl _)⟩
  · cases hr
    obtain ⟨a1, a2, a3⟩ := okd_ok 59 d c1
    obtain ⟨b1, b2⟩ := okd_all c2
    obtain ⟨as, r1⟩ := Dp.reads I _ x v (a3 _ _ _ hd) rx
    have hc : PyData.canLayAll0 (D.pyL es) = true := b1
    have hrm : X.A.units + 1 + min (PyData.depthAll (D.pyL es)) d.py.depth < cLine := by omega
    rcases hes with rfl | rfl
    · obtain ⟨bs, r2⟩ := Dp.reads I _ y u ((okd_ok 60 (.tup es) c2).2.2 _ _ _ he) ry
      exact SeqAt.notIn_tuple_reads r2 r1 hc a1 hrm ⟨.bl _, H, I, rfl, by rw [any_pyL]; exact q _ _ (.refl H) (.bl _)⟩
    · obtain ⟨bs, r2⟩ := Dp.reads I _ y u ((okd_ok 60 (.lst es) c2).2.2 _ _ _ he) ry
      exact SeqAt.notIn_list_reads r2 r1 hc a1 hrm ⟨.bl _, H, I, rfl, by rw [any_pyL]; exact q _ _ (.refl H) (.bl _)⟩

/-! ### items, slices -/
def atD (ds : List D) (i : Int) : Option D := atI ds i
theorem RpL.atI {K : PySem.W.Frag} {H : Hp} {vs : List V} {ds : List D} {i : Int} {d : D} (r : RpL K H vs ds) (h : L2.atI ds i = some d) : ∃ v, L2.atI vs i = some v ∧ Rp K H v d := by
  unfold L2.atI at h ⊢
  rw [r.length]
  cases e : ixN ds.length i with
  | none => rw [e] at h; cases h
  | some j =>
    rw [e] at h
    simp only [Option.bind_some] at h ⊢
    exact r.getD h
def chrAt (z : Str) (i : Int) : Option Str := (atI z.cps.toList i).map fun c => ⟨#[c]⟩
def dIx : D → D → Option D
  | .tup ds, .int i => atI ds i
  | .lst ds, .int i => atI ds i
  | .str z, .int i => if z.length ≤ sizeLine then (chrAt z i).map D.str else none
  | _, _ => none
theorem ix_D : IxR X (rD X.K dIx) := by
  intro vl sl pins s σ H x y v u Q I rx ry h hpl
  obtain ⟨d, e, r, hd, he, hg, q⟩ := h
  cases hd with
  | @tup a xs ds h1 h2 =>
    cases he with
    | int i =>
      obtain ⟨w', e1, r1⟩ := h2.atI (show L2.atI ds i = some r from hg)
      exact ix_tup vl sl pins s σ H _ _ v u Q I rx ry ⟨a, xs, i, w', rfl, rfl, .of h1, e1, q _ _ (.refl H) r1⟩ hpl
    | _ => cases hg
  | @lst a o xs ds h1 h2 =>
    cases he with
    | int i =>
      obtain ⟨w', e1, r1⟩ := h2.atI (show L2.atI ds i = some r from hg)
      exact ix_list vl sl pins s σ H _ _ v u Q I rx ry ⟨a, xs, i, w', rfl, rfl, .inl (.inr ⟨o, h1⟩), e1, q _ _ (.refl H) r1⟩ hpl
    | _ => cases hg
  | str z =>
    cases he with
    | int i =>
      simp only [dIx] at hg
      split at hg
      · rename_i hz
        simp only [chrAt, Option.map_map] at hg
        cases e : L2.atI z.cps.toList i with
        | none => rw [e] at hg; cases hg
        | some c =>
          rw [e] at hg
          cases hg
          exact ix_str vl sl pins s σ H _ _ v u Q I rx ry ⟨z, i, c, rfl, rfl, hz, e, q _ _ (.refl H) (.str _)⟩ hpl
      · cases hg
    | _ => cases hg
  | _ => cases hg
def cutD {α : Type} (xs : List α) (lo hi : Option Int) : List α := (xs.drop (HT.sIx xs.length 0 lo)).take (HT.sIx xs.length xs.length hi - HT.sIx xs.length 0 lo)
theorem RpL.cut {K : PySem.W.Frag} {H : Hp} {vs : List V} {ds : List D} (r : RpL K H vs ds) (lo hi : Option Int) : RpL K H (cutV vs lo hi) (cutD ds lo hi) := by
  unfold cutV cutD
  rw [r.length]
  exact (r.drop _).take _
theorem cutD_all {α : Type} {xs : List α} {lo hi : Option Int} (h : HT.sIx xs.length 0 lo = 0 ∧ HT.sIx xs.length xs.length hi = xs.length) : cutD xs lo hi = xs := by
  unfold cutD
  rw [h.1, h.2, List.drop_zero, Nat.sub_zero, List.take_length]
def dSl (d : D) (lo hi : Option Int) : Option D := match d with
  | .tup ds => some (.tup (cutD ds lo hi))
  | .lst ds => some (.lst (cutD ds lo hi))
  | .str z => if z.length ≤ sizeLine then some (.str (cutS z lo hi)) else none
  | _ => none
def rSlD (K : PySem.W.Frag) : V → Option Int → Option Int → Hp → VK → Prop := fun x lo hi H Q => ∃ d r, Rp K H x d ∧ dSl d lo hi = some r ∧ ∀ v H', Same H H' → Rp K H' v r → Q v H'
theorem SlR.fz {r : V → Option Int → Option Int → Hp → VK → Prop} (h : SlR X r) : SlR X (fun x lo hi H Q => r x lo hi H (Fz Q)) := by
  intro pins s σ H x v vl vu lo hi sl Q I rx hs pl pu q
  obtain ⟨T, id, h1, h2, h3⟩ := h pins s σ H x v vl vu lo hi sl (Fz Q) I rx hs pl pu q
  exact ⟨T, id, h1, h2, thn h3 fun _ _ z => fz_ep z⟩
theorem sl_D : SlR X (rSlD X.K) := by
  intro pins s σ H x v vl vu lo hi sl Q I rx hs pl pu h
  obtain ⟨d, r, hd, hg, q⟩ := h
  cases hd with
  | @tup a xs ds h1 h2 =>
    cases hg
    refine sl_tupA pins s σ H _ v vl vu lo hi sl Q I rx hs pl pu ⟨a, xs, rfl, .of h1, fun hw => ?_, fun _ => new_tup (h2.cut lo hi) q⟩
    rw [h2.length] at hw
    rw [cutD_all hw] at q
    exact q _ _ (.refl H) (.tup h1 h2)
  | @lst a o xs ds h1 h2 =>
    cases hg
    exact SlR.fz sl_list pins s σ H _ v vl vu lo hi sl Q I rx hs pl pu ⟨a, xs, rfl, .inl (.inr ⟨o, h1⟩), new_lst (h2.cut lo hi) q⟩
  | str z =>
    simp only [dSl] at hg
    split at hg
    · rename_i hz
      cases hg
      exact sl_str pins s σ H _ v vl vu lo hi sl Q I rx hs pl pu ⟨z, rfl, hz, q _ _ (.refl H) (.str _)⟩
    · cases hg
  | _ => cases hg

/-! ### calls of built-ins -/
def dLen : List D → Option D
  | [.str z] => if z.length ≤ sizeLine then some (.int z.length) else none
  | [.tup ds] => some (.int ds.length)
  | [.lst ds] => some (.int ds.length)
  | _ => none
theorem one_inv {K : PySem.W.Frag} {H : Hp} {xs : List V} {d : D} (h : RpL K H xs [d]) : ∃ x, xs = [x] ∧ Rp K H x d := by
  cases h with
  | cons h t => cases t; exact ⟨_, rfl, h⟩
theorem two_inv {K : PySem.W.Frag} {H : Hp} {xs : List V} {d e : D} (h : RpL K H xs [d, e]) : ∃ x y, xs = [x, y] ∧ Rp K H x d ∧ Rp K H y e := by
  cases h with
  | cons h t =>
    obtain ⟨y, e1, r⟩ := one_inv t
    subst e1
    exact ⟨_, y, rfl, h, r⟩
theorem call_lenD : CallR X (.builtin "len") (rDC X.K dLen) := by
  intro pins s σ H xs us Q I r h
  obtain ⟨ds, d, hd, hg, q⟩ := h
  cases hd with
  | nil => cases hg
  | cons h1 t =>
    cases t with
    | cons _ _ => cases h1 <;> cases hg
    | nil =>
      cases h1 with
      | str z =>
        simp only [dLen] at hg
        split at hg
        · rename_i hz; cases hg
          exact call_len pins s σ H _ us Q I r ⟨_, _, rfl, ⟨hz, rfl⟩, q _ _ (.refl H) (.int _)⟩
        · cases hg
      | @tup a ys es h2 h3 =>
        cases hg
        exact call_len pins s σ H _ us Q I r ⟨_, _, rfl, .inr ⟨ys, .of h2, rfl⟩, by rw [h3.length]; exact q _ _ (.refl H) (.int _)⟩
      | @lst a o ys es h2 h3 =>
        cases hg
        exact call_len pins s σ H _ us Q I r ⟨_, _, rfl, .inl ⟨ys, .inl (.inr ⟨o, h2⟩), rfl⟩, by rw [h3.length]; exact q _ _ (.refl H) (.int _)⟩
      | _ => cases hg
end
end PU
namespace PU
open PySem PySem.Spec PyProof.Rows L2

/-! ### expressions -/
section
variable {X : Cx} {G : GC} {E : XK} {a b c : Expr} {es : List Expr} {pos : Pos}
def eK (d : D) : Ev D := fun ρ => .ok d ρ
theorem xe_int {i j} : PE X (.Constant (.int i) j pos) (trE X.K G E (eK (.int i))) := PE.imp pe_int fun σ H Q ⟨ρ, ok, h⟩ => h.now ok (.int i)
theorem xe_bl {b j} : PE X (.Constant (.bool b) j pos) (trE X.K G E (eK (.bl b))) := PE.imp pe_bl fun σ H Q ⟨ρ, ok, h⟩ => h.now ok (.bl b)
theorem xe_non {j} : PE X (.Constant .none j pos) (trE X.K G E (eK .non)) := PE.imp pe_non fun σ H Q ⟨ρ, ok, h⟩ => h.now ok .non
theorem xe_str {x j} : PE X (.Constant (.str x) j pos) (trE X.K G E (eK (.str x))) := PE.imp pe_str fun σ H Q ⟨ρ, ok, h⟩ => h.now ok (.str x)
/-- a stable slot -/
def eV (i : Nat) : Ev D := fun ρ => match svAt ρ i with
  | .st d => .ok d ρ
  | _ => .bad
theorem xe_var (i : Nat) {x : Str} (h : PE X (.Name x pos) (tVar i)) : PE X (.Name x pos) (trE X.K G E (eV i)) := PE.imp h fun σ H Q ⟨ρ, ok, h⟩ => by
  simp only [eV] at h
  split at h
  · rename_i d e
    obtain ⟨v, e1, r⟩ := ok.st e
    exact ⟨v, e1, h.now ok r⟩
  · exact h.elim
/-- a module's number or text -/
theorem xe_glob {x : Str} {v : V} {d : D} (h : PE X (.Name x pos) (tC v)) (r : ∀ H, Rp X.K H v d) : PE X (.Name x pos) (trE X.K G E (eK d)) := PE.imp h fun σ H Q ⟨ρ, ok, h⟩ => h.now ok (r H)
/-- two parts and an operator -/
def eBin (g : D → D → Option D) (f1 f2 : Ev D) : Ev D := fun ρ => (f1 ρ).bind fun x ρ1 => (f2 ρ1).bind fun y ρ2 => lift (g x y) ρ2
theorem two_of {g : D → D → Option D} {f1 f2 : Ev D} {σ : L2.St} {H : Hp} {Q : VK} (h : trE X.K G E (eBin g f1 f2) σ H Q) : trE X.K G E f1 σ H fun x H1 => trE X.K G E f2 σ H1 fun y H2 => rD X.K g x y H2 Q := by
  obtain ⟨ρ, ok, h⟩ := h
  refine ⟨ρ, ok, h.bindE.imp fun v H1 ⟨d, ρ1, e1, ok1, r1, h1⟩ => ⟨ρ1, ok1, h1.bindE.imp fun w' H2 ⟨e, ρ2, e2, ok2, r2, h2⟩ => ?_⟩⟩
  cases hg : g d e with
  | none => rw [hg] at h2; exact h2.elim
  | some r =>
    rw [hg] at h2
    exact ⟨d, e, r, r1.ext e2, r2, hg, fun v' H3 s r3 => h2.same ok2 s r3⟩
theorem xe_bin {op : Operator} {g : D → D → Option D} {f1 f2 : Ev D} (ho : OpR X (binaryOp op) (rD X.K g)) (ha : PE X a (trE X.K G E f1)) (hb : PE X b (trE X.K G E f2)) : PE X (.BinOp a op b pos) (trE X.K G E (eBin g f1 f2)) :=
  PE.imp (pe_op ho ha hb) fun σ H Q h => two_of h
theorem xe_cmp {op : CmpOp} {g : D → D → Option D} {f1 f2 : Ev D} (ho : OpR X (compareOp op) (rD X.K g)) (ha : PE X a (trE X.K G E f1)) (hb : PE X b (trE X.K G E f2)) (hm : behindInMarks op b = false) : PE X (.Compare a [op] [b] pos) (trE X.K G E (eBin g f1 f2)) :=
  PE.imp (pe_cmpR ho ha hb hm) fun σ H Q h => two_of h
def eUn (g : D → Option D) (f : Ev D) : Ev D := fun ρ => (f ρ).bind fun x ρ1 => lift (g x) ρ1
theorem one_of {g : D → Option D} {f : Ev D} {σ : L2.St} {H : Hp} {Q : VK} (h : trE X.K G E (eUn g f) σ H Q) : trE X.K G E f σ H fun x H1 => rDU X.K g x H1 Q := by
  obtain ⟨ρ, ok, h⟩ := h
  refine ⟨ρ, ok, h.bindE.imp fun v H1 ⟨d, ρ1, e1, ok1, r1, h1⟩ => ?_⟩
  cases hg : g d with
  | none => rw [hg] at h1; exact h1.elim
  | some r =>
    rw [hg] at h1
    exact ⟨d, r, r1, hg, fun v' H3 s r3 => h1.same ok1 s r3⟩
/-- the truth of a value that is a bool -/
def toB : D → Option Bool
  | .bl b => some b
  | _ => none
def tV (f : Ev D) : Ev Bool := fun ρ => (f ρ).bind fun x ρ1 => lift (toB x) ρ1
theorem tV_of {f : Ev D} {σ : L2.St} {H : Hp} {Q : Bool → Hp → Prop} (h : trT X.K G E (tV f) σ H Q) : trE X.K G E f σ H fun x H1 => ∃ c, x = .bl c ∧ Q c H1 := by
  obtain ⟨ρ, ok, h⟩ := h
  refine ⟨ρ, ok, h.bindE.imp fun v H1 ⟨d, ρ1, e1, ok1, r1, h1⟩ => ?_⟩
  cases d with
  | bl c => exact ⟨c, r1.bl_inv, h1 H1 (.refl _) ok1⟩
  | _ => exact h1.elim
theorem xt_val {e : Expr} {f : Ev D} (h : PE X e (trE X.K G E f)) (he : ∀ whole, isTrue e X.env whole = (do let v ← whole; standAt e.pos; holding [v] (truthy v)) := by intro _; rfl) : PT X e (trT X.K G E (tV f)) :=
  PT.imp (pt_val h he) fun σ H Q h => tV_of h
theorem xt_cmp {op : CmpOp} {g : D → D → Option D} {f1 f2 : Ev D} (ho : OpR X (compareOp op) (rD X.K g)) (ha : PE X a (trE X.K G E f1)) (hb : PE X b (trE X.K G E f2)) (hm : behindInMarks op b = false) : PT X (.Compare a [op] [b] pos) (trT X.K G E (tV (eBin g f1 f2))) :=
  PT.imp (pt_cmpR ho ha hb hm) fun σ H Q h => by
    obtain ⟨ρ, ok, h⟩ := tV_of h
    have h' := two_of ⟨ρ, ok, h⟩
    exact h'
/-- a < b < c -/
def eChain (g g' : D → D → Option D) (f1 f2 f3 : Ev D) : Ev D := fun ρ => (f1 ρ).bind fun x ρ1 => (f2 ρ1).bind fun y ρ2 => (lift (g x y) ρ2).bind fun z ρ3 => match z with
  | .bl true => (f3 ρ3).bind fun u ρ4 => lift (g' y u) ρ4
  | .bl false => .ok (.bl false) ρ3
  | _ => .bad
theorem chain_of {g g' : D → D → Option D} {f1 f2 f3 : Ev D} {σ : L2.St} {H : Hp} {Q : VK} (h : trE X.K G E (eChain g g' f1 f2 f3) σ H Q) : tChain (rD X.K g) (rD X.K g') (trE X.K G E f1) (trE X.K G E f2) (trE X.K G E f3) σ H Q := by
  obtain ⟨ρ, ok, h⟩ := h
  refine ⟨ρ, ok, h.bindE.imp fun v H1 ⟨d, ρ1, e1, ok1, r1, h1⟩ => ⟨ρ1, ok1, h1.bindE.imp fun w' H2 ⟨e, ρ2, e2, ok2, r2, h2⟩ => ?_⟩⟩
  cases hg : g d e with
  | none => rw [hg] at h2; exact h2.elim
  | some r =>
    rw [hg] at h2
    simp only [lift, Res.bind] at h2
    refine ⟨d, e, r, r1.ext e2, r2, hg, fun v' H3 s r3 => ?_⟩
    cases r with
    | bl k =>
      refine ⟨k, r3.bl_inv, ?_⟩
      cases k with
      | false => rw [if_neg Bool.false_ne_true]; exact h2.same ok2 s (.bl false)
      | true =>
        rw [if_pos rfl]
        refine ⟨ρ2, ok2.same s, (atE.mono h2 (.of s)).bindE.imp fun u H4 ⟨x4, ρ4, e4, ok4, r4, h4⟩ => ?_⟩
        cases hg4 : g' e x4 with
        | none => rw [hg4] at h4; exact h4.elim
        | some r5 =>
          rw [hg4] at h4
          exact ⟨e, x4, r5, r2.ext ((Ext.of s).trans e4), r4, hg4, fun v6 H6 s6 r6 => h4.same ok4 s6 r6⟩
    | _ => exact h2.elim
theorem xe_chain {op op' : CmpOp} {g g' : D → D → Option D} {f1 f2 f3 : Ev D} (ho : OpR X (compareOp op) (rD X.K g)) (ho' : OpR X (compareOp op') (rD X.K g')) (ha : PE X a (trE X.K G E f1)) (hb : PE X b (trE X.K G E f2)) (hc : PE X c (trE X.K G E f3))
    (hm : lastMarks [op, op'] [b, c] = false := by with_unfolding_all rfl) : PE X (.Compare a [op, op'] [b, c] pos) (trE X.K G E (eChain g g' f1 f2 f3)) :=
  PE.imp (pe_chain ho ho' ha hb hc hm) fun σ H Q h => chain_of h
theorem xt_chain {op op' : CmpOp} {g g' : D → D → Option D} {f1 f2 f3 : Ev D} (ho : OpR X (compareOp op) (rD X.K g)) (ho' : OpR X (compareOp op') (rD X.K g')) (ha : PE X a (trE X.K G E f1)) (hb : PE X b (trE X.K G E f2)) (hc : PE X c (trE X.K G E f3))
    (hm : lastMarks [op, op'] [b, c] = false := by with_unfolding_all rfl) : PT X (.Compare a [op, op'] [b, c] pos) (trT X.K G E (tV (eChain g g' f1 f2 f3))) :=
  PT.imp (pt_chain ho ho' ha hb hc hm) fun σ H Q h => by
    obtain ⟨ρ, ok, h⟩ := tV_of h
    exact chain_of ⟨ρ, ok, h⟩
/-- and, or, not: tests -/
def tAndF (t u : Ev Bool) : Ev Bool := fun ρ => (t ρ).bind fun b ρ1 => if b = true then u ρ1 else .ok false ρ1
def tOrF (t u : Ev Bool) : Ev Bool := fun ρ => (t ρ).bind fun b ρ1 => if b = true then .ok true ρ1 else u ρ1
def tNotF (t : Ev Bool) : Ev Bool := fun ρ => (t ρ).bind fun b ρ1 => .ok (!b) ρ1
variable {rest : List Expr} {t u : Ev Bool}
theorem xw_and1 (ha : PT X a (trT X.K G E t)) : PW X (.BoolOp .And [a] pos) (trT X.K G E t) := pw_and1 ha
theorem xw_or1 (ha : PT X a (trT X.K G E t)) : PW X (.BoolOp .Or [a] pos) (trT X.K G E t) := pw_or1 ha
theorem xw_and (ha : PT X a (trT X.K G E t)) (hb : PW X (.BoolOp .And (b :: rest) pos) (trT X.K G E u)) : PW X (.BoolOp .And (a :: b :: rest) pos) (trT X.K G E (tAndF t u)) :=
  PW.imp (pw_and ha hb) fun σ H Q ⟨ρ, ok, h⟩ => ⟨ρ, ok, h.bindT.imp fun k H1 ⟨ρ1, e1, ok1, h1⟩ => by
    cases k with
    | true => exact ⟨ρ1, ok1, h1⟩
    | false => exact h1 H1 (.refl _) ok1⟩
theorem xw_or (ha : PT X a (trT X.K G E t)) (hb : PW X (.BoolOp .Or (b :: rest) pos) (trT X.K G E u)) : PW X (.BoolOp .Or (a :: b :: rest) pos) (trT X.K G E (tOrF t u)) :=
  PW.imp (pw_or ha hb) fun σ H Q ⟨ρ, ok, h⟩ => ⟨ρ, ok, h.bindT.imp fun k H1 ⟨ρ1, e1, ok1, h1⟩ => by
    cases k with
    | true => exact h1 H1 (.refl _) ok1
    | false => exact ⟨ρ1, ok1, h1⟩⟩
theorem xt_not (ha : PT X a (trT X.K G E t)) : PT X (.UnaryOp .Not a pos) (trT X.K G E (tNotF t)) :=
  PT.imp (pt_not ha) fun σ H Q ⟨ρ, ok, h⟩ => ⟨ρ, ok, h.bindT.imp fun k H1 ⟨ρ1, e1, ok1, h1⟩ => h1 H1 (.refl _) ok1⟩
/-- .. as values -/
def eAnd (f g : Ev D) : Ev D := fun ρ => (f ρ).bind fun x ρ1 => match x with
  | .bl true => g ρ1
  | .bl false => .ok (.bl false) ρ1
  | _ => .bad
def eOr (f g : Ev D) : Ev D := fun ρ => (f ρ).bind fun x ρ1 => match x with
  | .bl true => .ok (.bl true) ρ1
  | .bl false => g ρ1
  | _ => .bad
def dNot : D → Option D
  | .bl b => some (.bl (!b))
  | _ => none
theorem xe_one {op} {f : Ev D} (h : PE X a (trE X.K G E f)) : PE X (.BoolOp op [a] pos) (trE X.K G E f) := pe_one h
theorem xe_and {f g : Ev D} (ha : PE X a (trE X.K G E f)) (hb : PE X (.BoolOp .And (b :: rest) pos) (trE X.K G E g)) : PE X (.BoolOp .And (a :: b :: rest) pos) (trE X.K G E (eAnd f g)) :=
  PE.imp (pe_and ha hb) fun σ H Q ⟨ρ, ok, h⟩ => ⟨ρ, ok, h.bindE.imp fun v H1 ⟨d, ρ1, e1, ok1, r1, h1⟩ => by
    cases d with
    | bl k =>
      refine ⟨k, r1.bl_inv, ?_⟩
      cases k with
      | true => exact ⟨ρ1, ok1, h1⟩
      | false => exact h1.now ok1 (.bl false)
    | _ => exact h1.elim⟩
theorem xe_or {f g : Ev D} (ha : PE X a (trE X.K G E f)) (hb : PE X (.BoolOp .Or (b :: rest) pos) (trE X.K G E g)) : PE X (.BoolOp .Or (a :: b :: rest) pos) (trE X.K G E (eOr f g)) :=
  PE.imp (pe_or ha hb) fun σ H Q ⟨ρ, ok, h⟩ => ⟨ρ, ok, h.bindE.imp fun v H1 ⟨d, ρ1, e1, ok1, r1, h1⟩ => by
    cases d with
    | bl k =>
      refine ⟨k, r1.bl_inv, ?_⟩
      cases k with
      | false => exact ⟨ρ1, ok1, h1⟩
      | true => exact h1.now ok1 (.bl true)
    | _ => exact h1.elim⟩
theorem xe_not {f : Ev D} (ha : PE X a (trE X.K G E f)) : PE X (.UnaryOp .Not a pos) (trE X.K G E (eUn dNot f)) :=
  PE.imp (pe_not ha) fun σ H Q ⟨ρ, ok, h⟩ => ⟨ρ, ok, h.bindE.imp fun v H1 ⟨d, ρ1, e1, ok1, r1, h1⟩ => by
    cases d with
    | bl k => exact ⟨k, r1.bl_inv, h1.now ok1 (.bl (!k))⟩
    | _ => exact h1.elim⟩
def dNeg : D → Option D
  | .int i => some (.int (-i))
  | _ => none
theorem xe_neg {f : Ev D} (ha : PE X a (trE X.K G E f)) : PE X (.UnaryOp .USub a pos) (trE X.K G E (eUn dNeg f)) :=
  PE.imp (pe_un un_neg ha) fun σ H Q ⟨ρ, ok, h⟩ => ⟨ρ, ok, h.bindE.imp fun v H1 ⟨d, ρ1, e1, ok1, r1, h1⟩ => by
    cases d with
    | int k => exact ⟨k, r1.int_inv, h1.now ok1 (.int (-k))⟩
    | _ => exact h1.elim⟩
/-- x if t else y -/
def eIf (t : Ev Bool) (f g : Ev D) : Ev D := fun ρ => (t ρ).bind fun b ρ1 => if b = true then f ρ1 else g ρ1
theorem xe_if {f g : Ev D} (hc : PT X c (trT X.K G E t)) (ha : PE X a (trE X.K G E f)) (hb : PE X b (trE X.K G E g)) : PE X (.IfExp c a b pos) (trE X.K G E (eIf t f g)) :=
  PE.imp (pe_ifExp hc ha hb) fun σ H Q ⟨ρ, ok, h⟩ => ⟨ρ, ok, h.bindT.imp fun k H1 ⟨ρ1, e1, ok1, h1⟩ => by
    cases k with
    | true => exact ⟨ρ1, ok1, h1⟩
    | false => exact ⟨ρ1, ok1, h1⟩⟩
/-- argument lists -/
def lNil : Ev (List D) := fun ρ => .ok [] ρ
def lCons (f : Ev D) (l : Ev (List D)) : Ev (List D) := fun ρ => (f ρ).bind fun x ρ1 => (l ρ1).bind fun xs ρ2 => .ok (x :: xs) ρ2
theorem xl_nil : PA X [] (trL X.K G E lNil) := PA.imp pa_nil fun σ H Q ⟨ρ, ok, h⟩ => h [] H (.refl _) ok .nil
theorem xl_cons {f : Ev D} {l : Ev (List D)} (ha : PE X a (trE X.K G E f)) (hr : PA X es (trL X.K G E l)) (hs : starEach (a :: es) X.env = (false, eval a X.env) :: starEach es X.env := by rfl) : PA X (a :: es) (trL X.K G E (lCons f l)) :=
  PA.imp (pa_cons ha hr hs) fun σ H Q ⟨ρ, ok, h⟩ => ⟨ρ, ok, h.bindE.imp fun v H1 ⟨d, ρ1, e1, ok1, r1, h1⟩ => ⟨ρ1, ok1, h1.bindL.imp fun vs H2 ⟨ds, ρ2, e2, ok2, r2, h2⟩ =>
    h2 _ H2 (.refl _) ok2 (.cons (r1.ext e2) r2)⟩⟩
/-- displays -/
def eTup (l : Ev (List D)) : Ev D := fun ρ => (l ρ).bind fun ds ρ1 => if ds.length ≤ sizeLine then .ok (.tup ds) ρ1 else .bad
def eLst (l : Ev (List D)) : Ev D := fun ρ => (l ρ).bind fun ds ρ1 => if ds.length ≤ sizeLine then .ok (.lst ds) ρ1 else .bad
theorem xe_tup {l : Ev (List D)} {k} (h : PA X es (trL X.K G E l)) : PE X (.Tuple es k pos) (trE X.K G E (eTup l)) :=
  PE.imp (pe_tup h) fun σ H Q ⟨ρ, ok, h⟩ => ⟨ρ, ok, h.bindL.imp fun vs H1 ⟨ds, ρ1, e1, ok1, r1, h1⟩ => by
    split at h1
    · rename_i hz
      exact ⟨by rw [r1.length]; exact hz, new_tup r1 fun v H' s r => h1.same ok1 s r⟩
    · exact h1.elim⟩
theorem xe_lst {l : Ev (List D)} (h : PA X es (trL X.K G E l)) : PE X (.List es pos) (trE X.K G E (eLst l)) :=
  PE.imp (PE.fz (pe_lst h)) fun σ H Q ⟨ρ, ok, h⟩ => ⟨ρ, ok, h.bindL.imp fun vs H1 ⟨ds, ρ1, e1, ok1, r1, h1⟩ => by
    split at h1
    · rename_i hz
      exact ⟨by rw [r1.length]; exact hz, new_lst r1 fun v H' s r => h1.same ok1 s r⟩
    · exact h1.elim⟩
/-- a[i], a[lo:hi] -/
theorem xe_ix {f1 f2 : Ev D} (ha : PE X a (trE X.K G E f1)) (hb : PE X b (trE X.K G E f2)) (hs : PlainIx b := by intro _ _; rfl) : PE X (.Subscript a b pos) (trE X.K G E (eBin dIx f1 f2)) :=
  PE.imp (pe_ix ix_D ha hb hs) fun σ H Q h => two_of h
def Po := Ev (Option Int)
def poN : Ev (Option Int) := fun ρ => .ok none ρ
def poS (f : Ev D) : Ev (Option Int) := fun ρ => (f ρ).bind fun x ρ1 => match x with
  | .int i => .ok (some i) ρ1
  | _ => .bad
def atO (K : PySem.W.Frag) (G : GC) (E : XK) (r : Res (Option Int)) (σ : L2.St) (H : Hp) (Q : Option Int → Hp → Prop) : Prop := match r with
  | .bad => False
  | .ok o ρ => ∀ H', Ext H H' → StOk K G σ H' ρ → Q o H'
  | .ex x ρ => atXe K G E x σ ρ H
def trO (K : PySem.W.Frag) (G : GC) (E : XK) (F : Ev (Option Int)) : TO := fun σ H Q => ∃ ρ, StOk K G σ H ρ ∧ atO K G E (F ρ) σ H Q
theorem PO.imp {e : Option Expr} {t t' : TO} (h : PO X e t) (w : ∀ σ H Q, t' σ H Q → t σ H Q) : PO X e t' := ⟨fun pins s σ H Q I q => h.run pins s σ H Q I (w σ H Q q)⟩
theorem xo_none : PO X none (trO X.K G E poN) := PO.imp po_none fun σ H Q ⟨ρ, ok, h⟩ => h H (.refl _) ok
theorem xo_some {f : Ev D} (ha : PE X a (trE X.K G E f)) : PO X (some a) (trO X.K G E (poS f)) := PO.imp (po_some ha) fun σ H Q ⟨ρ, ok, h⟩ => ⟨ρ, ok, by
  simp only [poS] at h
  cases hf : f ρ with
  | bad => rw [hf] at h; exact h.elim
  | ex x ρ1 => rw [hf] at h; exact h
  | ok d ρ1 =>
    rw [hf] at h
    intro v H' e s r
    cases d with
    | int i => exact ⟨i, r.int_inv, h H' e s⟩
    | _ => exact h.elim⟩
def eSl (f : Ev D) (lo hi : Ev (Option Int)) : Ev D := fun ρ => (f ρ).bind fun x ρ1 => (lo ρ1).bind fun l ρ2 => (hi ρ2).bind fun h ρ3 => lift (dSl x l h) ρ3
theorem xe_sl {f : Ev D} {lo hi : Option Expr} {l h : Ev (Option Int)} {p2 : Pos} (ha : PE X a (trE X.K G E f)) (hl : PO X lo (trO X.K G E l)) (hh : PO X hi (trO X.K G E h)) : PE X (.Subscript a (.Slice lo hi none p2) pos) (trE X.K G E (eSl f l h)) :=
  PE.imp (pe_slice sl_D ha hl hh) fun σ H Q ⟨ρ, ok, hq⟩ => ⟨ρ, ok, hq.bindE.imp fun v H1 ⟨d, ρ1, e1, ok1, r1, h1⟩ => ⟨ρ1, ok1, by
    cases hf : l ρ1 with
    | bad => rw [hf] at h1; exact h1.elim
    | ex x ρ2 => rw [hf] at h1; exact h1
    | ok lv ρ2 =>
      rw [hf] at h1
      intro H2 e2 ok2
      refine ⟨ρ2, ok2, ?_⟩
      simp only [Res.bind] at h1
      cases hf2 : h ρ2 with
      | bad => rw [hf2] at h1; exact h1.elim
      | ex x ρ3 => rw [hf2] at h1; exact atXe.mono h1 e2
      | ok hv ρ3 =>
        rw [hf2] at h1
        intro H3 e3 ok3
        simp only [Res.bind] at h1
        cases hg : dSl d lv hv with
        | none => rw [hg] at h1; exact h1.elim
        | some r =>
          rw [hg] at h1
          exact ⟨d, r, r1.ext (e2.trans e3), hg, fun v' H4 s4 r4 => (atE.mono h1 (e2.trans e3)).same ok3 s4 r4⟩⟩⟩
/-- calls of built-ins -/
def eCB (g : List D → Option D) (l : Ev (List D)) : Ev D := fun ρ => (l ρ).bind fun ds ρ1 => lift (g ds) ρ1
theorem cb_of {g : List D → Option D} {l : Ev (List D)} {σ : L2.St} {H : Hp} {Q : VK} (h : trE X.K G E (eCB g l) σ H Q) : trL X.K G E l σ H fun xs H1 => rDC X.K g xs H1 Q := by
  obtain ⟨ρ, ok, h⟩ := h
  refine ⟨ρ, ok, h.bindL.imp fun v H1 ⟨d, ρ1, e1, ok1, r1, h1⟩ => ?_⟩
  cases hg : g d with
  | none => rw [hg] at h1; exact h1.elim
  | some r =>
    rw [hg] at h1
    exact ⟨d, r, r1, hg, fun v' H3 s r3 => h1.same ok1 s r3⟩
theorem xe_callB {id : String} {g : List D → Option D} {l : Ev (List D)} {x : Str} {p : Pos} (hc : CallR X (.builtin id) (rDC X.K g)) (hg : Gl X x) (hm : X.mg x = none) (hv : bootBuiltins x = some (.builtin id)) (ha : PA X (a :: es) (trL X.K G E l)) (hn : x ≠ "__name__" := by decide) (hdb : (x == ("__debug__" : Str)) = false := by decide)
    (he : starEach (a :: es) X.env = (false, eval a X.env) :: starEach es X.env := by rfl) (hpl : (backTo pos (starEach es X.env)).any (·.1) = false := by rfl) : PE X (.Call (.Name x p) (a :: es) [] pos) (trE X.K G E (eCB g l)) :=
  PE.imp (pe_callB hc hg hm hv ha hn hdb he hpl) fun σ H Q h => cb_of h
theorem xe_callTy {T : String} {g : List D → Option D} {l : Ev (List D)} {x : Str} {p : Pos} (hc : CallR X (.type T) (rDC X.K g)) (hg : Gl X x) (hm : X.mg x = none) (hv : bootBuiltins x = some (.type T)) (ha : PA X (a :: es) (trL X.K G E l)) (hn : x ≠ "__name__" := by decide) (hdb : (x == ("__debug__" : Str)) = false := by decide)
    (he : starEach (a :: es) X.env = (false, eval a X.env) :: starEach es X.env := by rfl) (hpl : (backTo pos (starEach es X.env)).any (·.1) = false := by rfl) : PE X (.Call (.Name x p) (a :: es) [] pos) (trE X.K G E (eCB g l)) :=
  PE.imp (pe_callTy hc hg hm hv ha hn hdb he hpl) fun σ H Q h => cb_of h
end
end PU
namespace PU
open PySem PySem.Spec PyProof.Rows L2

/-! ### slots stored -/
theorem vAt_set {σ : L2.St} {i j : Nat} {o : Option V} : vAt (σ.set i o) j = if i = j ∧ i < σ.length then o else vAt σ j := by
  unfold vAt
  simp only [List.getD_eq_getElem?_getD, List.getElem?_set]
  by_cases h : i = j
  · subst h
    by_cases h2 : i < σ.length
    · simp [h2]
    · simp [h2]
  · simp [h]
theorem svAt_set {ρ : Ρ} {i j : Nat} {s : SV} : svAt (ρ.set i s) j = if i = j ∧ i < ρ.length then s else svAt ρ j := by
  unfold svAt
  simp only [List.getD_eq_getElem?_getD, List.getElem?_set]
  by_cases h : i = j
  · subst h
    by_cases h2 : i < ρ.length
    · simp [h2]
    · simp [h2]
  · simp [h]
theorem tabs_chg {T : List (Addr × Str)} {H H' : Hp} (t : LamX.Tabs T H) (e : ∀ b o, H b = some o → (stb o = true ∨ ∃ ps, o = .tbl ps) → H' b = some o) : LamX.Tabs T H' := fun p hp => by
  obtain ⟨ps, h1, h2, h3⟩ := t p hp
  refine ⟨ps, e _ _ h1 (.inr ⟨ps, rfl⟩), h2, fun pos cv hc => ?_⟩
  obtain ⟨c, e1, e2⟩ := h3 pos cv hc
  exact ⟨c, e1, e _ _ e2 (.inl rfl)⟩
section
variable {K : PySem.W.Frag} {G : GC} {σ : L2.St} {H : Hp} {ρ : Ρ}
/-- any slot takes a new content -/
theorem StEx.setAny {fp : Nat → List Addr} (x : StEx K G σ H ρ fp) {i : Nat} (hi : i ∉ G.ow) {v : V} {s : SV} {f : List Addr} (hs : SlotOk K H (some v) s f) (hf : ∀ b ∈ f, FrT G.H0 b ∧ (∀ p ∈ G.prot, p.1 ≠ b))
    (hsep : ∀ b ∈ f, ∀ j, j < ρ.length → b ∉ fp j) : StEx K G (σ.set i (some v)) H (ρ.set i s) (fun j => if j = i then f else fp j) := by
  refine ⟨by simp [x.len], fun j hj => ?_, fun j l b hj hl ne hb => ?_, fun j b hj hb => ?_, fun j hj => ?_, fun p hp => ?_, x.notbl, x.nd⟩
  · rw [List.length_set] at hj
    rw [vAt_set, svAt_set]
    by_cases e : i = j
    · subst e
      rw [if_pos ⟨rfl, by rw [x.len]; exact hj⟩, if_pos ⟨rfl, hj⟩, if_pos rfl]
      exact hs
    · rw [if_neg fun z => e z.1, if_neg fun z => e z.1, if_neg fun z => e z.symm]
      exact x.slot j hj
  · rw [List.length_set] at hj hl
    by_cases e : j = i
    · rw [if_pos e] at hb
      rw [if_neg fun z => ne (e.trans z.symm)]
      exact hsep b hb l hl
    · rw [if_neg e] at hb
      by_cases e2 : l = i
      · rw [if_pos e2]
        exact fun z => hsep b z j hj hb
      · rw [if_neg e2]
        exact x.sep j l b hj hl ne hb
  · rw [List.length_set] at hj
    by_cases e : j = i
    · rw [if_pos e] at hb; exact .inl (hf b hb).1
    · rw [if_neg e] at hb; exact x.own j b hj hb
  · obtain ⟨h1, h2, h3⟩ := x.pin j hj
    have ne : j ≠ i := fun z => hi (z ▸ hj)
    refine ⟨by rw [List.length_set]; exact h1, by rw [vAt_set, if_neg fun z => ne z.1.symm]; exact h2, by rw [if_neg ne]; exact h3⟩
  · obtain ⟨h1, h2, h3⟩ := x.prot p hp
    refine ⟨h1, h2, fun j hj => ?_⟩
    rw [List.length_set] at hj
    by_cases e : j = i
    · rw [if_pos e]; exact fun z => (hf _ z).2 p hp rfl
    · rw [if_neg e]; exact h3 j hj
theorem StOk.setSt (h : StOk K G σ H ρ) {i : Nat} (hi : i ∉ G.ow) {v : V} {d : D} (r : Rp K H v d) : StOk K G (σ.set i (some v)) H (ρ.set i (.st d)) := by
  obtain ⟨⟨fp, x⟩, k, t⟩ := h
  exact ⟨⟨_, x.setAny (f := []) hi ⟨rfl, v, rfl, r⟩ (fun b hb => nomatch hb) fun b hb => nomatch hb⟩, k, t⟩
theorem StEx.unpr {fp : Nat → List Addr} {p : Addr} {o : HO} (x : StEx K (G.pr p o) σ H ρ fp) : StEx K G σ H ρ fp :=
  ⟨x.len, x.slot, x.sep, x.own, x.pin, fun q hq => x.prot q (List.mem_cons_of_mem _ hq), fun q hq => x.notbl q (List.mem_cons_of_mem _ hq), (List.nodup_cons.mp x.nd).2⟩
theorem StOk.unpr {p : Addr} {o : HO} (h : StOk K (G.pr p o) σ H ρ) : StOk K G σ H ρ := by
  obtain ⟨⟨fp, x⟩, k, t⟩ := h
  exact ⟨⟨fp, x.unpr⟩, k, t⟩
theorem StOk.prAt {p : Addr} {o : HO} (h : StOk K (G.pr p o) σ H ρ) : H p = some o := by
  obtain ⟨⟨fp, x⟩, k, t⟩ := h
  exact (x.prot (p, o) List.mem_cons_self).1
/-- a new cell is guarded -/
theorem StOk.guard {p : Addr} {o : HO} (h : StOk K G σ H ρ) (hp : H p = none) (ht : ∀ ps, o ≠ .tbl ps := by intro ps z; cases z) : StOk K (G.pr p o) σ (upd H p o) ρ := by
  have s : Same H (upd H p o) := same_upd hp
  obtain ⟨_, k, t⟩ := h.same s
  obtain ⟨⟨fp2, x2⟩, k2, t2⟩ := h
  refine ⟨⟨fp2, x2.len, fun i hi => (x2.slot i hi).keep (.of s) fun b _ o e => s b o e, x2.sep, x2.own, x2.pin, fun q hq => ?_, fun q hq => ?_, ?_⟩, k, t⟩
  · rcases List.mem_cons.mp hq with rfl | hq
    · refine ⟨upd_same, k2.fr hp, fun i hi hb => ?_⟩
      obtain ⟨o', e, _, _⟩ := (x2.slot i hi).there _ hb
      rw [show H p = _ from e] at hp; cases hp
    · obtain ⟨h1, h2⟩ := x2.prot q hq
      exact ⟨s _ _ h1, h2⟩
  · rcases List.mem_cons.mp hq with rfl | hq
    · exact ht
    · exact x2.notbl q hq
  · show ((p, o) :: G.prot |>.map (·.1)).Nodup
    rw [List.map_cons, List.nodup_cons]
    refine ⟨fun hm => ?_, x2.nd⟩
    obtain ⟨q, hq, e⟩ := List.mem_map.mp hm
    have := (x2.prot q hq).1
    rw [e, hp] at this; cases this
/-- the guarded cell changes -/
theorem StOk.regard {p : Addr} {o o' : HO} (h : StOk K (G.pr p o) σ H ρ) (ho : stb o = false) (ht : ∀ ps, o ≠ .tbl ps) (ht' : ∀ ps, o' ≠ .tbl ps := by intro ps z; cases z) : StOk K (G.pr p o') σ (upd H p o') ρ ∧ Ext H (upd H p o') := by
  have ep := h.prAt
  obtain ⟨⟨fp, x⟩, k, t⟩ := h
  obtain ⟨h1, h2, h3⟩ := x.prot (p, o) List.mem_cons_self
  have ex : Ext H (upd H p o') := fun b u e s => by
    have : b ≠ p := fun z => by subst z; rw [ep] at e; cases e; rw [ho] at s; cases s
    rw [upd_ne this]; exact e
  have off : ∀ b, b ≠ p → ∀ u, H b = some u → upd H p o' b = some u := fun b hb u e => by rw [upd_ne hb]; exact e
  refine ⟨⟨⟨fp, x.len, fun i hi => (x.slot i hi).keep ex fun b hb u e => off b (fun z => h3 i hi (z ▸ hb)) u e, x.sep, x.own, x.pin, fun q hq => ?_, fun q hq => ?_, x.nd⟩, ?_, ?_⟩, ex⟩
  · rcases List.mem_cons.mp hq with rfl | hq
    · exact ⟨upd_same, h2, h3⟩
    · obtain ⟨g1, g2⟩ := x.prot q (List.mem_cons_of_mem _ hq)
      have : q.1 ≠ p := fun z => (List.nodup_cons.mp x.nd).1 (List.mem_map.mpr ⟨q, hq, z⟩)
      exact ⟨off _ this _ g1, g2⟩
  · rcases List.mem_cons.mp hq with rfl | hq
    · exact ht'
    · exact x.notbl q (List.mem_cons_of_mem _ hq)
  · refine ⟨fun b u e z t' => off b (fun y => by subst y; obtain ⟨ps, q⟩ := h2 u e; exact t' ps q) u (k.keep b u e z t'), fun b u e t' => ?_⟩
    by_cases hb : b = p
    · subst hb; exact ⟨o', upd_same, ht'⟩
    · rw [upd_ne hb]; exact k.dom b u e t'
  · exact tabs_chg t fun b u e s => off b (fun z => by
      subst z; rw [ep] at e; cases e
      rcases s with s | ⟨ps, s⟩
      · rw [ho] at s; cases s
      · exact ht ps s) u e
theorem StOk.takeL {p : Addr} {xs : List V} {ds : List D} (h : StOk K (G.pr p (.lst xs)) σ H ρ) {i : Nat} (hi : i ∉ G.ow) (r : RpL K H xs ds) : StOk K G (σ.set i (some (.ref p))) H (ρ.set i (.ol ds)) := by
  obtain ⟨⟨fp, x⟩, k, t⟩ := h
  obtain ⟨h1, h2, h3⟩ := x.prot (p, .lst xs) List.mem_cons_self
  refine ⟨⟨_, x.unpr.setAny (f := [p]) hi ⟨p, xs, rfl, rfl, h1, r⟩ (fun b hb => ?_) fun b hb j hj => ?_⟩, k, t⟩
  · have : b = p := by simpa using hb
    subst this
    exact ⟨h2, fun q hq z => (List.nodup_cons.mp x.nd).1 (List.mem_map.mpr ⟨q, hq, z⟩)⟩
  · have : b = p := by simpa using hb
    subst this
    exact h3 j hj
theorem StOk.takeD {p : Addr} {o : HO} {kvs : List (D × D)} (h : StOk K (G.pr p o) σ H ρ) {i : Nat} (hi : i ∉ G.ow) (r : DMut K H p kvs) : StOk K G (σ.set i (some (.ref p))) H (ρ.set i (.od kvs)) := by
  obtain ⟨⟨fp, x⟩, k, t⟩ := h
  obtain ⟨h1, h2, h3⟩ := x.prot (p, o) List.mem_cons_self
  refine ⟨⟨_, x.unpr.setAny (f := [p]) hi ⟨p, rfl, rfl, r⟩ (fun b hb => ?_) fun b hb j hj => ?_⟩, k, t⟩
  · have : b = p := by simpa using hb
    subst this
    exact ⟨h2, fun q hq z => (List.nodup_cons.mp x.nd).1 (List.mem_map.mpr ⟨q, hq, z⟩)⟩
  · have : b = p := by simpa using hb
    subst this
    exact h3 j hj
/-- the cell of an own slot changes (one cell: a list's, a dict's) -/
theorem StOk.updOwn (h : StOk K G σ H ρ) {i : Nat} {a : Addr} {o o' : HO} {s s' : SV} (hs : svAt ρ i = s) (hn : s ≠ .un) (hfp : ∀ fp, SlotOk K H (vAt σ i) s fp → fp = [a]) (ha : H a = some o) (ho : stb o = false) (ht : ∀ ps, o ≠ .tbl ps)
    (hs' : Ext H (upd H a o') → SlotOk K (upd H a o') (vAt σ i) s' [a]) : StOk K G σ (upd H a o') (ρ.set i s') ∧ Ext H (upd H a o') := by
  have hi := svAt_of hs hn
  obtain ⟨⟨fp, x⟩, k, t⟩ := h
  have ef : fp i = [a] := hfp _ (hs ▸ x.slot i hi)
  have ex : Ext H (upd H a o') := fun b u e s => by
    have : b ≠ a := fun z => by subst z; rw [ha] at e; cases e; rw [ho] at s; cases s
    rw [upd_ne this]; exact e
  have off : ∀ b, b ≠ a → ∀ u, H b = some u → upd H a o' b = some u := fun b hb u e => by rw [upd_ne hb]; exact e
  refine ⟨⟨⟨fp, by simp [x.len], fun j hj => ?_, fun j l b hj hl => x.sep j l b (by simpa using hj) (by simpa using hl), fun j b hj => x.own j b (by simpa using hj), fun j hj => ?_, fun p hp => ?_, x.notbl, x.nd⟩, ?_, ?_⟩, ex⟩
  · rw [List.length_set] at hj
    rw [svAt_set]
    by_cases e : i = j
    · subst e
      rw [if_pos ⟨rfl, hi⟩, ef]
      exact hs' ex
    · rw [if_neg fun z => e z.1]
      refine (x.slot j hj).keep ex fun b hb u e' => off b (fun z => ?_) u e'
      exact x.sep i j a hi hj e (by rw [ef]; simp) (z ▸ hb)
  · obtain ⟨g1, g2, g3⟩ := x.pin j hj
    exact ⟨by rw [List.length_set]; exact g1, g2, g3⟩
  · obtain ⟨g1, g2, g3⟩ := x.prot p hp
    exact ⟨off _ (fun z => g3 i hi (by rw [ef, z]; simp)) _ g1, g2, fun j hj => g3 j (by simpa using hj)⟩
  · refine ⟨fun b u e z t' => ?_, fun b u e t' => ?_⟩
    · by_cases hb : b = a
      · subst hb
        rcases x.own i b hi (by rw [ef]; simp) with w | w
        · obtain ⟨ps, q⟩ := w u e; exact absurd q (t' ps)
        · exact absurd w z
      · exact off b hb u (k.keep b u e z t')
    · by_cases hb : b = a
      · subst hb
        obtain ⟨o2, q1, _, q2⟩ := (hs' ex).there b (by simp)
        exact ⟨o2, q1, q2⟩
      · rw [upd_ne hb]; exact k.dom b u e t'
  · exact tabs_chg t fun b u e s => off b (fun z => by
      subst z; rw [ha] at e; cases e
      rcases s with s | ⟨ps, s⟩
      · rw [ho] at s; cases s
      · exact ht ps s) u e
theorem StOk.updL (h : StOk K G σ H ρ) {i : Nat} {a : Addr} {xs ys : List V} {ds es : List D} (hs : svAt ρ i = .ol ds) (hv : σ[i]? = some (some (.ref a))) (ha : H a = some (.lst xs)) (r : Ext H (upd H a (.lst ys)) → RpL K (upd H a (.lst ys)) ys es) :
    StOk K G σ (upd H a (.lst ys)) (ρ.set i (.ol es)) ∧ Ext H (upd H a (.lst ys)) := by
  have ev : vAt σ i = some (.ref a) := by unfold vAt; simp [List.getD_eq_getElem?_getD, hv]
  refine h.updOwn hs (by intro z; cases z) (fun fp ⟨a', xs', e1, e2, _⟩ => ?_) ha rfl (fun ps z => by cases z) fun ex => ⟨a, ys, ev, rfl, upd_same, r ex⟩
  rw [ev] at e1
  cases e1
  exact e2
/-- a list of one's own is known from now on -/
theorem StOk.fzL (h : StOk K G σ H ρ) {i : Nat} (hi : i ∉ G.ow) {a : Addr} {xs : List V} {ds : List D} (hs : svAt ρ i = .ol ds) (hv : σ[i]? = some (some (.ref a))) (ha : H a = some (.lst xs)) (r : RpL K H xs ds) (o : Obj) :
    StOk K G σ (upd H a (.frz o (.lst xs))) (ρ.set i (.st (.lst ds))) ∧ Ext H (upd H a (.frz o (.lst xs))) ∧ Rp K (upd H a (.frz o (.lst xs))) (.ref a) (.lst ds) := by
  have ev : vAt σ i = some (.ref a) := by unfold vAt; simp [List.getD_eq_getElem?_getD, hv]
  have hl := svAt_of hs (by intro z; cases z)
  obtain ⟨⟨⟨fp, x⟩, k, t⟩, ex⟩ := h.updOwn (s' := .ol ds) (o' := .lst xs) hs (by intro z; cases z) (fun fp ⟨a', xs', e1, e2, _⟩ => by rw [ev] at e1; cases e1; exact e2) ha rfl (fun ps z => by cases z) fun ex => ⟨a, xs, ev, rfl, upd_same, r.ext ex⟩
  clear x k t fp ex
  obtain ⟨⟨fp, x⟩, k, t⟩ := h
  have ef : fp i = [a] := by
    have := x.slot i hl
    rw [hs] at this
    obtain ⟨a', xs', e1, e2, _⟩ := this
    rw [ev] at e1; cases e1; exact e2
  have ex : Ext H (upd H a (.frz o (.lst xs))) := fun b u e s => by
    have : b ≠ a := fun z => by subst z; rw [ha] at e; cases e; cases s
    rw [upd_ne this]; exact e
  have rp : Rp K (upd H a (.frz o (.lst xs))) (.ref a) (.lst ds) := .lst upd_same (r.ext ex)
  have off : ∀ b, b ≠ a → ∀ u, H b = some u → upd H a (.frz o (.lst xs)) b = some u := fun b hb u e => by rw [upd_ne hb]; exact e
  refine ⟨⟨⟨fun j => if j = i then [] else fp j, by simp [x.len], fun j hj => ?_, fun j l b hj hl' ne hb => ?_, fun j b hj hb => ?_, fun j hj => ?_, fun p hp => ?_, x.notbl, x.nd⟩, ?_, ?_⟩, ex, rp⟩
  · rw [List.length_set] at hj
    rw [svAt_set]
    by_cases e : i = j
    · subst e
      rw [if_pos ⟨rfl, hl⟩, if_pos rfl]
      exact ⟨rfl, _, ev, rp⟩
    · rw [if_neg fun z => e z.1, if_neg fun z => e z.symm]
      refine (x.slot j hj).keep ex fun b hb u e' => off b (fun z => ?_) u e'
      exact x.sep i j a hl hj e (by rw [ef]; simp) (z ▸ hb)
  · rw [List.length_set] at hj hl'
    by_cases e : j = i
    · rw [if_pos e] at hb; cases hb
    · rw [if_neg e] at hb
      by_cases e2 : l = i
      · rw [if_pos e2]; exact fun z => nomatch z
      · rw [if_neg e2]; exact x.sep j l b hj hl' ne hb
  · rw [List.length_set] at hj
    by_cases e : j = i
    · rw [if_pos e] at hb; cases hb
    · rw [if_neg e] at hb; exact x.own j b hj hb
  · obtain ⟨g1, g2, g3⟩ := x.pin j hj
    have ne : j ≠ i := fun z => hi (z ▸ hj)
    exact ⟨by rw [List.length_set]; exact g1, g2, by rw [if_neg ne]; exact g3⟩
  · obtain ⟨g1, g2, g3⟩ := x.prot p hp
    refine ⟨off _ (fun z => g3 i hl (by rw [ef, z]; simp)) _ g1, g2, fun j hj => ?_⟩
    rw [List.length_set] at hj
    by_cases e : j = i
    · rw [if_pos e]; exact fun z => nomatch z
    · rw [if_neg e]; exact g3 j hj
  · refine ⟨fun b u e z t' => ?_, fun b u e t' => ?_⟩
    · by_cases hb : b = a
      · subst hb
        rcases x.own i b hl (by rw [ef]; simp) with w | w
        · obtain ⟨ps, q⟩ := w u e; exact absurd q (t' ps)
        · exact absurd w z
      · exact off b hb u (k.keep b u e z t')
    · by_cases hb : b = a
      · subst hb; exact ⟨_, upd_same, fun ps z => by cases z⟩
      · rw [upd_ne hb]; exact k.dom b u e t'
  · exact tabs_chg t fun b u e s => off b (fun z => by
      subst z; rw [ha] at e; cases e
      rcases s with s | ⟨ps, s⟩
      · cases s
      · cases s) u e
end
end PU
namespace PU
open PySem PySem.Spec PyProof.Rows L2

/-! ### statements -/
section
variable {X : Cx} {G : GC} {E : XK} {a b c : Expr} {es : List Expr} {pos : Pos} {st : Stmt} {sts : List Stmt}
def SRes.bind (r : SRes) (k : Ρ → SRes) : SRes := match r with
  | .nx ρ => k ρ
  | r => r
def sNop : Sv := fun ρ => .nx ρ
def sSeq (f g : Sv) : Sv := fun ρ => (f ρ).bind g
def ofE {α : Type} (r : Res α) (k : α → Ρ → SRes) : SRes := match r with
  | .bad => .bad
  | .ok a ρ => k a ρ
  | .ex x ρ => .ex x ρ
theorem atS.ofE {r : Res D} {k : D → Ρ → SRes} {D' : Ends} {σ : L2.St} {H : Hp} (h : atS X.K G E (ofE r k) D' σ H) : atE X.K G E r σ H fun v H1 => ∃ d ρ, Ext H H1 ∧ StOk X.K G σ H1 ρ ∧ Rp X.K H1 v d ∧ atS X.K G E (k d ρ) D' σ H1 := by
  cases r with
  | bad => exact h
  | ok d ρ => exact fun v H' e s rp => ⟨d, ρ, e, s, rp, atS.mono (r := k d ρ) h e⟩
  | ex x ρ => exact atX.e h
theorem atS.ofT {r : Res Bool} {k : Bool → Ρ → SRes} {D' : Ends} {σ : L2.St} {H : Hp} (h : atS X.K G E (PU.ofE r k) D' σ H) : atT X.K G E r σ H fun b H1 => ∃ ρ, Ext H H1 ∧ StOk X.K G σ H1 ρ ∧ atS X.K G E (k b ρ) D' σ H1 := by
  cases r with
  | bad => exact h
  | ok d ρ => exact fun H' e s => ⟨ρ, e, s, atS.mono (r := k d ρ) h e⟩
  | ex x ρ => exact atX.e h
theorem xs_nil : PSs X [] (trS X.K G E sNop) := PSs.imp pss_nil fun D' σ H ⟨ρ, ok, h⟩ => h σ H (.refl _) ok
theorem atS.seq {r : SRes} {g : Sv} {D' : Ends} {σ : L2.St} {H : Hp} (h : atS X.K G E (r.bind g) D' σ H) : atS X.K G E r { D' with nx := trS X.K G E g D' } σ H := by
  cases r with
  | bad => exact h
  | nx ρ => exact fun σ' H' e s => ⟨ρ, s, (atS.mono (r := g ρ) h e).any⟩
  | rt d ρ => exact h
  | bk ρ => exact h
  | ct ρ => exact h
  | ex x ρ => exact h
theorem xs_cons {f g : Sv} (h1 : PS X st (trS X.K G E f)) (h2 : PSs X sts (trS X.K G E g)) : PSs X (st :: sts) (trS X.K G E (sSeq f g)) :=
  PSs.imp (pss_cons h1 h2) fun D' σ H ⟨ρ, ok, h⟩ => ⟨ρ, ok, h.seq⟩
theorem xs_one {f : Sv} (h1 : PS X st (trS X.K G E f)) : PSs X [st] (trS X.K G E f) := pss_one h1
theorem xs_pass : PS X (.Pass pos) (trS X.K G E sNop) := PS.imp ps_pass fun D' σ H ⟨ρ, ok, h⟩ => h σ H (.refl _) ok
def sExpr (f : Ev D) : Sv := fun ρ => ofE (f ρ) fun _ ρ1 => .nx ρ1
theorem xs_expr {f : Ev D} (he : PE X a (trE X.K G E f)) (hs : swapsWith a none pos.line X.env = pure false := by rfl) : PS X (.Expr a pos) (trS X.K G E (sExpr f)) :=
  PS.imp (ps_expr he hs) fun D' σ H ⟨ρ, ok, h⟩ => ⟨ρ, ok, h.ofE.imp fun v H1 ⟨d, ρ1, e1, ok1, r1, h1⟩ => h1 σ H1 (.refl _) ok1⟩
def sRet (f : Ev D) : Sv := fun ρ => ofE (f ρ) fun d ρ1 => .rt d ρ1
theorem xs_ret {f : Ev D} (he : PE X a (trE X.K G E f)) : PS X (.Return (some a) pos) (trS X.K G E (sRet f)) :=
  PS.imp (ps_ret he) fun D' σ H ⟨ρ, ok, h⟩ => ⟨ρ, ok, h.ofE.imp fun v H1 ⟨d, ρ1, e1, ok1, r1, h1⟩ => h1 v σ H1 (.refl _) ok1 r1⟩
def sIf (t : Ev Bool) (f g : Sv) : Sv := fun ρ => ofE (t ρ) fun b ρ1 => if b = true then f ρ1 else g ρ1
theorem xs_if {t : Ev Bool} {f g : Sv} {l1 l2 : List Stmt} (hc : PT X c (trT X.K G E t)) (ha : PSs X l1 (trS X.K G E f)) (hb : PSs X l2 (trS X.K G E g)) : PS X (.If c l1 l2 pos) (trS X.K G E (sIf t f g)) :=
  PS.imp (ps_if hc ha hb) fun D' σ H ⟨ρ, ok, h⟩ => ⟨ρ, ok, h.ofT.imp fun k H1 ⟨ρ1, e1, ok1, h1⟩ => by
    cases k with
    | true => exact ⟨ρ1, ok1, h1⟩
    | false => exact ⟨ρ1, ok1, h1⟩⟩
/-- name = e -/
def sSet (i : Nat) (f : Ev D) : Sv := fun ρ => ofE (f ρ) fun d ρ1 => .nx (ρ1.set i (.st d))
theorem xs_set {i : Nat} {x : Str} {pos' : Pos} {f : Ev D} (hN : X.N.Nodup) (hi : X.N[i]? = some x) (hx : Loc X.env.scope x) (he : PE X a (trE X.K G E f)) (ho : i ∉ G.ow) (hs : swapsWith a (some (.Name x pos')) pos.line X.env = pure false := by rfl)
    (hf : X.fn x = true ∨ X.env.scope.names.lookup x = some .local := by first | exact .inl rfl | exact .inr rfl | assumption) : PS X (.Assign [.Name x pos'] a pos) (trS X.K G E (sSet i f)) :=
  PS.imp (ps_set hN hi hx he hs hf) fun D' σ H ⟨ρ, ok, h⟩ => ⟨ρ, ok, h.ofE.imp fun v H1 ⟨d, ρ1, e1, ok1, r1, h1⟩ => h1 _ H1 (.refl _) (ok1.setSt ho r1)⟩
/-- name = e, written on one line with a comprehension: the store is part of it -/
theorem xs_set' {i : Nat} {x : Str} {pos' : Pos} {f : Ev D} {t : TE} (h : PS X (.Assign [.Name x pos'] a pos) (tAsg t (gName i))) (ho : i ∉ G.ow) (w : ∀ σ H Q, trE X.K G E f σ H Q → t σ H Q) : PS X (.Assign [.Name x pos'] a pos) (trS X.K G E (sSet i f)) :=
  PS.imp h fun D' σ H ⟨ρ, ok, h⟩ => w _ _ _ ⟨ρ, ok, h.ofE.imp fun v H1 ⟨d, ρ1, e1, ok1, r1, h1⟩ => h1 _ H1 (.refl _) (ok1.setSt ho r1)⟩

/-! ### targets of several names -/
def setAll (ρ : Ρ) : List Nat → List D → Ρ
  | i :: is, d :: ds => setAll (ρ.set i (.st d)) is ds
  | _, _ => ρ
structure Tgt (X : Cx) (G : GC) (tg : Expr) (g : TG) (T : D → Ρ → Option Ρ) : Prop where
  pg : PG X tg g
  ok : ∀ d ρ ρ' v σ H Q, T d ρ = some ρ' → StOk X.K G σ H ρ → Rp X.K H v d → (∀ σ', StOk X.K G σ' H ρ' → Q σ' H) → g v σ H Q
def tgN (i : Nat) : D → Ρ → Option Ρ := fun d ρ => some (ρ.set i (.st d))
def tgT (is : List Nat) : D → Ρ → Option Ρ := fun d ρ => match d with
  | .tup ds => if ds.length = is.length then some (setAll ρ is ds) else none
  | _ => none
theorem tgt_name {i : Nat} {x : Str} (h : PG X (.Name x pos) (gName i)) (ho : i ∉ G.ow) : Tgt X G (.Name x pos) (gName i) (tgN i) :=
  ⟨h, fun d ρ ρ' v σ H Q e ok r q => by cases e; exact q _ (ok.setSt ho r)⟩
def gAll : List Nat → TGs
  | [] => gNil
  | i :: is => gCons (gName i) (gAll is)
theorem gAll_ok : ∀ (is : List Nat) (ds : List D) (ρ : Ρ) (vs : List V) (σ : L2.St) (H : Hp) (Q : L2.St → Hp → Prop), (∀ i ∈ is, i ∉ G.ow) → ds.length = is.length → StOk X.K G σ H ρ → RpL X.K H vs ds → (∀ σ', StOk X.K G σ' H (setAll ρ is ds) → Q σ' H) → gAll is vs σ H Q
  | [], [], ρ, vs, σ, H, Q, _, _, ok, r, q => by cases r; exact ⟨rfl, q _ ok⟩
  | i :: is, d :: ds, ρ, vs, σ, H, Q, ho, hl, ok, r, q => by
    cases r with
    | cons r1 r2 => exact ⟨_, _, rfl, gAll_ok is ds _ _ _ H Q (fun j hj => ho j (List.mem_cons_of_mem _ hj)) (by simpa using hl) (ok.setSt (ho i List.mem_cons_self) r1) r2 q⟩
  | [], _ :: _, _, _, _, _, _, _, hl, _, _, _ => by simp at hl
  | _ :: _, [], _, _, _, _, _, _, hl, _, _, _ => by simp at hl
theorem tgt_tup {ts : List Expr} {k : Nat} {is : List Nat} (h : PG X (.Tuple ts k pos) (gTup X.K is.length (gAll is))) (ho : ∀ i ∈ is, i ∉ G.ow) : Tgt X G (.Tuple ts k pos) (gTup X.K is.length (gAll is)) (tgT is) := by
  refine ⟨h, fun d ρ ρ' v σ H Q e ok r q => ?_⟩
  cases d with
  | tup ds =>
    simp only [tgT] at e
    split at e
    · rename_i hl
      cases e
      cases r with
      | tup h1 h2 => exact ⟨_, _, rfl, .of h1, by rw [h2.length]; exact hl, gAll_ok is ds ρ _ σ H Q ho hl ok h2 q⟩
    · cases e
  | _ => cases e
/-- target = e -/
def sAsg (T : D → Ρ → Option Ρ) (f : Ev D) : Sv := fun ρ => ofE (f ρ) fun d ρ1 => match T d ρ1 with
  | some ρ2 => .nx ρ2
  | none => .bad
theorem xs_asg {tg : Expr} {g : TG} {T : D → Ρ → Option Ρ} {f : Ev D} (he : PE X a (trE X.K G E f)) (hg : Tgt X G tg g T) (hs : swapsWithSole [tg] a pos.line X.env = pure false := by rfl) (hw : swappedStores [tg] a X.env = pure none := by rfl)
    (h1 : (assignEach [tg] X.env).map (·.2) = [assign tg X.env] := by rfl) : PS X (.Assign [tg] a pos) (trS X.K G E (sAsg T f)) :=
  PS.imp (ps_asg he hg.pg hs hw h1) fun D' σ H ⟨ρ, ok, h⟩ => ⟨ρ, ok, h.ofE.imp fun v H1 ⟨d, ρ1, e1, ok1, r1, h1⟩ => by
    cases hT : T d ρ1 with
    | none => rw [hT] at h1; exact h1.elim
    | some ρ2 =>
      rw [hT] at h1
      exact hg.ok d ρ1 ρ2 v σ H1 _ hT ok1 r1 fun σ' ok' => h1 σ' H1 (.refl _) ok'⟩
/-- a, b = x, y -/
def sPar (i j : Nat) (l : Ev (List D)) : Sv := fun ρ => ofE (l ρ) fun ds ρ1 => match ds with
  | [d, e] => .nx ((ρ1.set i (.st d)).set j (.st e))
  | _ => .bad
theorem atS.ofL {r : Res (List D)} {k : List D → Ρ → SRes} {D' : Ends} {σ : L2.St} {H : Hp} (h : atS X.K G E (PU.ofE r k) D' σ H) : atL X.K G E r σ H fun vs H1 => ∃ ds ρ, Ext H H1 ∧ StOk X.K G σ H1 ρ ∧ RpL X.K H1 vs ds ∧ atS X.K G E (k ds ρ) D' σ H1 := by
  cases r with
  | bad => exact h
  | ok d ρ => exact fun v H' e s rp => ⟨d, ρ, e, s, rp, atS.mono (r := k d ρ) h e⟩
  | ex x ρ => exact atX.e h
theorem xs_par {i j : Nat} {x y : Str} {l : Ev (List D)} {px py pt : Pos} {kt k2 pt2} (hc : X.calm = true) (hN : X.N.Nodup) (hi : X.N[i]? = some x) (hj : X.N[j]? = some y) (hij : i ≠ j)
    (hx : X.env.scope.names.lookup x = some .local) (hy : X.env.scope.names.lookup y = some .local) (ha : PA X [a, b] (trL X.K G E l)) (ho : i ∉ G.ow ∧ j ∉ G.ow)
    (hw : swappedStores [.Tuple [.Name x px, .Name y py] kt pt] (.Tuple [a, b] k2 pt2) X.env = pure (some [x, y]))
    (hs : swapsWithSole [.Tuple [.Name x px, .Name y py] kt pt] (.Tuple [a, b] k2 pt2) pos.line X.env = pure false := by rfl) :
    PS X (.Assign [.Tuple [.Name x px, .Name y py] kt pt] (.Tuple [a, b] k2 pt2) pos) (trS X.K G E (sPar i j l)) :=
  PS.imp (ps_par hc hN hi hj hij hx hy ha hw hs) fun D' σ H ⟨ρ, ok, h⟩ => ⟨ρ, ok, h.ofL.imp fun vs H1 ⟨ds, ρ1, e1, ok1, r1, h1⟩ => by
    match ds, r1, h1 with
    | [d, e], r1, h1 =>
      obtain ⟨v, w', rfl, q1, q2⟩ := two_inv r1
      exact ⟨v, w', rfl, h1 _ H1 (.refl _) ((ok1.setSt ho.1 q1).setSt ho.2 q2)⟩
    | [], _, h1 => exact h1.elim
    | [_], _, h1 => exact h1.elim
    | _ :: _ :: _ :: _, _, h1 => exact h1.elim⟩
/-- name op= e, numbers -/
def sAug (i : Nat) (g : D → D → Option D) (f : Ev D) : Sv := fun ρ => match svAt ρ i with
  | .st x => ofE (f ρ) fun d ρ1 => match g x d with
    | some r => .nx (ρ1.set i (.st r))
    | none => .bad
  | _ => .bad
def ipD (K : PySem.W.Frag) (g : D → D → Option D) : TIp := rD K g
theorem ip_addD : PIp X .Add (ipD X.K (dI2 fun i j => some (.int (i + j)))) := by
  intro pins s σ H x y v u Q I rx ry h
  obtain ⟨d, e, r, hd, he, hg, q⟩ := h
  obtain ⟨i, j, rfl, rfl, hg2⟩ := dI2_inv hg
  cases hg2
  exact ip_add pins s σ H x y v u Q I rx ry ⟨i, j, hd.int_inv, he.int_inv, q _ _ (.refl H) (.int _)⟩
theorem xs_aug {i : Nat} {x : Str} {op : Operator} {g : D → D → Option D} {f : Ev D} {pos' : Pos} (hN : X.N.Nodup) (hi : X.N[i]? = some x) (hx : Loc X.env.scope x) (he : PE X a (trE X.K G E f)) (hop : PIp X op (ipD X.K g)) (ho : i ∉ G.ow)
    (hf : X.fn x = true ∨ X.env.scope.names.lookup x = some .local := by first | exact .inl rfl | exact .inr rfl | assumption) : PS X (.AugAssign (.Name x pos') op a pos) (trS X.K G E (sAug i g f)) :=
  PS.imp (ps_aug hN hi hx he hop hf) fun D' σ H ⟨ρ, ok, h⟩ => by
    simp only [sAug] at h
    split at h
    · rename_i x0 e
      obtain ⟨v, e1, r⟩ := ok.st e
      refine ⟨v, e1, ρ, ok, h.ofE.imp fun v2 H1 ⟨d, ρ1, e1, ok1, r1, h1⟩ => ?_⟩
      cases hg : g x0 d with
      | none => rw [hg] at h1; exact h1.elim
      | some y =>
        rw [hg] at h1
        exact ⟨x0, d, y, r.ext e1, r1, hg, fun v3 H3 s3 r3 => h1 _ H3 (.of s3) ((ok1.same s3).setSt ho r3)⟩
    · exact h.elim

/-! ### what is walked -/
/-- the iterator J yields the data ds from H1 on -/
structure Yl (K : PySem.W.Frag) (J : It) (H1 : Hp) (ds : List D) : Prop where
  go : ∀ i H, Ext H1 H → i < ds.length → J.go i H
  stop : ∀ i H, Ext H1 H → ds.length = i → J.stop i H
  yld : ∀ i H x H', Ext H1 H → i < ds.length → J.yld i H x H' → Same H H' ∧ ∃ d, ds[i]? = some d ∧ Rp K H' x d
def atI' (K : PySem.W.Frag) (G : GC) (E : XK) (r : Res (List D)) (σ : L2.St) (H : Hp) (R : It → Hp → Prop) : Prop := match r with
  | .bad => False
  | .ok ds ρ => ∀ J H', Ext H H' → StOk K G σ H' ρ → Yl K J H' ds → R J H'
  | .ex x ρ => atXe K G E x σ ρ H
def trI (K : PySem.W.Frag) (G : GC) (E : XK) (F : Ev (List D)) : TI := fun σ H R => ∃ ρ, StOk K G σ H ρ ∧ atI' K G E (F ρ) σ H R
theorem PI.imp {tg iter : Expr} {t t' : TI} (h : PI X tg iter t) (w : ∀ σ H Q, t' σ H Q → t σ H Q) : PI X tg iter t' := ⟨fun pins s σ H Q I q => h.run pins s σ H Q I (w σ H Q q)⟩
theorem RpL.stop {K : PySem.W.Frag} {H : Hp} {xs : List V} {ds : List D} {x : V} {i : Nat} (r : RpL K H xs ds) (h : xs[i]? = some x) : ∃ d, ds[i]? = some d ∧ Rp K H x d := r.get h
theorem yl_lst {K : PySem.W.Frag} {H : Hp} {p : Addr} {o : Obj} {xs : List V} {ds : List D} (h : H p = some (.frz o (.lst xs))) (r : RpL K H xs ds) : Yl K (Itl K p) H ds where
  go := fun i H' e hi => ⟨xs, xs[i]'(by rw [r.length]; exact hi), .inl (.inr ⟨o, e _ _ h rfl⟩), by simp [r.length, hi]⟩
  stop := fun i H' e hi0 => have hi := Nat.le_of_eq hi0; ⟨xs, .inl (.inr ⟨o, e _ _ h rfl⟩), by rw [r.length]; exact hi⟩
  yld := fun i H' x H'' e hi y => by
    obtain ⟨e1, y⟩ := y
    subst e1
    refine ⟨.refl _, ?_⟩
    obtain ⟨d, hd, rd⟩ := r.get (y xs (.inl (.inr ⟨o, e _ _ h rfl⟩)))
    exact ⟨d, hd, rd.ext e⟩
theorem yl_tup {K : PySem.W.Frag} {H : Hp} {p : Addr} {xs : List V} {ds : List D} (h : H p = some (.tup xs)) (r : RpL K H xs ds) : Yl K (Itt K p) H ds where
  go := fun i H' e hi => ⟨xs, xs[i]'(by rw [r.length]; exact hi), .of (e _ _ h rfl), by simp [r.length, hi]⟩
  stop := fun i H' e hi0 => have hi := Nat.le_of_eq hi0; ⟨xs, .of (e _ _ h rfl), by rw [r.length]; exact hi⟩
  yld := fun i H' x H'' e hi y => by
    obtain ⟨e1, y⟩ := y
    subst e1
    refine ⟨.refl _, ?_⟩
    obtain ⟨d, hd, rd⟩ := r.get (y xs (.of (e _ _ h rfl)))
    exact ⟨d, hd, rd.ext e⟩
def rgD (lo : Int) (n : Nat) : List D := (List.range n).map fun i => .int (lo + (i : Nat))
theorem yl_rng {K : PySem.W.Frag} {H : Hp} {lo : Int} {n : Nat} : Yl K (Itr lo n) H (rgD lo n) where
  go := fun i H' e hi => by
    have h : i < n := by simpa [rgD] using hi
    exact h
  stop := fun i H' e hi0 => by
    have hi := Nat.le_of_eq hi0
    have h : n ≤ i := by simpa [rgD] using hi
    exact h
  yld := fun i H' x H'' e hi y => by
    obtain ⟨e1, e2⟩ := y
    subst e1 e2
    have hi' : i < n := by simpa [rgD] using hi
    exact ⟨.refl _, _, by simp [rgD, hi'], .int _⟩
/-- the items of a list or a tuple -/
def dItems : D → Option (List D)
  | .lst ds => some ds
  | .tup ds => some ds
  | _ => none
def iSeq (f : Ev D) : Ev (List D) := fun ρ => (f ρ).bind fun x ρ1 => lift (dItems x) ρ1
theorem atI'.bindE {r : Res D} {k : D → Ρ → Res (List D)} {R : It → Hp → Prop} {σ : L2.St} {H : Hp} (h : atI' X.K G E (r.bind k) σ H R) : atE X.K G E r σ H fun v H1 => ∃ d ρ, Ext H H1 ∧ StOk X.K G σ H1 ρ ∧ Rp X.K H1 v d ∧ atI' X.K G E (k d ρ) σ H1 R := by
  cases r with
  | bad => exact h
  | ex x ρ => exact h
  | ok d ρ =>
    refine fun v H' e s rp => ⟨d, ρ, e, s, rp, ?_⟩
    have h' : atI' X.K G E (k d ρ) σ H R := h
    cases hk : k d ρ with
    | bad => rw [hk] at h'; exact h'
    | ok ds ρ1 => rw [hk] at h'; exact fun J H2 e2 => h' J H2 (e.trans e2)
    | ex x ρ1 => rw [hk] at h'; exact atXe.mono h' e
def iLstO (K : PySem.W.Frag) (tl : TE) : TI := fun σ H R => tl σ H fun x H1 => (∃ a, x = .ref a ∧ (∃ xs, SqL K H1 a xs) ∧ R (Itl K a) H1) ∨ ∃ a, x = .ref a ∧ (∃ xs, SqT K H1 a xs) ∧ R (Itt K a) H1
theorem pi_seq {tg l : Expr} {tl : TE} (hl : PE X l tl) : PI X tg l (iLstO X.K tl) := by
  refine ⟨fun pins s σ H R I h => ?_⟩
  refine thn (hl.run pins s σ H _ I h) fun v s1 ⟨x, H1, I1, r1, q1⟩ => ?_
  rcases q1 with ⟨a, e, ⟨xs, hq⟩, q⟩ | ⟨a, e, ⟨xs, hq⟩, q⟩
  · subst e
    cases r1
    obtain ⟨its, rv, p, hz⟩ := I1.list hq
    refine wpAny_pyIter_list p.isList ?_
    refine ⟨s1.heap.objs.size, [s1.heap.objs.size], _, _, H1, rfl, I1.kept (t' := s1.toks) fun b o e => Heap.get?_push_of_some _ e, turn_list a _, ⟨_, Heap.get?_push_size _ rfl, rfl, rfl⟩, fun b hb => ?_, q⟩
    have e : b = s1.heap.objs.size := by simpa using hb
    subst e
    exact I1.fpOk (Nat.le_refl _) (I1.hok.fresh (Nat.le_refl _))
  · subst e
    cases r1
    obtain ⟨its, rv, p, hz⟩ := I1.tuple hq
    refine wpAny_pyIter_tuple (show s1.heap.IsTuple a its.toArray from p) ?_
    refine ⟨s1.heap.objs.size, [s1.heap.objs.size], _, _, H1, rfl, I1.kept (t' := s1.toks) fun b o e => Heap.get?_push_of_some _ e, turn_tuple a _, ⟨_, Heap.get?_push_size _ rfl, rfl, rfl⟩, fun b hb => ?_, q⟩
    have e : b = s1.heap.objs.size := by simpa using hb
    subst e
    exact I1.fpOk (Nat.le_refl _) (I1.hok.fresh (Nat.le_refl _))
theorem xi_seq {tg : Expr} {f : Ev D} (ha : PE X a (trE X.K G E f)) : PI X tg a (trI X.K G E (iSeq f)) :=
  PI.imp (pi_seq ha) fun σ H R ⟨ρ, ok, h⟩ => ⟨ρ, ok, atE.imp (atI'.bindE h) fun v H1 ⟨d, ρ1, e1, ok1, r1, h1⟩ => by
    cases r1 with
    | @lst p o xs ds h2 h3 => exact .inl ⟨p, rfl, ⟨xs, .inl (.inr ⟨o, h2⟩)⟩, h1 _ H1 (.refl _) ok1 (yl_lst h2 h3)⟩
    | @tup p xs ds h2 h3 => exact .inr ⟨p, rfl, ⟨xs, .of h2⟩, h1 _ H1 (.refl _) ok1 (yl_tup h2 h3)⟩
    | _ => exact h1.elim⟩
def rgOk (i : Int) : Bool := decide (-(2 ^ 62) ≤ i) && decide (i < 2 ^ 62)
def dRng1 : List D → Option (List D)
  | [.int j] => if rgOk j then some (rgD 0 j.toNat) else none
  | _ => none
def dRng2 : List D → Option (List D)
  | [.int i, .int j] => if rgOk i && rgOk j then some (rgD i (j - i).toNat) else none
  | _ => none
theorem dRng1_inv {ds es : List D} (h : dRng1 ds = some es) : ∃ j, ds = [.int j] ∧ rgOk j = true ∧ es = rgD 0 j.toNat := by
  unfold dRng1 at h
  split at h
  · rename_i j
    split at h
    · rename_i hc; cases h; exact ⟨j, rfl, hc, rfl⟩
    · cases h
  · cases h
theorem dRng2_inv {ds es : List D} (h : dRng2 ds = some es) : ∃ i j, ds = [.int i, .int j] ∧ rgOk i = true ∧ rgOk j = true ∧ es = rgD i (j - i).toNat := by
  unfold dRng2 at h
  split at h
  · rename_i i j
    split at h
    · rename_i hc; cases h; rw [Bool.and_eq_true] at hc; exact ⟨i, j, rfl, hc.1, hc.2, rfl⟩
    · cases h
  · cases h
def iCall (g : List D → Option (List D)) (l : Ev (List D)) : Ev (List D) := fun ρ => (l ρ).bind fun ds ρ1 => lift (g ds) ρ1
theorem atI'.bindL {r : Res (List D)} {k : List D → Ρ → Res (List D)} {R : It → Hp → Prop} {σ : L2.St} {H : Hp} (h : atI' X.K G E (r.bind k) σ H R) : atL X.K G E r σ H fun vs H1 => ∃ ds ρ, Ext H H1 ∧ StOk X.K G σ H1 ρ ∧ RpL X.K H1 vs ds ∧ atI' X.K G E (k ds ρ) σ H1 R := by
  cases r with
  | bad => exact h
  | ex x ρ => exact h
  | ok d ρ =>
    refine fun v H' e s rp => ⟨d, ρ, e, s, rp, ?_⟩
    have h' : atI' X.K G E (k d ρ) σ H R := h
    cases hk : k d ρ with
    | bad => rw [hk] at h'; exact h'
    | ok ds ρ1 => rw [hk] at h'; exact fun J H2 e2 => h' J H2 (e.trans e2)
    | ex x ρ1 => rw [hk] at h'; exact atXe.mono h' e
theorem rgOk_iff {i : Int} : rgOk i = true ↔ -(2 ^ 62) ≤ i ∧ i < 2 ^ 62 := by simp [rgOk]
theorem xi_rng1 {tg : Expr} {l : Ev (List D)} {p : Pos} (hg : Gl X "range") (hm : X.mg "range" = none) (ha : PA X [a] (trL X.K G E l)) (hs : starEach [a] X.env = [(false, eval a X.env)] := by rfl) : PI X tg (.Call (.Name "range" p) [a] [] pos) (trI X.K G E (iCall dRng1 l)) :=
  PI.imp (pi_range1 hg hm ha hs) fun σ H R ⟨ρ, ok, h⟩ => ⟨ρ, ok, atL.imp (atI'.bindL h) fun vs H1 ⟨ds, ρ1, e1, ok1, r1, h1⟩ => by
    cases hg : dRng1 ds with
    | none => rw [hg] at h1; exact h1.elim
    | some es =>
      rw [hg] at h1
      obtain ⟨j, rfl, hc, rfl⟩ := dRng1_inv hg
      obtain ⟨v, rfl, q⟩ := one_inv r1
      have hc := rgOk_iff.mp hc
      exact ⟨j, by rw [q.int_inv], hc.1, hc.2, h1 _ H1 (.refl _) ok1 yl_rng⟩⟩
theorem xi_rng2 {tg : Expr} {l : Ev (List D)} {p : Pos} (hg : Gl X "range") (hm : X.mg "range" = none) (ha : PA X [a, b] (trL X.K G E l)) (hs : starEach [a, b] X.env = [(false, eval a X.env), (false, eval b X.env)] := by rfl) (hs2 : starEach [b] X.env = [(false, eval b X.env)] := by rfl) :
    PI X tg (.Call (.Name "range" p) [a, b] [] pos) (trI X.K G E (iCall dRng2 l)) :=
  PI.imp (pi_range2 hg hm ha hs hs2) fun σ H R ⟨ρ, ok, h⟩ => ⟨ρ, ok, atL.imp (atI'.bindL h) fun vs H1 ⟨ds, ρ1, e1, ok1, r1, h1⟩ => by
    cases hg : dRng2 ds with
    | none => rw [hg] at h1; exact h1.elim
    | some es =>
      rw [hg] at h1
      obtain ⟨i, j, rfl, hc, hc2, rfl⟩ := dRng2_inv hg
      obtain ⟨v, w', rfl, q1, q2⟩ := two_inv r1
      have hc := rgOk_iff.mp hc
      have hc2 := rgOk_iff.mp hc2
      exact ⟨i, j, by rw [q1.int_inv, q2.int_inv], ⟨hc.1, hc.2, hc2.1, hc2.2⟩, h1 _ H1 (.refl _) ok1 yl_rng⟩⟩
/-- pairs, new tuples -/
def zipD (ds es : List D) : List D := (ds.zip es).map fun p => .tup [p.1, p.2]
theorem zipD_len (ds es : List D) : (zipD ds es).length = min ds.length es.length := by simp [zipD]
theorem zipD_get {ds es : List D} {i : Nat} {d e : D} (h1 : ds[i]? = some d) (h2 : es[i]? = some e) : (zipD ds es)[i]? = some (.tup [d, e]) := by
  have h : (ds.zip es)[i]? = some (d, e) := List.getElem?_zip_eq_some.mpr ⟨h1, h2⟩
  simp only [zipD, List.getElem?_map, h, Option.map_some]
theorem yl_zipL {K : PySem.W.Frag} {H : Hp} {p q : Addr} {o o2 : Obj} {xs ys : List V} {ds es : List D} (h : H p = some (.frz o (.lst xs))) (r : RpL K H xs ds) (h2 : H q = some (.frz o2 (.lst ys))) (r2 : RpL K H ys es) : Yl K (Itz K p q) H (zipD ds es) where
  go := fun i H' e hi => by
    rw [zipD_len] at hi
    exact ⟨xs, ys, xs[i]'(by rw [r.length]; omega), ys[i]'(by rw [r2.length]; omega), .inl (.inr ⟨o, e _ _ h rfl⟩), .inl (.inr ⟨o2, e _ _ h2 rfl⟩), List.getElem?_eq_getElem _, List.getElem?_eq_getElem _⟩
  stop := fun i H' e hi0 => by
    have hi := Nat.le_of_eq hi0
    rw [zipD_len] at hi
    refine ⟨xs, ys, .inl (.inr ⟨o, e _ _ h rfl⟩), .inl (.inr ⟨o2, e _ _ h2 rfl⟩), ?_⟩
    rw [r.length, r2.length]; omega
  yld := fun i H' x H'' e hi y => by
    obtain ⟨T, x1, x2, rfl, hT, rfl, f1, f2⟩ := y
    have s : Same H' (upd H' T (.tup [x1, x2])) := same_upd hT
    obtain ⟨d, hd, rd⟩ := r.get (f1 xs (.inl (.inr ⟨o, e _ _ h rfl⟩)))
    obtain ⟨d2, hd2, rd2⟩ := r2.get (f2 ys (.inl (.inr ⟨o2, e _ _ h2 rfl⟩)))
    exact ⟨s, _, zipD_get hd hd2, .tup upd_same (.cons (rd.ext (e.trans (.of s))) (.cons (rd2.ext (e.trans (.of s))) .nil))⟩
theorem yl_zipT {K : PySem.W.Frag} {H : Hp} {p q : Addr} {xs ys : List V} {ds es : List D} (h : H p = some (.tup xs)) (r : RpL K H xs ds) (h2 : H q = some (.tup ys)) (r2 : RpL K H ys es) : Yl K (RZ.ItzT K p q) H (zipD ds es) where
  go := fun i H' e hi => by
    rw [zipD_len] at hi
    exact ⟨xs, ys, xs[i]'(by rw [r.length]; omega), ys[i]'(by rw [r2.length]; omega), .of (e _ _ h rfl), .of (e _ _ h2 rfl), List.getElem?_eq_getElem _, List.getElem?_eq_getElem _⟩
  stop := fun i H' e hi0 => by
    have hi := Nat.le_of_eq hi0
    rw [zipD_len] at hi
    refine ⟨xs, ys, .of (e _ _ h rfl), .of (e _ _ h2 rfl), ?_⟩
    rw [r.length, r2.length]; omega
  yld := fun i H' x H'' e hi y => by
    obtain ⟨T, x1, x2, rfl, hT, rfl, f1, f2⟩ := y
    have s : Same H' (upd H' T (.tup [x1, x2])) := same_upd hT
    obtain ⟨d, hd, rd⟩ := r.get (f1 xs (.of (e _ _ h rfl)))
    obtain ⟨d2, hd2, rd2⟩ := r2.get (f2 ys (.of (e _ _ h2 rfl)))
    exact ⟨s, _, zipD_get hd hd2, .tup upd_same (.cons (rd.ext (e.trans (.of s))) (.cons (rd2.ext (e.trans (.of s))) .nil))⟩
theorem yl_zipM {K : PySem.W.Frag} {H : Hp} {p q : Addr} {xs ys : List V} {ds es : List D} (h : H p = some (.tup xs)) (r : RpL K H xs ds) {o2 : Obj} (h2 : H q = some (.frz o2 (.lst ys))) (r2 : RpL K H ys es) : Yl K (ItzM K p q) H (zipD ds es) where
  go := fun i H' e hi => by
    rw [zipD_len] at hi
    exact ⟨xs, ys, xs[i]'(by rw [r.length]; omega), ys[i]'(by rw [r2.length]; omega), .of (e _ _ h rfl), .inl (.inr ⟨o2, e _ _ h2 rfl⟩), List.getElem?_eq_getElem _, List.getElem?_eq_getElem _⟩
  stop := fun i H' e hi0 => by
    rw [zipD_len] at hi0
    refine ⟨xs, ys, .of (e _ _ h rfl), .inl (.inr ⟨o2, e _ _ h2 rfl⟩), ?_⟩
    rw [r.length, r2.length]; omega
  yld := fun i H' x H'' e hi y => by
    obtain ⟨T, x1, x2, rfl, hT, rfl, f1, f2⟩ := y
    have s : Same H' (upd H' T (.tup [x1, x2])) := same_upd hT
    obtain ⟨d, hd, rd⟩ := r.get (f1 xs (.of (e _ _ h rfl)))
    obtain ⟨d2, hd2, rd2⟩ := r2.get (f2 ys (.inl (.inr ⟨o2, e _ _ h2 rfl⟩)))
    exact ⟨s, _, zipD_get hd hd2, .tup upd_same (.cons (rd.ext (e.trans (.of s))) (.cons (rd2.ext (e.trans (.of s))) .nil))⟩
/-- zip of two lists, or of two tuples -/
def dZip : List D → Option (List D)
  | [.lst a, .lst b] => some (zipD a b)
  | [.tup a, .tup b] => some (zipD a b)
  | [.tup a, .lst b] => some (zipD a b)
  | _ => none
theorem dZip_inv {ds es : List D} (h : dZip ds = some es) : ∃ a b, es = zipD a b ∧ (ds = [.lst a, .lst b] ∨ ds = [.tup a, .tup b] ∨ ds = [.tup a, .lst b]) := by
  unfold dZip at h
  split at h
  · cases h; exact ⟨_, _, rfl, .inl rfl⟩
  · cases h; exact ⟨_, _, rfl, .inr (.inl rfl)⟩
  · cases h; exact ⟨_, _, rfl, .inr (.inr rfl)⟩
  · cases h
theorem xi_zip {l : Ev (List D)} {p tpos : Pos} {elts : List Expr} {kk : Nat} (hg : Gl X "zip") (hm : X.mg "zip" = none) (ha : PA X [a, b] (trL X.K G E l))
    (hs : starEach [a, b] X.env = (false, eval a X.env) :: starEach [b] X.env := by rfl) (hpl : (backTo pos (starEach [b] X.env)).any (·.1) = false := by rfl) :
    PI X (.Tuple elts kk tpos) (.Call (.Name "zip" p) [a, b] [] pos) (trI X.K G E (iCall dZip l)) :=
  PI.imp (pi_zip3 hg hm ha hs hpl) fun σ H R ⟨ρ, ok, h⟩ => ⟨ρ, ok, atL.imp (atI'.bindL h) fun vs H1 ⟨ds, ρ1, e1, ok1, r1, h1⟩ => by
    cases hg : dZip ds with
    | none => rw [hg] at h1; exact h1.elim
    | some es =>
      rw [hg] at h1
      obtain ⟨a, b, rfl, rfl | rfl | rfl⟩ := dZip_inv hg
      · obtain ⟨v, w', rfl, q1, q2⟩ := two_inv r1
        cases q1 with
        | @lst p o xs _ g1 g2 =>
          cases q2 with
          | @lst p2 o2 ys _ g3 g4 => exact ⟨p, p2, xs, ys, rfl, .inl ⟨.inl (.inr ⟨o, g1⟩), .inl (.inr ⟨o2, g3⟩), h1 _ H1 (.refl _) ok1 (yl_zipL g1 g2 g3 g4)⟩⟩
      · obtain ⟨v, w', rfl, q1, q2⟩ := two_inv r1
        cases q1 with
        | @tup p xs _ g1 g2 =>
          cases q2 with
          | @tup p2 ys _ g3 g4 => exact ⟨p, p2, xs, ys, rfl, .inr (.inl ⟨.of g1, .of g3, h1 _ H1 (.refl _) ok1 (yl_zipT g1 g2 g3 g4)⟩)⟩
      · obtain ⟨v, w', rfl, q1, q2⟩ := two_inv r1
        cases q1 with
        | @tup p xs _ g1 g2 =>
          cases q2 with
          | @lst p2 o2 ys _ g3 g4 => exact ⟨p, p2, xs, ys, rfl, .inr (.inr ⟨.of g1, .inl (.inr ⟨o2, g3⟩), h1 _ H1 (.refl _) ok1 (yl_zipM g1 g2 g3 g4)⟩)⟩⟩

/-! ### for -/
def forL (T : D → Ρ → Option Ρ) (B : Sv) : List D → Ρ → SRes
  | [], ρ => .nx ρ
  | d :: ds, ρ => match T d ρ with
    | none => .bad
    | some ρ1 => match B ρ1 with
      | .nx ρ2 => forL T B ds ρ2
      | .ct ρ2 => forL T B ds ρ2
      | .bk ρ2 => .nx ρ2
      | r => r
def sFor (I : Ev (List D)) (T : D → Ρ → Option Ρ) (B : Sv) : Sv := fun ρ => ofE (I ρ) fun ds ρ1 => forL T B ds ρ1
theorem for_of {J : It} {g : TG} {T : D → Ρ → Option Ρ} {B : Sv} {D' : Ends} {ds : List D} {σ : L2.St} {H1 : Hp} {ρ : Ρ} (y : Yl X.K J H1 ds) (hT : ∀ d ρ ρ' v σ H Q, T d ρ = some ρ' → StOk X.K G σ H ρ → Rp X.K H v d → (∀ σ', StOk X.K G σ' H ρ' → Q σ' H) → g v σ H Q)
    (ok : StOk X.K G σ H1 ρ) (h : atS X.K G E (forL T B ds ρ) D' σ H1) : ∃ W : Nat → Nat → L2.St → Hp → Prop, (∃ m, W 0 m σ H1) ∧ ∀ i m σ H, W i m σ H →
      (J.stop i H ∧ D'.nx σ H) ∨ (J.go i H ∧ ∃ N : L2.St → Hp → Prop, (∀ σ' H', N σ' H' → ∃ m', m' < m ∧ W (i + 1) m' σ' H') ∧ ∀ x H', J.yld i H x H' → g x σ H' fun σ2 H2 => trS X.K G E B { D' with nx := N, ct := N, bk := D'.nx } σ2 H2) := by
  refine ⟨fun i m σ H => m = ds.length - i ∧ i ≤ ds.length ∧ Ext H1 H ∧ ∃ ρ, StOk X.K G σ H ρ ∧ atS X.K G E (forL T B (ds.drop i) ρ) D' σ H, ⟨_, rfl, Nat.zero_le _, .refl _, ρ, ok, h⟩, ?_⟩
  rintro i m σ2 H2 ⟨rfl, hi, e2, ρ2, ok2, h2⟩
  by_cases hlt : i < ds.length
  · refine .inr ⟨y.go i H2 e2 hlt, fun σ' H' => i + 1 ≤ ds.length ∧ Ext H1 H' ∧ ∃ ρ, StOk X.K G σ' H' ρ ∧ atS X.K G E (forL T B (ds.drop (i + 1)) ρ) D' σ' H', fun σ' H' hN => ⟨_, by omega, rfl, hN⟩, fun x H3 hy => ?_⟩
    obtain ⟨s3, d, hd, rd⟩ := y.yld i H2 x H3 e2 hlt hy
    have ed : ds.drop i = d :: ds.drop (i + 1) := by
      obtain ⟨hl, e⟩ := List.getElem?_eq_some_iff.mp hd
      rw [← e]; exact List.drop_eq_getElem_cons hl
    rw [ed] at h2
    simp only [forL] at h2
    cases hTd : T d ρ2 with
    | none => rw [hTd] at h2; exact h2.elim
    | some ρ3 =>
      rw [hTd] at h2
      simp only at h2
      refine hT d ρ2 ρ3 x σ2 H3 _ hTd (ok2.same s3) rd fun σ4 ok4 => ⟨ρ3, ok4, ?_⟩
      have e3 : Ext H2 H3 := .of s3
      cases hB : B ρ3 with
      | bad => rw [hB] at h2; exact h2
      | nx ρ5 => rw [hB] at h2; exact fun σ6 H6 e6 ok6 => ⟨hlt, (e2.trans e3).trans e6, ρ5, ok6, (atS.mono h2 (e3.trans e6)).any⟩
      | ct ρ5 => rw [hB] at h2; exact fun σ6 H6 e6 ok6 => ⟨hlt, (e2.trans e3).trans e6, ρ5, ok6, (atS.mono h2 (e3.trans e6)).any⟩
      | bk ρ5 => rw [hB] at h2; exact fun σ6 H6 e6 ok6 => h2 σ6 H6 (e3.trans e6) ok6
      | rt d ρ5 => rw [hB] at h2; exact fun v σ6 H6 e6 ok6 r6 => h2 v σ6 H6 (e3.trans e6) ok6 r6
      | ex x ρ5 => rw [hB] at h2; exact atX.mono h2 e3
  · have e : i = ds.length := by omega
    subst e
    rw [List.drop_length] at h2
    exact .inl ⟨y.stop _ H2 e2 rfl, h2 σ2 H2 (.refl _) ok2⟩
theorem xs_for {tg iter : Expr} {body : List Stmt} {I : Ev (List D)} {g : TG} {T : D → Ρ → Option Ρ} {B : Sv} (hp : PassesOwn (model X.prog X.w) X.A X.env X.xe) (hc : X.calm = true) (hi : PI X tg iter (trI X.K G E I)) (hg : Tgt X G tg g T) (hb : PSs X body (trS X.K G E B))
    (hs : ∀ x, foldedSetIterable iter X.env x = pure x := by intro _; rfl) : PS X (.For tg iter body [] pos) (trS X.K G E (sFor I T B)) :=
  PS.imp (ps_for hp hc hi hg.pg hb hs) fun D' σ H ⟨ρ, ok, h⟩ => ⟨ρ, ok, by
    simp only [sFor] at h
    cases hI : I ρ with
    | bad => rw [hI] at h; exact h
    | ex x ρ1 => rw [hI] at h; exact atX.e h
    | ok ds ρ1 =>
      rw [hI] at h
      exact fun J H' e ok' y => for_of y hg.ok ok' (atS.mono h e)⟩

/-! ### while -/
/-- a loop's run: the test, the body, again -/
inductive WRun (t : Ev Bool) (B : Sv) : Ρ → SRes → Prop
  | stop {ρ ρ1} : t ρ = .ok false ρ1 → WRun t B ρ (.nx ρ1)
  | go {ρ ρ1 ρ2 r} : t ρ = .ok true ρ1 → (B ρ1 = .nx ρ2 ∨ B ρ1 = .ct ρ2) → WRun t B ρ2 r → WRun t B ρ r
  | brk {ρ ρ1 ρ2} : t ρ = .ok true ρ1 → B ρ1 = .bk ρ2 → WRun t B ρ (.nx ρ2)
  | ret {ρ ρ1 d ρ2} : t ρ = .ok true ρ1 → B ρ1 = .rt d ρ2 → WRun t B ρ (.rt d ρ2)
  | exB {ρ ρ1 x ρ2} : t ρ = .ok true ρ1 → B ρ1 = .ex x ρ2 → WRun t B ρ (.ex x ρ2)
  | exT {ρ x ρ1} : t ρ = .ex x ρ1 → WRun t B ρ (.ex x ρ1)
theorem WRun.det {t : Ev Bool} {B : Sv} {ρ : Ρ} {r r' : SRes} (h : WRun t B ρ r) (h' : WRun t B ρ r') : r = r' := by
  induction h generalizing r' with
  | stop e =>
    cases h' with
    | stop e' => rw [e] at e'; cases e'; rfl
    | go e' _ _ => rw [e] at e'; cases e'
    | brk e' _ => rw [e] at e'; cases e'
    | ret e' _ => rw [e] at e'; cases e'
    | exB e' _ => rw [e] at e'; cases e'
    | exT e' => rw [e] at e'; cases e'
  | @go ρ ρ1 ρ2 r e b _ ih =>
    cases h' with
    | stop e' => rw [e] at e'; cases e'
    | @go _ _ ρ3 _ e' b' w =>
      rw [e] at e'; cases e'
      have z : ρ2 = ρ3 := by
        rcases b with b | b <;> rcases b' with b' | b' <;> (rw [b] at b'; injection b')
      subst z
      exact ih w
    | brk e' b' => rw [e] at e'; cases e'; rcases b with b | b <;> (rw [b] at b'; cases b')
    | ret e' b' => rw [e] at e'; cases e'; rcases b with b | b <;> (rw [b] at b'; cases b')
    | exB e' b' => rw [e] at e'; cases e'; rcases b with b | b <;> (rw [b] at b'; cases b')
    | exT e' => rw [e] at e'; cases e'
  | brk e b =>
    cases h' with
    | stop e' => rw [e] at e'; cases e'
    | go e' b' _ => rw [e] at e'; cases e'; rcases b' with b' | b' <;> (rw [b] at b'; cases b')
    | brk e' b' => rw [e] at e'; cases e'; rw [b] at b'; cases b'; rfl
    | ret e' b' => rw [e] at e'; cases e'; rw [b] at b'; cases b'
    | exB e' b' => rw [e] at e'; cases e'; rw [b] at b'; cases b'
    | exT e' => rw [e] at e'; cases e'
  | ret e b =>
    cases h' with
    | stop e' => rw [e] at e'; cases e'
    | go e' b' _ => rw [e] at e'; cases e'; rcases b' with b' | b' <;> (rw [b] at b'; cases b')
    | brk e' b' => rw [e] at e'; cases e'; rw [b] at b'; cases b'
    | ret e' b' => rw [e] at e'; cases e'; rw [b] at b'; cases b'; rfl
    | exB e' b' => rw [e] at e'; cases e'; rw [b] at b'; cases b'
    | exT e' => rw [e] at e'; cases e'
  | exB e b =>
    cases h' with
    | stop e' => rw [e] at e'; cases e'
    | go e' b' _ => rw [e] at e'; cases e'; rcases b' with b' | b' <;> (rw [b] at b'; cases b')
    | brk e' b' => rw [e] at e'; cases e'; rw [b] at b'; cases b'
    | ret e' b' => rw [e] at e'; cases e'; rw [b] at b'; cases b'
    | exB e' b' => rw [e] at e'; cases e'; rw [b] at b'; cases b'; rfl
    | exT e' => rw [e] at e'; cases e'
  | exT e =>
    cases h' with
    | stop e' => rw [e] at e'; cases e'
    | go e' _ _ => rw [e] at e'; cases e'
    | brk e' _ => rw [e] at e'; cases e'
    | ret e' _ => rw [e] at e'; cases e'
    | exB e' _ => rw [e] at e'; cases e'
    | exT e' => rw [e] at e'; cases e'; rfl
/-- with the number of turns -/
inductive WRunN (t : Ev Bool) (B : Sv) : Nat → Ρ → SRes → Prop
  | stop {ρ ρ1} : t ρ = .ok false ρ1 → WRunN t B 0 ρ (.nx ρ1)
  | go {n ρ ρ1 ρ2 r} : t ρ = .ok true ρ1 → (B ρ1 = .nx ρ2 ∨ B ρ1 = .ct ρ2) → WRunN t B n ρ2 r → WRunN t B (n + 1) ρ r
  | brk {ρ ρ1 ρ2} : t ρ = .ok true ρ1 → B ρ1 = .bk ρ2 → WRunN t B 0 ρ (.nx ρ2)
  | ret {ρ ρ1 d ρ2} : t ρ = .ok true ρ1 → B ρ1 = .rt d ρ2 → WRunN t B 0 ρ (.rt d ρ2)
  | exB {ρ ρ1 x ρ2} : t ρ = .ok true ρ1 → B ρ1 = .ex x ρ2 → WRunN t B 0 ρ (.ex x ρ2)
  | exT {ρ x ρ1} : t ρ = .ex x ρ1 → WRunN t B 0 ρ (.ex x ρ1)
theorem WRun.n {t : Ev Bool} {B : Sv} {ρ : Ρ} {r : SRes} (h : WRun t B ρ r) : ∃ n, WRunN t B n ρ r := by
  induction h with
  | stop e => exact ⟨0, .stop e⟩
  | go e b _ ih => obtain ⟨n, w⟩ := ih; exact ⟨n + 1, .go e b w⟩
  | brk e b => exact ⟨0, .brk e b⟩
  | ret e b => exact ⟨0, .ret e b⟩
  | exB e b => exact ⟨0, .exB e b⟩
  | exT e => exact ⟨0, .exT e⟩
open Classical in
noncomputable def sWhile (t : Ev Bool) (B : Sv) : Sv := fun ρ => if h : ∃ r, WRun t B ρ r then h.choose else .bad
theorem sWhile_run {t : Ev Bool} {B : Sv} {ρ : Ρ} {r : SRes} (h : WRun t B ρ r) : sWhile t B ρ = r := by
  have e : ∃ r, WRun t B ρ r := ⟨r, h⟩
  unfold sWhile
  rw [dif_pos e]
  exact e.choose_spec.det h
theorem sWhile_stop {t : Ev Bool} {B : Sv} {ρ ρ1 : Ρ} (h : t ρ = .ok false ρ1) : sWhile t B ρ = .nx ρ1 := sWhile_run (.stop h)
theorem xs_while {body : List Stmt} {t : Ev Bool} {B : Sv} (hp : PassesOwn (model X.prog X.w) X.A X.env X.xe) (hc : PT X c (trT X.K G E t)) (hb : PSs X body (trS X.K G E B)) : PS X (.While c body [] pos) (trS X.K G E (sWhile t B)) :=
  PS.imp (ps_while hp hc hb) fun D' σ H ⟨ρ, ok, h⟩ => by
    by_cases e : ∃ r, WRun t B ρ r
    · obtain ⟨r, hr⟩ := e
      rw [sWhile_run hr] at h
      obtain ⟨n, hn⟩ := hr.n
      refine ⟨fun m σ2 H2 => ∃ ρ2, StOk X.K G σ2 H2 ρ2 ∧ WRunN t B m ρ2 r ∧ atS X.K G E r D' σ2 H2, ⟨n, ρ, ok, hn, h⟩, ?_⟩
      rintro m σ2 H2 ⟨ρ2, ok2, hm, h2⟩
      refine ⟨ρ2, ok2, ?_⟩
      cases hm with
      | stop e =>
        rw [e]
        exact fun H3 e3 ok3 => iteF (h2 σ2 H3 e3 ok3)
      | @go n _ ρ3 ρ4 _ e b w' =>
        rw [e]
        refine fun H3 e3 ok3 => iteT ?_
        refine ⟨fun σ5 H5 => ∃ ρ5, StOk X.K G σ5 H5 ρ5 ∧ WRunN t B n ρ5 r ∧ atS X.K G E r D' σ5 H5, fun σ' H' hN => ⟨n, Nat.lt_succ_self n, hN⟩, ρ3, ok3, ?_⟩
        rcases b with b | b
        · rw [b]; exact fun σ6 H6 e6 ok6 => ⟨ρ4, ok6, w', (atS.mono h2 (e3.trans e6)).any⟩
        · rw [b]; exact fun σ6 H6 e6 ok6 => ⟨ρ4, ok6, w', (atS.mono h2 (e3.trans e6)).any⟩
      | brk e b =>
        rw [e]
        refine fun H3 e3 ok3 => iteT ?_
        refine ⟨fun _ _ => False, fun _ _ z => z.elim, _, ok3, ?_⟩
        rw [b]; exact fun σ6 H6 e6 ok6 => h2 σ6 H6 (e3.trans e6) ok6
      | ret e b =>
        rw [e]
        refine fun H3 e3 ok3 => iteT ?_
        refine ⟨fun _ _ => False, fun _ _ z => z.elim, _, ok3, ?_⟩
        rw [b]; exact fun v σ6 H6 e6 ok6 r6 => h2 v σ6 H6 (e3.trans e6) ok6 r6
      | exB e b =>
        rw [e]
        refine fun H3 e3 ok3 => iteT ?_
        refine ⟨fun _ _ => False, fun _ _ z => z.elim, _, ok3, ?_⟩
        rw [b]; exact atX.mono h2 e3
      | exT e => rw [e]; exact atX.e h2
    · have : sWhile t B ρ = .bad := by unfold sWhile; rw [dif_neg e]
      rw [this] at h
      exact h.elim
end
end PU
namespace PU
open PySem PySem.Spec PyProof.Rows L2

/-! ### a new list, still one's own -/
def atN (K : PySem.W.Frag) (G : GC) (E : XK) (r : Res (List D)) (σ : L2.St) (H : Hp) (Q : VK) : Prop := match r with
  | .bad => False
  | .ok ds ρ => ∀ p xs H', Ext H H' → StOk K (G.pr p (.lst xs)) σ H' ρ → RpL K H' xs ds → Q (.ref p) H'
  | .ex x ρ => atXe K G E x σ ρ H
def trN (K : PySem.W.Frag) (G : GC) (E : XK) (F : Ev (List D)) : TE := fun σ H Q => ∃ ρ, StOk K G σ H ρ ∧ atN K G E (F ρ) σ H Q
def eFz (F : Ev (List D)) : Ev D := fun ρ => (F ρ).bind fun ds ρ1 => .ok (.lst ds) ρ1
section
variable {X : Cx} {G : GC} {E : XK} {a b c : Expr} {es : List Expr} {pos : Pos} {st : Stmt} {sts : List Stmt}
theorem fz_new {p : Addr} {xs : List V} {ds : List D} {σ : L2.St} {H : Hp} {ρ : Ρ} {Q : VK} (ok : StOk X.K (G.pr p (.lst xs)) σ H ρ) (r : RpL X.K H xs ds) (q : ∀ v H', Ext H H' → StOk X.K G σ H' ρ → Rp X.K H' v (.lst ds) → Q v H') : Fz Q (.ref p) H := by
  refine ⟨fun a u e1 e2 e3 o => ?_, fun z => ?_⟩
  · cases e1
    rw [ok.prAt] at e2
    cases e2
    obtain ⟨ok2, ex⟩ := ok.regard (o' := .frz o (.lst xs)) rfl (fun ps z => by cases z)
    exact q _ _ ex ok2.unpr (.lst upd_same (r.ext ex))
  · have := z p _ rfl ok.prAt
    simp [isLD] at this
theorem xe_fz {e : Expr} {F : Ev (List D)} (h : PE X e (trN X.K G E F)) : PE X e (trE X.K G E (eFz F)) :=
  PE.imp (PE.fz h) fun σ H Q ⟨ρ, ok, h⟩ => ⟨ρ, ok, by
    simp only [eFz] at h
    cases hF : F ρ with
    | bad => rw [hF] at h; exact h
    | ex x ρ1 => rw [hF] at h; exact h
    | ok ds ρ1 => rw [hF] at h; exact fun p xs H' e ok' r => fz_new ok' r fun v H'' e2 ok2 rp => h v H'' (e.trans e2) ok2 rp⟩
def nLst (l : Ev (List D)) : Ev (List D) := fun ρ => (l ρ).bind fun ds ρ1 => if ds.length ≤ sizeLine then .ok ds ρ1 else .bad
theorem xn_lst {l : Ev (List D)} (h : PA X es (trL X.K G E l)) : PE X (.List es pos) (trN X.K G E (nLst l)) :=
  PE.imp (pe_lst h) fun σ H Q ⟨ρ, ok, h⟩ => ⟨ρ, ok, by
    simp only [nLst] at h
    cases hF : l ρ with
    | bad => rw [hF] at h; exact h
    | ex x ρ1 => rw [hF] at h; exact h
    | ok ds ρ1 =>
      rw [hF] at h
      intro vs H1 e1 ok1 r1
      simp only [Res.bind] at h
      split at h
      · rename_i hz
        refine ⟨by rw [r1.length]; exact hz, fun p hp => ?_⟩
        have s : Same H1 (upd H1 p (.lst vs)) := same_upd hp
        exact h p vs _ (e1.trans (.of s)) (ok1.guard hp) (r1.ext (.of s))
      · exact h.elim⟩
/-- name = a new list, to be changed -/
def sNew (i : Nat) (F : Ev (List D)) : Sv := fun ρ => ofE (F ρ) fun ds ρ1 => .nx (ρ1.set i (.ol ds))
theorem xs_new {i : Nat} {x : Str} {pos' : Pos} {F : Ev (List D)} (hN : X.N.Nodup) (hi : X.N[i]? = some x) (hx : Loc X.env.scope x) (he : PE X a (trN X.K G E F)) (ho : i ∉ G.ow) (hs : swapsWith a (some (.Name x pos')) pos.line X.env = pure false := by rfl)
    (hf : X.fn x = true ∨ X.env.scope.names.lookup x = some .local := by first | exact .inl rfl | exact .inr rfl | assumption) : PS X (.Assign [.Name x pos'] a pos) (trS X.K G E (sNew i F)) :=
  PS.imp (ps_set hN hi hx he hs hf) fun D' σ H ⟨ρ, ok, h⟩ => ⟨ρ, ok, by
    simp only [sNew] at h
    cases hF : F ρ with
    | bad => rw [hF] at h; exact h
    | ex x ρ1 => rw [hF] at h; exact atX.e h
    | ok ds ρ1 => rw [hF] at h; exact fun p xs H' e ok' r => h _ H' e (ok'.takeL ho r)⟩
/-- nothing is raised -/
def noEx {α : Type} (r : Res α) : Res α := match r with
  | .ex _ _ => .bad
  | r => r
theorem atE.noEx {r : Res D} {σ : L2.St} {H : Hp} {Q : VK} (h : atE X.K G E (PU.noEx r) σ H Q) (E' : XK) : atE X.K G E' r σ H Q := by
  cases r with
  | bad => exact h
  | ok d ρ => exact h
  | ex x ρ => exact (show False from h).elim
theorem atT.noEx {r : Res Bool} {σ : L2.St} {H : Hp} {Q : Bool → Hp → Prop} (h : atT X.K G E (PU.noEx r) σ H Q) (E' : XK) : atT X.K G E' r σ H Q := by
  cases r with
  | bad => exact h
  | ok d ρ => exact h
  | ex x ρ => exact (show False from h).elim
abbrev EF : XK := fun _ _ _ => False
/-- a, b = a new list to be changed, a value -/
def sParN (i j : Nat) (F : Ev (List D)) (f : Ev D) : Sv := fun ρ => ofE (F ρ) fun ds ρ1 => ofE (noEx (f ρ1)) fun d ρ2 => .nx ((ρ2.set i (.ol ds)).set j (.st d))
theorem xs_parN {i j : Nat} {x y : Str} {F : Ev (List D)} {f : Ev D} {px py pt : Pos} {kt k2 pt2} (hc : X.calm = true) (hN : X.N.Nodup) (hi : X.N[i]? = some x) (hj : X.N[j]? = some y) (hij : i ≠ j)
    (hx : X.env.scope.names.lookup x = some .local) (hy : X.env.scope.names.lookup y = some .local) (ha : PE X a (trN X.K G E F)) (hb : ∀ p o, PE X b (trE X.K (G.pr p o) EF f)) (ho : i ∉ G.ow ∧ j ∉ G.ow)
    (hw : swappedStores [.Tuple [.Name x px, .Name y py] kt pt] (.Tuple [a, b] k2 pt2) X.env = pure (some [x, y]))
    (hs : swapsWithSole [.Tuple [.Name x px, .Name y py] kt pt] (.Tuple [a, b] k2 pt2) pos.line X.env = pure false := by rfl)
    (hs1 : starEach [a, b] X.env = (false, eval a X.env) :: starEach [b] X.env := by rfl) (hs2 : starEach [b] X.env = (false, eval b X.env) :: starEach [] X.env := by rfl) :
    PS X (.Assign [.Tuple [.Name x px, .Name y py] kt pt] (.Tuple [a, b] k2 pt2) pos) (trS X.K G E (sParN i j F f)) := by
  have hb' : PE X b (fun σ H Q => ∃ p o, trE X.K (G.pr p o) EF f σ H Q) := ⟨fun pins s σ H Q I ⟨p, o, h⟩ => (hb p o).run pins s σ H Q I h⟩
  refine PS.imp (ps_par hc hN hi hj hij hx hy (pa_cons ha (pa_cons hb' pa_nil hs2) hs1) hw hs) fun D' σ H ⟨ρ, ok, h⟩ => ⟨ρ, ok, ?_⟩
  simp only [sParN] at h
  cases hF : F ρ with
  | bad => rw [hF] at h; exact h
  | ex x ρ1 => rw [hF] at h; exact atX.e h
  | ok ds ρ1 =>
    rw [hF] at h
    intro p xs H1 e1 ok1 r1
    refine ⟨p, .lst xs, ρ1, ok1, ?_⟩
    simp only [PU.ofE] at h
    cases hf : f ρ1 with
    | bad => rw [hf] at h; exact h
    | ex x ρ2 => rw [hf] at h; exact (show False from h).elim
    | ok d ρ2 =>
      rw [hf] at h
      intro u H2 e2 ok2 r2
      refine ⟨.ref p, u, rfl, h _ H2 (e1.trans e2) ?_⟩
      have q := StOk.takeL (i := i) (StOk.setSt (i := j) (G := G.pr p (.lst xs)) ok2 ho.2 r2) ho.1 (r1.ext e2)
      rw [List.set_comm _ _ (Ne.symm hij), List.set_comm _ _ (Ne.symm hij)] at q
      exact q
/-- both new -/
def sParNN (i j : Nat) (F F2 : Ev (List D)) : Sv := fun ρ => ofE (F ρ) fun ds ρ1 => ofE (noEx (F2 ρ1)) fun es ρ2 => .nx ((ρ2.set i (.ol ds)).set j (.ol es))
theorem xs_parNN {i j : Nat} {x y : Str} {F F2 : Ev (List D)} {px py pt : Pos} {kt k2 pt2} (hc : X.calm = true) (hN : X.N.Nodup) (hi : X.N[i]? = some x) (hj : X.N[j]? = some y) (hij : i ≠ j)
    (hx : X.env.scope.names.lookup x = some .local) (hy : X.env.scope.names.lookup y = some .local) (ha : PE X a (trN X.K G E F)) (hb : ∀ p o, PE X b (trN X.K (G.pr p o) EF F2)) (ho : i ∉ G.ow ∧ j ∉ G.ow)
    (hw : swappedStores [.Tuple [.Name x px, .Name y py] kt pt] (.Tuple [a, b] k2 pt2) X.env = pure (some [x, y]))
    (hs : swapsWithSole [.Tuple [.Name x px, .Name y py] kt pt] (.Tuple [a, b] k2 pt2) pos.line X.env = pure false := by rfl)
    (hs1 : starEach [a, b] X.env = (false, eval a X.env) :: starEach [b] X.env := by rfl) (hs2 : starEach [b] X.env = (false, eval b X.env) :: starEach [] X.env := by rfl) :
    PS X (.Assign [.Tuple [.Name x px, .Name y py] kt pt] (.Tuple [a, b] k2 pt2) pos) (trS X.K G E (sParNN i j F F2)) := by
  have hb' : PE X b (fun σ H Q => ∃ p o, trN X.K (G.pr p o) EF F2 σ H Q) := ⟨fun pins s σ H Q I ⟨p, o, h⟩ => (hb p o).run pins s σ H Q I h⟩
  refine PS.imp (ps_par hc hN hi hj hij hx hy (pa_cons ha (pa_cons hb' pa_nil hs2) hs1) hw hs) fun D' σ H ⟨ρ, ok, h⟩ => ⟨ρ, ok, ?_⟩
  simp only [sParNN] at h
  cases hF : F ρ with
  | bad => rw [hF] at h; exact h
  | ex x ρ1 => rw [hF] at h; exact atX.e h
  | ok ds ρ1 =>
    rw [hF] at h
    intro p xs H1 e1 ok1 r1
    refine ⟨p, .lst xs, ρ1, ok1, ?_⟩
    simp only [PU.ofE] at h
    cases hf : F2 ρ1 with
    | bad => rw [hf] at h; exact h
    | ex x ρ2 => rw [hf] at h; exact (show False from h).elim
    | ok ds2 ρ2 =>
      rw [hf] at h
      intro p2 xs2 H2 e2 ok2 r2
      refine ⟨.ref p, .ref p2, rfl, h _ H2 (e1.trans e2) ?_⟩
      have q := StOk.takeL (i := i) (StOk.takeL (i := j) (G := G.pr p (.lst xs)) ok2 ho.2 r2) ho.1 (r1.ext e2)
      rw [List.set_comm _ _ (Ne.symm hij), List.set_comm _ _ (Ne.symm hij)] at q
      exact q

/-! ### comprehensions -/
def wipeP (ρ : Ρ) : List Nat → Ρ
  | [] => ρ
  | v :: vs => (wipeP ρ vs).set v .un
def restore (ρ1 : Ρ) : List Nat → Ρ → Ρ
  | [], ρ => ρ
  | v :: vs, ρ => (restore ρ1 vs ρ).set v (svAt ρ1 v)
def stFree (ρ : Ρ) (vs : List Nat) : Bool := vs.all fun v => !(svAt ρ v).own
theorem SV.free_fp {K : PySem.W.Frag} {H : Hp} {v : Option V} {s : SV} {fp : List Addr} (h : SlotOk K H v s fp) (hs : s.own = false) : fp = [] ∧ SlotOk K H v s [] := by
  cases s with
  | un => exact ⟨h, rfl⟩
  | st d => obtain ⟨h1, h2⟩ := h; exact ⟨h1, rfl, h2⟩
  | _ => cases hs
/-- a slot forgotten, or given back -/
theorem StEx.setFree {K : PySem.W.Frag} {G : GC} {σ : L2.St} {H : Hp} {ρ : Ρ} {fp : Nat → List Addr} (x : StEx K G σ H ρ fp) {i : Nat} (hi : i ∉ G.ow) {o : Option V} {s : SV} (hs : SlotOk K H o s []) : StEx K G (σ.set i o) H (ρ.set i s) (fun j => if j = i then [] else fp j) := by
  refine ⟨by simp [x.len], fun j hj => ?_, fun j l b hj hl ne hb => ?_, fun j b hj hb => ?_, fun j hj => ?_, fun p hp => ?_, x.notbl, x.nd⟩
  · rw [List.length_set] at hj
    rw [vAt_set, svAt_set]
    by_cases e : i = j
    · subst e
      rw [if_pos ⟨rfl, by rw [x.len]; exact hj⟩, if_pos ⟨rfl, hj⟩, if_pos rfl]
      exact hs
    · rw [if_neg fun z => e z.1, if_neg fun z => e z.1, if_neg fun z => e z.symm]
      exact x.slot j hj
  · rw [List.length_set] at hj hl
    by_cases e : j = i
    · rw [if_pos e] at hb; cases hb
    · rw [if_neg e] at hb
      by_cases e2 : l = i
      · rw [if_pos e2]; exact fun z => nomatch z
      · rw [if_neg e2]; exact x.sep j l b hj hl ne hb
  · rw [List.length_set] at hj
    by_cases e : j = i
    · rw [if_pos e] at hb; cases hb
    · rw [if_neg e] at hb; exact x.own j b hj hb
  · obtain ⟨h1, h2, h3⟩ := x.pin j hj
    have ne : j ≠ i := fun z => hi (z ▸ hj)
    exact ⟨by rw [List.length_set]; exact h1, by rw [vAt_set, if_neg fun z => ne z.1.symm]; exact h2, by rw [if_neg ne]; exact h3⟩
  · obtain ⟨h1, h2, h3⟩ := x.prot p hp
    refine ⟨h1, h2, fun j hj => ?_⟩
    rw [List.length_set] at hj
    by_cases e : j = i
    · rw [if_pos e]; exact fun z => nomatch z
    · rw [if_neg e]; exact h3 j hj
theorem StOk.wipe {K : PySem.W.Frag} {G : GC} {σ : L2.St} {H : Hp} {ρ : Ρ} : ∀ (vs : List Nat), (∀ v ∈ vs, v ∉ G.ow) → StOk K G σ H ρ → StOk K G (L2.wipe σ vs) H (wipeP ρ vs)
  | [], _, h => h
  | v :: vs, ho, h => by
    obtain ⟨⟨fp, x⟩, k, t⟩ := StOk.wipe vs (fun u hu => ho u (List.mem_cons_of_mem _ hu)) h
    exact ⟨⟨_, x.setFree (ho v List.mem_cons_self) rfl⟩, k, t⟩
theorem StOk.restore {K : PySem.W.Frag} {G : GC} {σ : L2.St} {H : Hp} {ρ1 ρ : Ρ} (vs : List Nat) (ho : ∀ v ∈ vs, v ∉ G.ow) (h : StOk K G (L2.wipe σ vs) H ρ) (hs : ∀ v ∈ vs, SlotOk K H (vAt σ v) (svAt ρ1 v) []) : StOk K G σ H (restore ρ1 vs ρ) := by
  have key : ∀ (ws : List Nat), (∀ v ∈ ws, v ∈ vs) → ∃ σ', StOk K G σ' H (PU.restore ρ1 ws ρ) ∧ ∀ j, vAt σ' j = if j ∈ ws ∧ j < σ.length then vAt σ j else vAt (L2.wipe σ vs) j := by
    intro ws
    induction ws with
    | nil => intro _; exact ⟨_, h, fun j => by simp⟩
    | cons v ws ih =>
      intro hm
      obtain ⟨σ', ⟨⟨fp, x⟩, k, t⟩, e⟩ := ih fun u hu => hm u (List.mem_cons_of_mem _ hu)
      have hv := hm v List.mem_cons_self
      have hlen : σ'.length = σ.length := by
        rw [x.len]
        have : ∀ ws : List Nat, (PU.restore ρ1 ws ρ).length = ρ.length := fun ws => by
          induction ws with
          | nil => rfl
          | cons v ws ih => simp only [PU.restore, List.length_set, ih]
        rw [this, ← h.len, wipe_length]
      refine ⟨σ'.set v (vAt σ v), ⟨⟨_, x.setFree (ho v hv) (hs v hv)⟩, k, t⟩, fun j => ?_⟩
      rw [vAt_set, e j, hlen]
      by_cases q : v = j
      · subst q
        by_cases l : v < σ.length
        · simp [l]
        · simp [l]
      · simp [q, Ne.symm q]
  obtain ⟨σ', ok, e⟩ := key vs fun _ h => h
  have hl : σ'.length = σ.length := by
    rw [ok.len]
    have : ∀ ws : List Nat, (PU.restore ρ1 ws ρ).length = ρ.length := fun ws => by
      induction ws with
      | nil => rfl
      | cons v ws ih => simp only [PU.restore, List.length_set, ih]
    rw [this, ← h.len, wipe_length]
  have out : ∀ (ws : List Nat) (j : Nat), j ∉ ws → vAt (L2.wipe σ ws) j = vAt σ j := by
    intro ws
    induction ws with
    | nil => intro j _; rfl
    | cons v ws ih =>
      intro j hj
      rw [List.mem_cons, not_or] at hj
      show vAt ((L2.wipe σ ws).set v none) j = _
      rw [vAt_set, if_neg fun z => hj.1 z.1.symm]
      exact ih j hj.2
  have : σ' = σ := by
    refine List.ext_getElem hl fun j h1 h2 => ?_
    have q := e j
    have a1 : vAt σ' j = σ'[j] := by unfold vAt; simp [List.getD_eq_getElem?_getD, h1]
    have a2 : vAt σ j = σ[j] := by unfold vAt; simp [List.getD_eq_getElem?_getD, h2]
    rw [a1] at q
    by_cases hj : j ∈ vs
    · rw [if_pos ⟨hj, h2⟩, a2] at q; exact q
    · rw [if_neg fun z => hj z.1, out vs j hj, a2] at q; exact q
  rw [← this]; exact ok
theorem wipe_set {σ : L2.St} {i : Nat} {o : Option V} : ∀ {vs : List Nat}, i ∈ vs → L2.wipe (σ.set i o) vs = L2.wipe σ vs
  | v :: vs, h => by
    show (L2.wipe (σ.set i o) vs).set v none = (L2.wipe σ vs).set v none
    by_cases hm : i ∈ vs
    · rw [wipe_set hm]
    · have e : i = v := by
        rcases List.mem_cons.mp h with z | z
        · exact z
        · exact absurd z hm
      subst e
      have : ∀ ws : List Nat, i ∉ ws → L2.wipe (σ.set i o) ws = (L2.wipe σ ws).set i o := by
        intro ws
        induction ws with
        | nil => intro _; rfl
        | cons u ws ih =>
          intro hu
          rw [List.mem_cons, not_or] at hu
          show (L2.wipe (σ.set i o) ws).set u none = ((L2.wipe σ ws).set u none).set i o
          rw [ih hu.2, List.set_comm _ _ hu.1]
      rw [this vs hm, List.set_set]

/-- a comprehension's target, by what it stores -/
def TgC (g : TG) (T : D → Ρ → Option Ρ) (vs : List Nat) : Prop :=
  ∀ (K : PySem.W.Frag) (G : GC) (d : D) (ρ ρ' : Ρ) (v : V) (σ : L2.St) (H : Hp) (Q : L2.St → Hp → Prop), (∀ i ∈ vs, i ∉ G.ow) → T d ρ = some ρ' → StOk K G σ H ρ → Rp K H v d → (∀ σ', StOk K G σ' H ρ' → L2.wipe σ' vs = L2.wipe σ vs → Q σ' H) → g v σ H Q
theorem tgc_name {i : Nat} {vs : List Nat} (hi : i ∈ vs) : TgC (gName i) (tgN i) vs := fun K G d ρ ρ' v σ H Q ho e ok r q => by
  cases e
  exact q _ (ok.setSt (ho i hi) r) (wipe_set hi)
theorem gAllC_ok {K : PySem.W.Frag} {G : GC} {ws : List Nat} : ∀ (is : List Nat) (ds : List D) (ρ : Ρ) (vs : List V) (σ : L2.St) (H : Hp) (Q : L2.St → Hp → Prop), (∀ i ∈ is, i ∈ ws) → (∀ i ∈ ws, i ∉ G.ow) → ds.length = is.length → StOk K G σ H ρ → RpL K H vs ds → (∀ σ', StOk K G σ' H (setAll ρ is ds) → L2.wipe σ' ws = L2.wipe σ ws → Q σ' H) → gAll is vs σ H Q
  | [], [], ρ, vs, σ, H, Q, _, _, _, ok, r, q => by cases r; exact ⟨rfl, q _ ok rfl⟩
  | i :: is, d :: ds, ρ, vs, σ, H, Q, hs, ho, hl, ok, r, q => by
    cases r with
    | cons r1 r2 => exact ⟨_, _, rfl, gAllC_ok is ds _ _ _ H Q (fun j hj => hs j (List.mem_cons_of_mem _ hj)) ho (by simpa using hl) (ok.setSt (ho i (hs i List.mem_cons_self)) r1) r2 fun σ' ok' e => q σ' ok' (e.trans (wipe_set (hs i List.mem_cons_self)))⟩
  | [], _ :: _, _, _, _, _, _, _, _, hl, _, _, _ => by simp at hl
  | _ :: _, [], _, _, _, _, _, _, _, hl, _, _, _ => by simp at hl
theorem tgc_tup {is vs : List Nat} (hi : ∀ i ∈ is, i ∈ vs) {K0 : PySem.W.Frag} : ∀ (K : PySem.W.Frag) (G : GC) (d : D) (ρ ρ' : Ρ) (v : V) (σ : L2.St) (H : Hp) (Q : L2.St → Hp → Prop), (∀ i ∈ vs, i ∉ G.ow) → tgT is d ρ = some ρ' → StOk K G σ H ρ → Rp K H v d → (∀ σ', StOk K G σ' H ρ' → L2.wipe σ' vs = L2.wipe σ vs → Q σ' H) → gTup K is.length (gAll is) v σ H Q := fun K G d ρ ρ' v σ H Q ho e ok r q => by
  cases d with
  | tup ds =>
    simp only [tgT] at e
    split at e
    · rename_i hl
      cases e
      cases r with
      | tup h1 h2 => exact ⟨_, _, rfl, .of h1, by rw [h2.length]; exact hl, gAllC_ok is ds ρ _ σ H Q hi ho hl ok h2 q⟩
    · cases e
  | _ => cases e
/-- for the written part at hand -/
def TgK (K : PySem.W.Frag) (g : TG) (T : D → Ρ → Option Ρ) (vs : List Nat) : Prop :=
  ∀ (G : GC) (d : D) (ρ ρ' : Ρ) (v : V) (σ : L2.St) (H : Hp) (Q : L2.St → Hp → Prop), (∀ i ∈ vs, i ∉ G.ow) → T d ρ = some ρ' → StOk K G σ H ρ → Rp K H v d → (∀ σ', StOk K G σ' H ρ' → L2.wipe σ' vs = L2.wipe σ vs → Q σ' H) → g v σ H Q
theorem tgk_name {K : PySem.W.Frag} {i : Nat} {vs : List Nat} (hi : i ∈ vs) : TgK K (gName i) (tgN i) vs := fun G => tgc_name hi K G
theorem tgk_tup {K : PySem.W.Frag} {is vs : List Nat} (hi : ∀ i ∈ is, i ∈ vs) : TgK K (gTup K is.length (gAll is)) (tgT is) vs := fun G => tgc_tup (K0 := K) hi K G
/-- one turn: skipped, or an element -/
def lcStep (T : D → Ρ → Option Ρ) (tt : Ev Bool) (te : Ev D) (vs : List Nat) (d : D) (ρ : Ρ) : Res (Option D) := match T d ρ with
  | none => .bad
  | some ρ1 => (noEx (tt ρ1)).bind fun b ρ2 => if b = true then (noEx (te ρ2)).bind fun e ρ3 => .ok (some e) (wipeP ρ3 vs) else .ok none (wipeP ρ2 vs)
def lcL (f : D → Ρ → Res (Option D)) : List D → Ρ → List D → Res (List D)
  | [], ρ, acc => .ok acc ρ
  | d :: ds, ρ, acc => (f d ρ).bind fun o ρ1 => match o with
    | none => lcL f ds ρ1 acc
    | some e => if acc.length < sizeLine then lcL f ds ρ1 (acc ++ [e]) else .bad
def nLc (I : Ev (List D)) (T : D → Ρ → Option Ρ) (tt : Ev Bool) (te : Ev D) (vs : List Nat) : Ev (List D) := fun ρ => (I ρ).bind fun ds ρ1 => if stFree ρ1 vs = true then (lcL (lcStep T tt te vs) ds (wipeP ρ1 vs) []).bind fun acc ρ2 => .ok acc (restore ρ1 vs ρ2) else .bad
theorem tLc_of {I : Ev (List D)} {g : TG} {T : D → Ρ → Option Ρ} {tt : Ev Bool} {te : Ev D} {vs : List Nat} {σ : L2.St} {H : Hp} {Q : VK} (hT : TgK X.K g T vs) (ho : ∀ i ∈ vs, i ∉ G.ow) (h : trN X.K G E (nLc I T tt te vs) σ H Q) :
    tLc (trI X.K G E I) g (fun σ H Q => ∃ p o, trT X.K (G.pr p o) EF tt σ H Q) (fun σ H Q => ∃ p o, trE X.K (G.pr p o) EF te σ H Q) vs σ H Q := by
  obtain ⟨ρ, ok, h⟩ := h
  refine ⟨ρ, ok, ?_⟩
  simp only [nLc] at h
  cases hI : I ρ with
  | bad => rw [hI] at h; exact h
  | ex x ρ1 => rw [hI] at h; exact h
  | ok ds ρ1 =>
    rw [hI] at h
    intro J H1 e1 ok1 y D hD
    simp only [Res.bind] at h
    split at h
    · rename_i hfree
      have hsl : ∀ v ∈ vs, SlotOk X.K H1 (vAt σ v) (svAt ρ1 v) [] := fun v hv => by
        have hf : (svAt ρ1 v).own = false := by
          have := List.all_eq_true.mp hfree v hv
          simpa using this
        by_cases hl : v < ρ1.length
        · obtain ⟨⟨fp, x⟩, _, _⟩ := ok1
          exact (SV.free_fp (x.slot v hl) hf).2
        · have : svAt ρ1 v = .un := by unfold svAt; simp [List.getD_eq_getElem?_getD, List.getElem?_eq_none (by omega : ρ1.length ≤ v)]
          rw [this]; rfl
      have okw := ok1.wipe vs ho
      refine ⟨fun i m H2 => m = ds.length - i ∧ i ≤ ds.length ∧ Ext H1 H2 ∧ ∃ ρ2 acc xs, StOk X.K (G.pr D (.lst xs)) (L2.wipe σ vs) H2 ρ2 ∧ RpL X.K H2 xs acc ∧ ∃ acc' ρ3, lcL (lcStep T tt te vs) (ds.drop i) ρ2 acc = .ok acc' ρ3 ∧
        ∀ H3 xs', Ext H2 H3 → StOk X.K (G.pr D (.lst xs')) (L2.wipe σ vs) H3 ρ3 → RpL X.K H3 xs' acc' → Q (.ref D) H3, ⟨ds.length, by simp, Nat.zero_le _, .of (same_upd hD), wipeP ρ1 vs, [], [], okw.guard hD, .nil, ?_⟩, ?_⟩
      · cases hL : lcL (lcStep T tt te vs) ds (wipeP ρ1 vs) [] with
        | bad => rw [hL] at h; exact h.elim
        | ex x ρ3 =>
          exfalso
          have nox : ∀ (ds : List PU.D) (ρ : Ρ) (acc : List PU.D), lcL (lcStep T tt te vs) ds ρ acc ≠ .ex x ρ3 := by
            intro ds
            induction ds with
            | nil => intro ρ acc z; cases z
            | cons d ds ih =>
              intro ρ acc z
              simp only [lcL] at z
              have st : ∀ x' ρ', lcStep T tt te vs d ρ ≠ .ex x' ρ' := by
                intro x' ρ' z2
                simp only [lcStep] at z2
                split at z2
                · cases z2
                · rename_i ρ4 _
                  cases htt : tt ρ4 with
                  | bad => rw [htt] at z2; cases z2
                  | ex _ _ => rw [htt] at z2; cases z2
                  | ok b ρ5 =>
                    rw [htt] at z2
                    simp only [noEx, Res.bind] at z2
                    split at z2
                    · cases hte : te ρ5 with
                      | bad => rw [hte] at z2; cases z2
                      | ex _ _ => rw [hte] at z2; cases z2
                      | ok _ _ => rw [hte] at z2; cases z2
                    · cases z2
              cases hs : lcStep T tt te vs d ρ with
              | bad => rw [hs] at z; cases z
              | ex x' ρ' => exact st _ _ hs
              | ok o ρ' =>
                rw [hs] at z
                simp only [Res.bind] at z
                cases o with
                | none => exact ih _ _ z
                | some e =>
                  simp only at z
                  split at z
                  · exact ih _ _ z
                  · cases z
          exact nox _ _ _ hL
        | ok acc' ρ3 =>
          rw [hL] at h
          refine ⟨acc', ρ3, by rw [List.drop_zero]; exact hL, fun H3 xs' e3 ok3 r3 => ?_⟩
          have eA : Ext H1 H3 := (Ext.of (same_upd hD)).trans e3
          have okR := StOk.restore (G := G.pr D (.lst xs')) (ρ1 := ρ1) vs ho ok3 fun v hv => (hsl v hv).keep eA fun b hb => nomatch hb
          exact h D xs' H3 (e1.trans eA) okR r3
      · rintro i m H2 ⟨rfl, hi, e2, ρ2, acc, xs, ok2, r2, acc', ρ3, hL, fin⟩
        by_cases hlt : i < ds.length
        · refine .inr ⟨y.go i H2 e2 hlt, fun H' => i + 1 ≤ ds.length ∧ Ext H1 H' ∧ ∃ ρ2 acc xs, StOk X.K (G.pr D (.lst xs)) (L2.wipe σ vs) H' ρ2 ∧ RpL X.K H' xs acc ∧ ∃ acc' ρ3, lcL (lcStep T tt te vs) (ds.drop (i + 1)) ρ2 acc = .ok acc' ρ3 ∧
            ∀ H3 xs', Ext H' H3 → StOk X.K (G.pr D (.lst xs')) (L2.wipe σ vs) H3 ρ3 → RpL X.K H3 xs' acc' → Q (.ref D) H3, fun H' hN => ⟨_, by omega, rfl, hN⟩, fun x H3 hy => ?_⟩
          obtain ⟨s3, d, hd, rd⟩ := y.yld i H2 x H3 e2 hlt hy
          have ed : ds.drop i = d :: ds.drop (i + 1) := by
            obtain ⟨hl, e⟩ := List.getElem?_eq_some_iff.mp hd
            rw [← e]; exact List.drop_eq_getElem_cons hl
          rw [ed] at hL
          simp only [lcL] at hL
          have okw3 := ok2.same s3
          have ww : L2.wipe (L2.wipe σ vs) vs = L2.wipe σ vs := by
            have : ∀ (ws us : List Nat), (∀ w ∈ ws, w ∈ us) → L2.wipe (L2.wipe σ us) ws = L2.wipe σ us := by
              intro ws
              induction ws with
              | nil => intro _ _; rfl
              | cons w ws ih =>
                intro us hm
                show (L2.wipe (L2.wipe σ us) ws).set w none = _
                rw [ih us fun u hu => hm u (List.mem_cons_of_mem _ hu)]
                have : ∀ us : List Nat, w ∈ us → (L2.wipe σ us).set w none = L2.wipe σ us := by
                  intro us
                  induction us with
                  | nil => intro h; cases h
                  | cons u us ih =>
                    intro h
                    show ((L2.wipe σ us).set u none).set w none = (L2.wipe σ us).set u none
                    by_cases e : w = u
                    · subst e; rw [List.set_set]
                    · rcases List.mem_cons.mp h with z | z
                      · exact absurd z e
                      · rw [List.set_comm _ _ (Ne.symm e), ih z]
                exact this us (hm w List.mem_cons_self)
            exact this vs vs fun _ h => h
          cases hTd : T d ρ2 with
          | none => simp only [lcStep, hTd, Res.bind] at hL; cases hL
          | some ρ4 =>
            refine hT (G.pr D (.lst xs)) d _ ρ4 x _ H3 _ ho hTd okw3 rd fun σ5 ok5 w5 => ⟨w5.trans ww, D, .lst xs, ρ4, ok5, ?_⟩
            simp only [lcStep, hTd] at hL
            cases htt : tt ρ4 with
            | bad => rw [htt] at hL; cases hL
            | ex _ _ => rw [htt] at hL; cases hL
            | ok b ρ6 =>
              rw [htt] at hL
              simp only [noEx, Res.bind] at hL
              intro H6 e6 ok6
              have eD := ok6.prAt
              have okB : ∀ {H : Hp} {xs : List V} {ρ : Ρ}, StOk X.K (G.pr D (.lst xs)) σ5 H ρ → StOk X.K (G.pr D (.lst xs)) (L2.wipe σ vs) H (wipeP ρ vs) := fun {H xs ρ} ok => by
                have := StOk.wipe (G := G.pr D (.lst xs)) vs ho ok
                rw [w5, ww] at this; exact this
              cases b with
              | true =>
                simp only [if_true] at hL ⊢
                cases hte : te ρ6 with
                | bad => rw [hte] at hL; cases hL
                | ex _ _ => rw [hte] at hL; cases hL
                | ok el ρ7 =>
                  rw [hte] at hL
                  simp only [noEx, Res.bind] at hL
                  refine ⟨D, .lst xs, ρ6, ok6, ?_⟩
                  rw [hte]
                  intro v7 H7 e7 ok7 r7
                  split at hL
                  · rename_i hz
                    have rr : RpL X.K H7 xs acc := r2.ext ((Ext.of s3).trans (e6.trans e7))
                    obtain ⟨ok8, e8⟩ := ok7.regard (o' := .lst (xs ++ [v7])) rfl (fun ps z => by cases z)
                    refine ⟨xs, ok7.prAt, by rw [rr.length]; exact hz, hlt, (((e2.trans (Ext.of s3)).trans (e6.trans e7)).trans e8), wipeP ρ7 vs, acc ++ [el], xs ++ [v7], okB ok8, (rr.append (.cons r7 .nil)).ext e8, acc', ρ3, hL, fun H9 xs' e9 ok9 r9 => ?_⟩
                    exact fin H9 xs' ((((Ext.of s3).trans (e6.trans e7)).trans e8).trans e9) ok9 r9
                  · cases hL
              | false =>
                simp only [Bool.false_eq_true, if_false] at hL ⊢
                refine ⟨hlt, (e2.trans (Ext.of s3)).trans e6, wipeP ρ6 vs, acc, xs, okB ok6, r2.ext ((Ext.of s3).trans e6), acc', ρ3, hL, fun H9 xs' e9 ok9 r9 => ?_⟩
                exact fin H9 xs' (((Ext.of s3).trans e6).trans e9) ok9 r9
        · have e : i = ds.length := by omega
          subst e
          rw [List.drop_length] at hL
          cases hL
          exact .inl ⟨y.stop _ H2 e2 rfl, fin H2 xs (.refl _) ok2 r2⟩
    · exact h.elim

def tYesF : Ev Bool := fun ρ => .ok true ρ
theorem PTs.imp {ifs : List Expr} {t t' : TT} (h : PTs X ifs t) (w : ∀ σ H Q, t' σ H Q → t σ H Q) : PTs X ifs t' := ⟨fun pins s σ H Q I q => h.run pins s σ H Q I (w σ H Q q)⟩
variable {elt tg iter : Expr} {scope : Scope} {own : List (Str × Nat)} {I : Ev (List D)} {g : TG} {T : D → Ρ → Option Ρ} {tt : Ev Bool} {te : Ev D}
theorem pts_yes : PTs X [] (fun σ H Q => ∃ p o, trT X.K (G.pr p o) EF tYesF σ H Q) := PTs.imp pts_nil fun σ H Q ⟨p, o, ρ, ok, h⟩ => h H (.refl _) ok
theorem xn_lc0 (hc : X.calm = true) (hN : X.N.Nodup) (hi : PI X tg iter (trI X.K G E I)) (ok : BlkOk X.N X.env.scope scope own)
    (hg : ∀ (s : Shared) (H : Hp) (C : Addr) (cl : List (Str × Addr)) (fp : List Addr), PG (X.blk s H scope (compEnvC scope cl C X.env) fp) tg g) (hT : TgK X.K g T (own.map (·.2))) (ho : ∀ i ∈ own.map (·.2), i ∉ G.ow)
    (he : ∀ (p : Addr) (o : HO) (s : Shared) (H : Hp) (C : Addr) (cl : List (Str × Addr)) (fp : List Addr), PE (X.blk s H scope (compEnvC scope cl C X.env) fp) elt (trE X.K (G.pr p o) EF te)) (hs : ∀ x, foldedSetIterable iter X.env x = pure x := by intro _; rfl) :
    PE X (.ListComp elt [⟨tg, iter, [], 0⟩] scope pos) (trN X.K G E (nLc I T tYesF te (own.map (·.2)))) :=
  PE.imp (pe_lc hc hN hi ok hg (fun s H C cl fp => pts_yes (X := X.blk s H scope (compEnvC scope cl C X.env) fp) (G := G)) (fun s H C cl fp => ⟨fun pins s' σ H' Q I ⟨p, o, h⟩ => (he p o s H C cl fp).run pins s' σ H' Q I h⟩) hs) fun σ H Q h => tLc_of hT ho h
theorem xn_lc1 {cnd : Expr} (hc : X.calm = true) (hN : X.N.Nodup) (hi : PI X tg iter (trI X.K G E I)) (ok : BlkOk X.N X.env.scope scope own)
    (hg : ∀ (s : Shared) (H : Hp) (C : Addr) (cl : List (Str × Addr)) (fp : List Addr), PG (X.blk s H scope (compEnvC scope cl C X.env) fp) tg g) (hT : TgK X.K g T (own.map (·.2))) (ho : ∀ i ∈ own.map (·.2), i ∉ G.ow)
    (ht : ∀ (p : Addr) (o : HO) (s : Shared) (H : Hp) (C : Addr) (cl : List (Str × Addr)) (fp : List Addr), PT (X.blk s H scope (compEnvC scope cl C X.env) fp) cnd (trT X.K (G.pr p o) EF tt))
    (he : ∀ (p : Addr) (o : HO) (s : Shared) (H : Hp) (C : Addr) (cl : List (Str × Addr)) (fp : List Addr), PE (X.blk s H scope (compEnvC scope cl C X.env) fp) elt (trE X.K (G.pr p o) EF te)) (hs : ∀ x, foldedSetIterable iter X.env x = pure x := by intro _; rfl) :
    PE X (.ListComp elt [⟨tg, iter, [cnd], 0⟩] scope pos) (trN X.K G E (nLc I T tt te (own.map (·.2)))) :=
  PE.imp (pe_lc hc hN hi ok hg (fun s H C cl fp => pts_one ⟨fun pins s' σ H' Q I ⟨p, o, h⟩ => (ht p o s H C cl fp).run pins s' σ H' Q I h⟩) (fun s H C cl fp => ⟨fun pins s' σ H' Q I ⟨p, o, h⟩ => (he p o s H C cl fp).run pins s' σ H' Q I h⟩) hs) fun σ H Q h => tLc_of hT ho h
/-- behind a statement: the list in slot i is known from now on -/
def FzN (i : Nat) (N : L2.St → Hp → Prop) : L2.St → Hp → Prop := fun σ H => ∃ a xs, σ[i]? = some (some (.ref a)) ∧ H a = some (.lst xs) ∧ ∀ o, N σ (upd H a (.frz o (.lst xs)))
theorem PS.fz {i : Nat} {t : TS} (h : PS X st t) : PS X st (fun D' σ H => t { D' with nx := FzN i D'.nx } σ H) := by
  refine ⟨fun pins s σ H D' I q => thn (h.run pins s σ H _ I q) fun f s1 z => ?_⟩
  cases f with
  | next =>
    obtain ⟨σ', H', I', a, xs, e1, e2, q'⟩ := z
    obtain ⟨_, its, n, r, e⟩ := (show ObjOk X.prog X.w H' s1.heap a (.lst xs) from I'.hok a _ e2)
    exact ⟨σ', _, I'.freeze e2 trivial e, q' _⟩
  | ret v => exact z
  | brk => exact z
  | cont => exact z
theorem PS.imp2 {t t' : TS} (h : PS X st t) (w : ∀ D σ H, σ.length = X.N.length → t' D σ H → t D σ H) : PS X st t' := ⟨fun pins s σ H D I q => h.run pins s σ H D I (w D σ H I.len q)⟩
theorem setLc_end {i : Nat} {F : Ev (List D)} {D' : Ends} {σ : L2.St} {H : Hp} {ρ : Ρ} (hl : i < X.N.length) (hσ : σ.length = X.N.length) (hoi : i ∉ G.ow) (h : atS X.K G E (sSet i (eFz F) ρ) D' σ H) :
    atN X.K G E (F ρ) σ H fun x H1 => gName i x σ H1 (FzN i D'.nx) := by
  simp only [sSet, eFz] at h
  cases hF : F ρ with
  | bad => rw [hF] at h; exact h
  | ex x ρ1 => rw [hF] at h; exact atX.e h
  | ok ds ρ1 =>
    rw [hF] at h
    intro p xs H' e ok' r
    refine ⟨p, xs, by simp [hσ, hl], ok'.prAt, fun o => ?_⟩
    obtain ⟨ok2, ex⟩ := ok'.regard (o' := .frz o (.lst xs)) rfl (fun ps z => by cases z)
    exact h _ _ (e.trans ex) (ok2.unpr.setSt hoi (.lst upd_same (r.ext ex)))
theorem xs_setLc0 {i : Nat} {y : Str} {py spos : Pos} (hc : X.calm = true) (hN : X.N.Nodup) (hy : X.N[i]? = some y) (hyl : X.env.scope.names.lookup y = some .local) (hoi : i ∉ G.ow) (hsw : swapsWith (.ListComp elt [⟨tg, iter, [], 0⟩] scope pos) (some (.Name y py)) spos.line X.env = pure true)
    (hi : PI X tg iter (trI X.K G E I)) (ok : BlkOk X.N X.env.scope scope own)
    (hg : ∀ (s : Shared) (H : Hp) (C : Addr) (cl : List (Str × Addr)) (fp : List Addr), PG (X.blk s H scope (compEnvC scope cl C X.env) fp) tg g) (hT : TgK X.K g T (own.map (·.2))) (ho : ∀ i ∈ own.map (·.2), i ∉ G.ow)
    (he : ∀ (p : Addr) (o : HO) (s : Shared) (H : Hp) (C : Addr) (cl : List (Str × Addr)) (fp : List Addr), PE (X.blk s H scope (compEnvC scope cl C X.env) fp) elt (trE X.K (G.pr p o) EF te)) (hs : ∀ x, foldedSetIterable iter X.env x = pure x := by intro _; rfl) :
    PS X (.Assign [.Name y py] (.ListComp elt [⟨tg, iter, [], 0⟩] scope pos) spos) (trS X.K G E (sSet i (eFz (nLc I T tYesF te (own.map (·.2)))))) := by
  refine PS.imp2 (PS.fz (i := i) (ps_setLc hc hN hy hyl hsw hi ok hg (fun s H C cl fp => pts_yes (X := X.blk s H scope (compEnvC scope cl C X.env) fp) (G := G)) (fun s H C cl fp => ⟨fun pins s' σ H' Q I ⟨p, o, h⟩ => (he p o s H C cl fp).run pins s' σ H' Q I h⟩) hs)) fun D' σ H hl ⟨ρ, ok, h⟩ => tLc_of (E := E) hT ho ⟨ρ, ok, setLc_end (List.getElem?_eq_some_iff.mp hy).1 hl hoi h⟩
theorem xs_setLc1 {cnd : Expr} {i : Nat} {y : Str} {py spos : Pos} (hc : X.calm = true) (hN : X.N.Nodup) (hy : X.N[i]? = some y) (hyl : X.env.scope.names.lookup y = some .local) (hoi : i ∉ G.ow) (hsw : swapsWith (.ListComp elt [⟨tg, iter, [cnd], 0⟩] scope pos) (some (.Name y py)) spos.line X.env = pure true)
    (hi : PI X tg iter (trI X.K G E I)) (ok : BlkOk X.N X.env.scope scope own)
    (hg : ∀ (s : Shared) (H : Hp) (C : Addr) (cl : List (Str × Addr)) (fp : List Addr), PG (X.blk s H scope (compEnvC scope cl C X.env) fp) tg g) (hT : TgK X.K g T (own.map (·.2))) (ho : ∀ i ∈ own.map (·.2), i ∉ G.ow)
    (ht : ∀ (p : Addr) (o : HO) (s : Shared) (H : Hp) (C : Addr) (cl : List (Str × Addr)) (fp : List Addr), PT (X.blk s H scope (compEnvC scope cl C X.env) fp) cnd (trT X.K (G.pr p o) EF tt))
    (he : ∀ (p : Addr) (o : HO) (s : Shared) (H : Hp) (C : Addr) (cl : List (Str × Addr)) (fp : List Addr), PE (X.blk s H scope (compEnvC scope cl C X.env) fp) elt (trE X.K (G.pr p o) EF te)) (hs : ∀ x, foldedSetIterable iter X.env x = pure x := by intro _; rfl) :
    PS X (.Assign [.Name y py] (.ListComp elt [⟨tg, iter, [cnd], 0⟩] scope pos) spos) (trS X.K G E (sSet i (eFz (nLc I T tt te (own.map (·.2)))))) := by
  refine PS.imp2 (PS.fz (i := i) (ps_setLc hc hN hy hyl hsw hi ok hg (fun s H C cl fp => pts_one ⟨fun pins s' σ H' Q I ⟨p, o, h⟩ => (ht p o s H C cl fp).run pins s' σ H' Q I h⟩) (fun s H C cl fp => ⟨fun pins s' σ H' Q I ⟨p, o, h⟩ => (he p o s H C cl fp).run pins s' σ H' Q I h⟩) hs)) fun D' σ H hl ⟨ρ, ok, h⟩ => tLc_of (E := E) hT ho ⟨ρ, ok, setLc_end (List.getElem?_eq_some_iff.mp hy).1 hl hoi h⟩
end
end PU
namespace PU
open PySem PySem.Spec PyProof.Rows L2

/-! ### defs -/
/-- what a def makes of its parameters: a value, or an exception; the parameters that it changes -/
abbrev Fn := List SV → Res D
def cellsOf (ow : List Nat) (fp : Nat → List Addr) : List Addr := ow.flatMap fp
structure ArgOk (K : PySem.W.Frag) (H : Hp) (n : Nat) (ow : List Nat) (vs : List V) (ss : List SV) (fp : Nat → List Addr) : Prop where
  lv : vs.length = n
  ls : ss.length = n
  slot : ∀ i, i < n → SlotOk K H vs[i]? (svAt ss i) (fp i)
  sep : ∀ i j b, i < n → j < n → i ≠ j → b ∈ fp i → b ∉ fp j
  st : ∀ i, i < n → i ∉ ow → (svAt ss i).own = false
  ow : ∀ i ∈ ow, i < n
/-- the promise of a def that computes f of n parameters, those at ow changed -/
def spF (K : PySem.W.Frag) (T : List (Addr × Str)) (n : Nat) (ow : List Nat) (f : Fn) : Sp := fun vs H Q E => ∃ (ss : List SV) (fp : Nat → List Addr), ArgOk K H n ow vs ss fp ∧ LamX.Tabs T H ∧ match f ss with
  | .bad => False
  | .ok d ss' => ∀ v H', Ext H H' → Keep (cellsOf ow fp) H H' → LamX.Tabs T H' → (∀ i ∈ ow, SlotOk K H' vs[i]? (svAt ss' i) (fp i)) → Rp K H' v d → Q v H'
  | .ex x ss' => ∀ dx H', Ext H H' → Keep (cellsOf ow fp) H H' → LamX.Tabs T H' → (∀ i ∈ ow, SlotOk K H' vs[i]? (svAt ss' i) (fp i)) → XnOk K H' dx x → E (.ref x.C) dx H'
/-- the body's run on the parameters -/
def runDef (N : Nat) (B : Sv) : Fn := fun ss => match B (ss ++ List.replicate (N - ss.length) .un) with
  | .rt d ρ => .ok d ρ
  | .nx ρ => .ok .non ρ
  | .ex x ρ => .ex x ρ
  | _ => .bad
section
variable {P : Program} {w : World} {K : PySem.W.Frag} {mg : Str → Option Value} {base : Heap}
def gcOf (T : List (Addr × Str)) (H : Hp) (ow : List Nat) (vs : List V) (fp : Nat → List Addr) : GC := { T := T, H0 := H, Z := cellsOf ow fp, ow := ow, pinV := fun i => vs.getD i .non, pinF := fp, prot := [] }
theorem start_ok {T : List (Addr × Str)} {H : Hp} {n : Nat} {ow : List Nat} {vs : List V} {ss : List SV} {fp : Nat → List Addr} {N : List Str} (a : ArgOk K H n ow vs ss fp) (t : LamX.Tabs T H) (hn : n ≤ N.length) :
    StOk K (gcOf T H ow vs fp) (L2.start N vs) H (ss ++ List.replicate (N.length - ss.length) .un) := by
  have e1 : ∀ i, vAt (L2.start N vs) i = vs[i]? := fun i => by
    unfold vAt L2.start
    rw [List.getD_eq_getElem?_getD]
    by_cases hi : i < vs.length
    · rw [List.getElem?_append_left (by simpa using hi)]; simp [hi]
    · rw [List.getElem?_append_right (by simp; omega), List.getElem?_eq_none (by omega : vs.length ≤ i)]
      by_cases h2 : i - vs.length < N.length - vs.length
      · simp [List.getElem?_replicate, h2]
      · simp [List.getElem?_replicate, h2]
  have e2 : ∀ i, svAt (ss ++ List.replicate (N.length - ss.length) .un) i = svAt ss i := fun i => by
    unfold svAt
    rw [List.getD_eq_getElem?_getD, List.getD_eq_getElem?_getD]
    by_cases hi : i < ss.length
    · rw [List.getElem?_append_left hi]
    · rw [List.getElem?_append_right (by omega), List.getElem?_eq_none (by omega : ss.length ≤ i)]
      by_cases h2 : i - ss.length < N.length - ss.length
      · simp [List.getElem?_replicate, h2]
      · simp [List.getElem?_replicate, h2]
  have hl : (ss ++ List.replicate (N.length - ss.length) SV.un).length = N.length := by simp [a.ls]; omega
  refine ⟨⟨fun i => if i < n then fp i else [], ?_, fun i hi => ?_, fun i j b hi hj ne hb => ?_, fun i b hi hb => ?_, fun i hi => ?_, fun p hp => (nomatch hp), fun p hp => (nomatch hp), List.nodup_nil⟩, .refl _ _, t⟩
  · rw [hl]; unfold L2.start; simp [a.lv]; omega
  · rw [e1, e2]
    by_cases h : i < n
    · rw [if_pos h]; exact a.slot i h
    · rw [if_neg h]
      have : svAt ss i = .un := by unfold svAt; simp [List.getD_eq_getElem?_getD, List.getElem?_eq_none (by rw [a.ls]; omega : ss.length ≤ i)]
      rw [this]; rfl
  · by_cases h : i < n
    · rw [if_pos h] at hb
      by_cases h2 : j < n
      · rw [if_pos h2]; exact a.sep i j b h h2 ne hb
      · rw [if_neg h2]; exact fun z => nomatch z
    · rw [if_neg h] at hb; cases hb
  · by_cases h : i < n
    · rw [if_pos h] at hb
      by_cases ho : i ∈ ow
      · exact .inr (List.mem_flatMap.mpr ⟨i, ho, hb⟩)
      · rw [(SV.free_fp (a.slot i h) (a.st i h ho)).1] at hb; cases hb
    · rw [if_neg h] at hb; cases hb
  · have h := a.ow i hi
    refine ⟨by rw [hl]; omega, ?_, if_pos h⟩
    rw [e1]
    show vs[i]? = some (vs.getD i .non)
    rw [List.getD_eq_getElem?_getD, List.getElem?_eq_getElem (by rw [a.lv]; exact h)]
    rfl
theorem fin_own {T : List (Addr × Str)} {H H' : Hp} {n : Nat} {ow : List Nat} {vs : List V} {ss : List SV} {fp : Nat → List Addr} {σ : L2.St} {ρ : Ρ} (a : ArgOk K H n ow vs ss fp) (ok : StOk K (gcOf T H ow vs fp) σ H' ρ) : ∀ i ∈ ow, SlotOk K H' vs[i]? (svAt ρ i) (fp i) := fun i hi => by
  obtain ⟨⟨fp', x⟩, _, _⟩ := ok
  obtain ⟨h1, h2, h3⟩ := x.pin i hi
  have q := x.slot i h1
  have e : vs[i]? = some (vs.getD i .non) := by
    rw [List.getD_eq_getElem?_getD, List.getElem?_eq_getElem (by rw [a.lv]; exact a.ow i hi)]; rfl
  rw [h2, h3] at q
  rw [e]
  exact q
theorem len_spF {T : List (Addr × Str)} {n : Nat} {ow : List Nat} {f : Fn} {vs : List V} {H : Hp} {Q : VK} {E : XK} (h : spF K T n ow f vs H Q E) : vs.length = n := by
  obtain ⟨ss, fp, a, _⟩ := h
  exact a.lv
/-- the end of a body -/
theorem run_end {T : List (Addr × Str)} {H : Hp} {n : Nat} {ow : List Nat} {vs : List V} {ss : List SV} {fp : Nat → List Addr} {N : List Str} {B : Sv} {Q : VK} {E : XK} (a : ArgOk K H n ow vs ss fp) (t : LamX.Tabs T H) (hn : n ≤ N.length)
    (h : match runDef N.length B ss with
      | .bad => False
      | .ok d ss' => ∀ v H', Ext H H' → Keep (cellsOf ow fp) H H' → LamX.Tabs T H' → (∀ i ∈ ow, SlotOk K H' vs[i]? (svAt ss' i) (fp i)) → Rp K H' v d → Q v H'
      | .ex x ss' => ∀ dx H', Ext H H' → Keep (cellsOf ow fp) H H' → LamX.Tabs T H' → (∀ i ∈ ow, SlotOk K H' vs[i]? (svAt ss' i) (fp i)) → XnOk K H' dx x → E (.ref x.C) dx H') :
    trS K (gcOf T H ow vs fp) E B { nx := fun _ H' => Q .non H', rt := Q } (L2.start N vs) H := by
  refine ⟨_, start_ok a t hn, ?_⟩
  simp only [runDef] at h
  cases hB : B (ss ++ List.replicate (N.length - ss.length) .un) with
  | bad => rw [hB] at h; exact h
  | bk ρ => rw [hB] at h; exact h.elim
  | ct ρ => rw [hB] at h; exact h.elim
  | nx ρ => rw [hB] at h; exact fun σ' H' e ok => h .non H' e ok.keep ok.tabs (fin_own a ok) .non
  | rt d ρ => rw [hB] at h; exact fun v σ' H' e ok r => h v H' e ok.keep ok.tabs (fin_own a ok) r
  | ex x ρ => rw [hB] at h; exact fun dx H' e ⟨σ', ok⟩ r => h dx H' e ok.keep ok.tabs (fin_own a ok) r
/-- a def that raises nothing -/
theorem def_ok {x qual : Str} {st : Stmt} {f : Addr} {fd : FuncData} {N ps : List Str} {k n : Nat} {T : List (Addr × Str)} {ow : List Nat} {B : Sv} (F : Fun K x qual st f fd) (S : FnScope N ps (defScope st)) (hn : ps.length = n) (hN : n ≤ N.length)
    (hB : ∀ (cdv : Value) (A : Around) (outer : List Env) (s : Shared) (H : Hp) (E : XK) (G : GC), Room k (A.deeper (envOfC qual (defScope st) s.heap.objs.size f cdv)) → G.ow = ow → G.T = T →
      PSs (cxOf CX0 P w K mg base N qual (defScope st) f cdv A outer s H E).nox (defBody st) (trS K G EF B)) :
    FnOk P w K mg base CX0 (k + 1) f fd ps (spF K T n ow (fun ss => noEx (runDef N.length B ss))) := by
  refine F.ok S (fun vs H Q E h => by rw [hn]; exact len_spF h) fun cdv A outer s H vs Q E hr h => ?_
  obtain ⟨ss, fp, a, t, h⟩ := h
  refine ⟨_, hB cdv A outer s H E (gcOf T H ow vs fp) hr rfl rfl, run_end a t hN ?_⟩
  cases hR : runDef N.length B ss with
  | bad => simp only [hR, noEx] at h
  | ok d ss' => simp only [hR, noEx] at h; exact h
  | ex x ss' => simp only [hR, noEx] at h
/-- a def that may raise -/
theorem def_okX {x qual : Str} {st : Stmt} {f : Addr} {fd : FuncData} {N ps : List Str} {k n : Nat} {T : List (Addr × Str)} {ow : List Nat} {B : Sv} (F : Fun K x qual st f fd) (S : FnScope N ps (defScope st)) (hn : ps.length = n) (hN : n ≤ N.length)
    (hB : ∀ (cdv : Value) (A : Around) (outer : List Env) (s : Shared) (H : Hp) (E : XK) (G : GC), Room k (A.deeper (envOfC qual (defScope st) s.heap.objs.size f cdv)) → G.ow = ow → G.T = T →
      PSs (cxOf (L2.CX P w) P w K mg base N qual (defScope st) f cdv A outer s H E) (defBody st) (trS K G E B)) :
    FnOk P w K mg base (L2.CX P w) (k + 1) f fd ps (spF K T n ow (runDef N.length B)) := by
  refine F.okX S (fun vs H Q E h => by rw [hn]; exact len_spF h) fun cdv A outer s H vs Q E hr h => ?_
  obtain ⟨ss, fp, a, t, h⟩ := h
  exact ⟨_, hB cdv A outer s H E (gcOf T H ow vs fp) hr rfl rfl, run_end a t hN h⟩
end

/-! ### calls -/
section
variable {X : Cx} {G : GC} {E : XK} {a b c : Expr} {es : List Expr} {pos : Pos}
def stL (ds : List D) : List SV := ds.map .st
/-- f(e, ..), nothing of one's own handed on -/
def eCall (f : Fn) (L : Ev (List D)) : Ev D := fun ρ => (L ρ).bind fun ds ρ1 => match f (stL ds) with
  | .bad => .bad
  | .ok d _ => .ok d ρ1
  | .ex x _ => .ex x ρ1
theorem svAt_stL {ds : List D} {i : Nat} {d : D} (h : ds[i]? = some d) : svAt (stL ds) i = .st d := by
  unfold svAt stL; simp [List.getD_eq_getElem?_getD, h]
theorem argOk_stL {K : PySem.W.Frag} {H : Hp} {vs : List V} {ds : List D} {n : Nat} (r : RpL K H vs ds) (hn : ds.length = n) : ArgOk K H n [] vs (stL ds) (fun _ => []) := by
  refine ⟨by rw [r.length, hn], by simp [stL, hn], fun i hi => ?_, fun i j b _ _ _ hb => (nomatch hb), fun i hi _ => ?_, fun i hi => (nomatch hi)⟩
  · obtain ⟨d, hd⟩ : ∃ d, ds[i]? = some d := ⟨_, List.getElem?_eq_getElem (by omega)⟩
    rw [svAt_stL hd]
    obtain ⟨v, hv, rv⟩ := r.getD hd
    exact ⟨rfl, v, hv, rv⟩
  · obtain ⟨d, hd⟩ : ∃ d, ds[i]? = some d := ⟨_, List.getElem?_eq_getElem (by omega)⟩
    rw [svAt_stL hd]; rfl
/-- behind a call that changes nothing of one's own -/
theorem StOk.called {K : PySem.W.Frag} {G : GC} {σ : L2.St} {H H' : Hp} {ρ : Ρ} (ok : StOk K G σ H ρ) (e : Ext H H') (k : Keep [] H H') (t : LamX.Tabs G.T H') : StOk K G σ H' ρ := by
  obtain ⟨⟨fp, x⟩, k0, _⟩ := ok
  have kp : ∀ i, i < ρ.length → ∀ b ∈ fp i, ∀ o, H b = some o → H' b = some o := fun i hi b hb o q => by
    obtain ⟨o', q', _, nt⟩ := (x.slot i hi).there b hb
    rw [q] at q'; cases q'
    exact k.keep b o q (by simp) nt
  exact ⟨⟨fp, x.len, fun i hi => (x.slot i hi).keep e (kp i hi), x.sep, x.own, x.pin, fun p hp => ⟨k.keep _ _ (x.prot p hp).1 (by simp) (x.notbl p hp), (x.prot p hp).2⟩, x.notbl, x.nd⟩,
    ⟨fun b o q z nt => k.keep b o (k0.keep b o q z nt) (by simp) nt, fun b o q nt => by
      obtain ⟨o1, q1, t1⟩ := k0.dom b o q nt
      exact k.dom b o1 q1 t1⟩, t⟩
theorem call_of {f : Fn} {L : Ev (List D)} {n : Nat} {σ : L2.St} {H : Hp} {Q : VK} (hL : ∀ ρ ds ρ1, L ρ = .ok ds ρ1 → ds.length = n) (h : trE X.K G E (eCall f L) σ H Q) : trL X.K G E L σ H fun vs H1 => spF X.K G.T n [] f (vs ++ []) H1 Q E := by
  obtain ⟨ρ, ok, h⟩ := h
  refine ⟨ρ, ok, ?_⟩
  simp only [eCall] at h
  cases hl : L ρ with
  | bad => rw [hl] at h; exact h
  | ex x ρ1 => rw [hl] at h; exact h
  | ok ds ρ1 =>
    rw [hl] at h
    intro vs H1 e1 ok1 r1
    rw [List.append_nil]
    refine ⟨stL ds, fun _ => [], argOk_stL r1 (hL _ _ _ hl), ok1.tabs, ?_⟩
    simp only [Res.bind] at h
    cases hf : f (stL ds) with
    | bad => rw [hf] at h; exact h
    | ok d ss' => rw [hf] at h; exact fun v H2 e2 k t _ r => h v H2 (e1.trans e2) (ok1.called e2 k t) r
    | ex x ss' => rw [hf] at h; exact fun dx H2 e2 k t _ r => h dx H2 (e1.trans e2) (ok1.called e2 k t) r
theorem lNil_len : ∀ ρ ds ρ1, lNil ρ = .ok ds ρ1 → ds.length = 0 := fun ρ ds ρ1 h => by cases h; rfl
theorem lCons_len {f : Ev D} {l : Ev (List D)} {n : Nat} (h : ∀ ρ ds ρ1, l ρ = .ok ds ρ1 → ds.length = n) : ∀ ρ ds ρ1, lCons f l ρ = .ok ds ρ1 → ds.length = n + 1 := fun ρ ds ρ1 e => by
  simp only [lCons] at e
  cases hf : f ρ with
  | bad => rw [hf] at e; cases e
  | ex x ρ2 => rw [hf] at e; cases e
  | ok d ρ2 =>
    rw [hf] at e
    simp only [Res.bind] at e
    cases hl : l ρ2 with
    | bad => rw [hl] at e; cases e
    | ex x ρ3 => rw [hl] at e; cases e
    | ok ds' ρ3 => rw [hl] at e; cases e; rw [List.length_cons, h _ _ _ hl]
variable {CX : CXT} {k n : Nat} {f : Addr} {fd : FuncData} {ps : List Str} {x : Str} {p : Pos} {fn : Fn} {L : Ev (List D)}
theorem xe_call (F : FnOk X.prog X.w X.K X.mg X.base CX k f fd ps (spF X.K G.T n [] fn)) (hr : Room k X.A) (hg : Gl X x) (hm : X.mg x = some (.ref f)) (hk : PySem.W.keepIn X.K (.ref f) = true) (hb : Binds X.K fd ps []) (hx : Passes CX X E)
    (ha : PA X (a :: es) (trL X.K G E L)) (hL : ∀ ρ ds ρ1, L ρ = .ok ds ρ1 → ds.length = n) (hdb : (x == ("__debug__" : Str)) = false := by decide) (he : starEach (a :: es) X.env = (false, eval a X.env) :: starEach es X.env := by rfl) (hpl : (backTo pos (starEach es X.env)).any (·.1) = false := by rfl) :
    PE X (.Call (.Name x p) (a :: es) [] pos) (trE X.K G E (eCall fn L)) :=
  PE.imp (pe_call F hr hg hm hk hb .nil hx ha hdb he hpl) fun σ H Q h => call_of hL h
/-- f(own, e, ..): the first argument is the i-th slot, that f changes -/
def eCall1 (i : Nat) (f : Fn) (L : Ev (List D)) : Ev D := fun ρ => if (svAt ρ i).own = true then (L ρ).bind fun ds ρ1 => if (svAt ρ1 i).own = true then match f (svAt ρ1 i :: stL ds) with
  | .bad => .bad
  | .ok d ss' => .ok d (ρ1.set i (svAt ss' 0))
  | .ex x ss' => .ex x (ρ1.set i (svAt ss' 0)) else .bad else .bad
theorem StOk.called1 {K : PySem.W.Frag} {G : GC} {σ : L2.St} {H H' : Hp} {ρ : Ρ} {i : Nat} {fp : Nat → List Addr} {s' : SV} (x : StEx K G σ H ρ fp) (k0 : Keep G.Z G.H0 H) (hi : i < ρ.length) (e : Ext H H') (k : Keep (fp i) H H') (t : LamX.Tabs G.T H') (hs : SlotOk K H' (vAt σ i) s' (fp i)) : StOk K G σ H' (ρ.set i s') := by
  have kp : ∀ j, j < ρ.length → j ≠ i → ∀ b ∈ fp j, ∀ o, H b = some o → H' b = some o := fun j hj ne b hb o q => by
    obtain ⟨o', q', _, nt⟩ := (x.slot j hj).there b hb
    rw [q] at q'; cases q'
    exact k.keep b o q (fun z => x.sep j i b hj hi ne hb z) nt
  refine ⟨⟨fp, by simp [x.len], fun j hj => ?_, fun j l b hj hl => x.sep j l b (by simpa using hj) (by simpa using hl), fun j b hj => x.own j b (by simpa using hj), fun j hj => ?_, fun p hp => ?_, x.notbl, x.nd⟩, ⟨fun b o q z nt => ?_, fun b o q nt => by
      obtain ⟨o1, q1, t1⟩ := k0.dom b o q nt
      exact k.dom b o1 q1 t1⟩, t⟩
  · rw [List.length_set] at hj
    rw [svAt_set]
    by_cases ej : i = j
    · subst ej; rw [if_pos ⟨rfl, hi⟩]; exact hs
    · rw [if_neg fun z => ej z.1]; exact (x.slot j hj).keep e (kp j hj (Ne.symm ej))
  · obtain ⟨g1, g2, g3⟩ := x.pin j hj
    exact ⟨by rw [List.length_set]; exact g1, g2, g3⟩
  · obtain ⟨g1, g2, g3⟩ := x.prot p hp
    exact ⟨k.keep _ _ g1 (g3 i hi) (x.notbl p hp), g2, fun j hj => g3 j (by simpa using hj)⟩
  · refine k.keep b o (k0.keep b o q z nt) (fun hb => ?_) nt
    rcases x.own i b hi hb with w | w
    · obtain ⟨ps, r⟩ := w o q; exact nt ps r
    · exact z w
theorem own_ref {K : PySem.W.Frag} {H : Hp} {v : Option V} {s : SV} {fp : List Addr} (h : SlotOk K H v s fp) (hs : s.own = true) : ∃ u, v = some u := by
  cases s with
  | ol ds => obtain ⟨a, _, e, _⟩ := h; exact ⟨_, e⟩
  | od kvs => obtain ⟨a, e, _⟩ := h; exact ⟨_, e⟩
  | dr s => obtain ⟨a, _, e, _⟩ := h; exact ⟨_, e⟩
  | _ => cases hs
theorem svAt_cons0 {s : SV} {ss : List SV} : svAt (s :: ss) 0 = s := rfl
theorem svAt_consS {s : SV} {ss : List SV} {i : Nat} : svAt (s :: ss) (i + 1) = svAt ss i := rfl
theorem call1_of {i : Nat} {f : Fn} {L : Ev (List D)} {n : Nat} {σ : L2.St} {H : Hp} {Q : VK} (hL : ∀ ρ ds ρ1, L ρ = .ok ds ρ1 → ds.length = n) (h : trE X.K G E (eCall1 i f L) σ H Q) : tCons (tVar i) (trL X.K G E L) σ H fun vs H1 => spF X.K G.T (n + 1) [0] f (vs ++ []) H1 Q E := by
  obtain ⟨ρ, ok, h⟩ := h
  simp only [eCall1] at h
  split at h
  · rename_i ho
    have hi : i < ρ.length := svAt_of (s := svAt ρ i) rfl fun z => by rw [z] at ho; cases ho
    obtain ⟨v, hv⟩ : ∃ v, vAt σ i = some v := by
      obtain ⟨⟨fp, x⟩, _, _⟩ := id ok
      exact own_ref (x.slot i hi) ho
    refine ⟨v, vAt_get hv, ρ, ok, ?_⟩
    cases hl : L ρ with
    | bad => rw [hl] at h; exact h.elim
    | ex x ρ1 => rw [hl] at h; exact h
    | ok ds ρ1 =>
      rw [hl] at h
      intro vs H1 e1 ok1 r1
      show spF X.K G.T (n + 1) [0] f ((v :: vs) ++ []) H1 Q E
      rw [List.append_nil]
      simp only [Res.bind] at h
      split at h
      · rename_i ho1
        obtain ⟨⟨fp, x⟩, k0, t0⟩ := ok1
        have hi1 : i < ρ1.length := svAt_of (s := svAt ρ1 i) rfl fun z => by rw [z] at ho1; cases ho1
        have hs := x.slot i hi1
        rw [hv] at hs
        refine ⟨svAt ρ1 i :: stL ds, fun j => if j = 0 then fp i else [], ⟨by rw [List.length_cons, r1.length, hL _ _ _ hl], by simp [stL, hL _ _ _ hl], fun j hj => ?_, fun j l b hj hl' ne hb => ?_, fun j hj hn => ?_, fun j hj => ?_⟩, t0, ?_⟩
        · cases j with
          | zero => exact hs
          | succ j =>
            have a := argOk_stL r1 (hL _ _ _ hl)
            exact a.slot j (by omega)
        · by_cases ej : j = 0
          · subst ej
            rw [if_neg (Ne.symm ne)]; exact fun z => nomatch z
          · rw [if_neg ej] at hb; cases hb
        · cases j with
          | zero => exact absurd (List.mem_singleton.mpr rfl) hn
          | succ j => exact (argOk_stL r1 (hL _ _ _ hl)).st j (by omega) (by simp)
        · have : j = 0 := by simpa using hj
          omega
        · have ec : cellsOf [0] (fun j => if j = 0 then fp i else []) = fp i := by simp [cellsOf]
          cases hf : f (svAt ρ1 i :: stL ds) with
          | bad => rw [hf] at h; exact h
          | ok d ss' =>
            rw [hf] at h
            intro u H2 e2 k t hso r
            rw [ec] at k
            have q := hso 0 (by simp)
            refine h u H2 (e1.trans e2) (StOk.called1 x k0 hi1 e2 k t ?_) r
            rw [hv]; exact q
          | ex y ss' =>
            rw [hf] at h
            intro dx H2 e2 k t hso r
            rw [ec] at k
            have q := hso 0 (by simp)
            refine h dx H2 (e1.trans e2) (StOk.called1 x k0 hi1 e2 k t ?_) r
            rw [hv]; exact q
      · exact h.elim
  · exact h.elim
theorem xe_call1 {i : Nat} {y : Str} {py : Pos} (F : FnOk X.prog X.w X.K X.mg X.base CX k f fd ps (spF X.K G.T (n + 1) [0] fn)) (hr : Room k X.A) (hg : Gl X x) (hm : X.mg x = some (.ref f)) (hk : PySem.W.keepIn X.K (.ref f) = true) (hb : Binds X.K fd ps []) (hx : Passes CX X E)
    (hv : PE X (.Name y py) (tVar i)) (ha : PA X es (trL X.K G E L)) (hL : ∀ ρ ds ρ1, L ρ = .ok ds ρ1 → ds.length = n) (hdb : (x == ("__debug__" : Str)) = false := by decide) (he : starEach (.Name y py :: es) X.env = (false, eval (.Name y py) X.env) :: starEach es X.env := by rfl) (hpl : (backTo pos (starEach es X.env)).any (·.1) = false := by rfl) :
    PE X (.Call (.Name x p) (.Name y py :: es) [] pos) (trE X.K G E (eCall1 i fn L)) :=
  PE.imp (pe_call F hr hg hm hk hb .nil hx (pa_cons hv ha he) hdb he hpl) fun σ H Q h => call1_of hL h
end
end PU
set_option maxHeartbeats 4000000
namespace PU
open PySem PySem.Spec PyProof.Rows L2
/-! ### products -/
theorem tuple_mul1 (l : Addr) (items : Array Value) (n : Nat) (dd : Option Addr) (sl : Array (Option Value)) (x : Int) (u : Tok) (c0 : (decide (x < -(2 ^ 63)) || decide (x ≥ 2 ^ 63)) = false) (c1 : (items.isEmpty || x == 1) = true) :
    Meets (Builtin.«tuple.__mul__» ⟨[.ref l, .int x u], []⟩) (fun _ R s => s.heap.get? l = some { cls := .type "tuple", dict := dd, data := .seq items n, slots := sl } ∧ R (.ok (.ret (Value.ref l))) s) :=
  .of_wp fun prog w A R s h => by
    obtain ⟨hp, g, d, tk, os⟩ := s
    obtain ⟨hl, h⟩ := h
    have f1 := AutoSeq1.idx_int
    wp_walk using wpAny_loadPart' hl
    repeat (first
      | (refine wpAny_ite_false (decide_eq_false (by rw [c0]; exact Bool.false_ne_true)) ?_; wp_walk using wpAny_loadPart' hl)
      | (refine wpAny_ite_true (decide_eq_true c1) ?_; wp_walk using wpAny_loadPart' hl))
    exact ⟨_, rfl, h⟩
theorem tuple_mul0 (l : Addr) (items : Array Value) (n : Nat) (dd : Option Addr) (sl : Array (Option Value)) (x : Int) (u : Tok) (c0 : (decide (x < -(2 ^ 63)) || decide (x ≥ 2 ^ 63)) = false) (c1 : (items.isEmpty || x == 1) = false) (c2 : (decide (x ≤ 0) || items.isEmpty) = true) :
    Meets (Builtin.«tuple.__mul__» ⟨[.ref l, .int x u], []⟩) (fun _ R s => s.heap.get? l = some { cls := .type "tuple", dict := dd, data := .seq items n, slots := sl } ∧
      R (.ok (.ret (Value.ref s.heap.objs.size))) { s with heap := s.heap.push { cls := Value.type "tuple", data := Data.seq #[] }, toks := s.toks }) :=
  .of_wp fun prog w A R s h => by
    obtain ⟨hp, g, d, tk, os⟩ := s
    obtain ⟨hl, h⟩ := h
    have f1 := AutoSeq1.idx_int
    wp_walk using wpAny_loadPart' hl
    repeat (first
      | (refine wpAny_ite_false (decide_eq_false (by rw [c0]; exact Bool.false_ne_true)) ?_; wp_walk using wpAny_loadPart' hl)
      | (refine wpAny_ite_false (decide_eq_false (by rw [c1]; exact Bool.false_ne_true)) ?_; wp_walk using wpAny_loadPart' hl)
      | (refine wpAny_ite_true (decide_eq_true c2) ?_; wp_walk using wpAny_loadPart' hl)
      | (refine wpAny_ite_false (decide_eq_false (Nat.not_lt.mpr (by decide))) ?_; wp_walk using wpAny_loadPart' hl))
    exact ⟨_, rfl, h⟩
section
variable {X : Cx} {G : GC} {E : XK} {a b c : Expr} {es : List Expr} {pos : Pos}
def dMulW : D → D → Option D
  | .int i, .int j => if mulOk i j then some (.int (i * j)) else none
  | .tup a, .int k => if a ≠ [] ∧ -1000 ≤ k ∧ k ≤ 1000 ∧ a.length ≤ 1000 then some (.tup (List.replicate k.toNat a).flatten) else none
  | .lst a, .int k => if -(2 ^ 63) ≤ k ∧ k < 2 ^ 63 ∧ a.length * k.toNat ≤ sizeLine then some (.lst (List.replicate k.toNat a).flatten) else none
  | .str x, .int k => if 0 ≤ k ∧ k ≤ 1000 ∧ x.length ≤ 1000 then some (.str ⟨(List.replicate k.toNat x.cps).foldl (· ++ ·) #[]⟩) else none
  | _, _ => none
theorem foldl_size (x : Array Nat) : ∀ (k : Nat) (acc : Array Nat), ((List.replicate k x).foldl (· ++ ·) acc).size = acc.size + k * x.size
  | 0, acc => by simp
  | k + 1, acc => by rw [List.replicate_succ, List.foldl_cons, foldl_size x k, Array.size_append, Nat.add_mul]; omega
theorem op_mulD : OpR X (binaryOp .Mult) (rD X.K dMulW) := by
  intro pins s σ H x y v u Q I rx ry h
  obtain ⟨d, e, r, hd, he, hg, q⟩ := h
  cases hd with
  | int i =>
    cases he with
    | int j =>
      simp only [dMulW] at hg
      split at hg
      · rename_i hc
        cases hg
        exact op_mulW pins s σ H _ _ v u Q I rx ry ⟨i, j, rfl, rfl, (by have := of_decide_eq_true hc; exact this), q _ _ (.refl H) (.int _)⟩
      · cases hg
    | _ => cases hg
  | str z =>
    cases he with
    | int k =>
      simp only [dMulW] at hg
      split at hg
      · rename_i hc
        obtain ⟨c1, c2, c3⟩ := hc
        cases hg
        obtain ⟨t, rfl⟩ := rx
        obtain ⟨t', rfl⟩ := ry
        have fl : (⟨(List.replicate k.toNat z.cps).foldl (· ++ ·) #[]⟩ : Str).length ≤ sizeLine := by
          show ((List.replicate k.toNat z.cps).foldl (· ++ ·) #[]).size ≤ sizeLine
          rw [foldl_size, sizeLine_eq]
          have c3' : z.cps.size ≤ 1000 := c3
          have a1 : k.toNat * z.cps.size ≤ 1000 * 1000 := Nat.mul_le_mul (by omega) c3'
          simp only [Array.size_empty]
          omega
        refine PySem.P.mul_str (by rw [decide_eq_false (by omega), decide_eq_false (by omega)]; rfl) (fun h1 _ => ?_) (fun h1 _ => ?_) ?_
        · have c3' : z.length ≤ 1000 := c3
          have : (1 : Int) ≤ k := by omega
          intro hz
          have h2 : (1000 : Int) ≤ (2 ^ 63 - 1) / k := by
            refine (Int.le_ediv_iff_mul_le (by omega)).mpr ?_
            omega
          omega
        · unfold Builtin.Str.tooLong
          have c3' : z.length ≤ 1000 := c3
          have a1 : z.length * k.toNat ≤ 1000 * 1000 := Nat.mul_le_mul c3' (by omega)
          refine decide_eq_false ?_
          rw [sizeLine_eq]
          omega
        · by_cases k1 : k < 1
          · rw [if_pos k1]
            have k0 : k = 0 := by omega
            subst k0
            exact ⟨by decide, .str _, H, I.tok _, ⟨_, rfl⟩, q _ _ (.refl H) (.str _)⟩
          · rw [if_neg k1]
            by_cases k2 : (k == 1 || z.length == 0) = true
            · rw [if_pos k2]
              refine ⟨.str z, H, I, ⟨t, rfl⟩, ?_⟩
              have e : (⟨(List.replicate k.toNat z.cps).foldl (· ++ ·) #[]⟩ : Str) = z := by
                rw [Bool.or_eq_true] at k2
                rcases k2 with k2 | k2
                · have : k = 1 := by simpa using k2
                  subst this
                  simp
                · have hz : z.cps.size = 0 := (beq_iff_eq.mp k2 : z.length = 0)
                  have : z.cps = #[] := Array.eq_empty_of_size_eq_zero hz
                  cases z
                  simp only at this
                  subst this
                  congr 1
                  have := foldl_size (#[] : Array Nat) k.toNat #[]
                  exact Array.eq_empty_of_size_eq_zero (by simpa using this)
              rw [e] at q
              exact q _ _ (.refl H) (.str _)
            · rw [if_neg k2]
              exact ⟨fl, .str _, H, I.tok _, ⟨_, rfl⟩, q _ _ (.refl H) (.str _)⟩
      · cases hg
    | _ => cases hg
  | @tup l xs ds h1 h2 =>
    cases he with
    | int k =>
      simp only [dMulW] at hg
      split at hg
      · rename_i hc
        obtain ⟨c1, c2, c3, c4⟩ := hc
        cases hg
        by_cases k2 : 2 ≤ k
        · exact op_repT pins s σ H _ _ v u Q I rx ry ⟨l, k, xs, rfl, rfl, .of h1, fun z => c1 (h2.nil_iff.mp z), k2, c3, by rw [h2.length]; exact c4, new_tup (h2.rep k.toNat) q⟩
        · cases rx
          obtain ⟨t, rfl⟩ := ry
          obtain ⟨its, r, ⟨⟨cls, dd, data, sl⟩, ho, hc, n, hdd⟩, hs⟩ := I.tuple (SqT.of (K := X.K) h1)
          simp only at hc hdd
          subst hc hdd
          have hne : its ≠ [] := fun z => by
            have := r.length
            rw [z, h2.length] at this
            exact c1 (List.eq_nil_of_length_eq_zero this)
          have hi : its.toArray.isEmpty = false := by
            cases its with
            | nil => exact absurd rfl hne
            | cons a b => rfl
          have c0 : (decide (k < -(2 ^ 63)) || decide (k ≥ 2 ^ 63)) = false := by
            rw [decide_eq_false (by omega), decide_eq_false (by omega)] <;> rfl
          by_cases k1 : k = 1
          · subst k1
            refine wpAny_binaryOp_repeat_ref (T := "tuple") (U := "int") (by decide) ⟨_, ho, rfl⟩ (fun s' => typeIs_int s' 1 t) noFill_tuple_mul F.fills_int_mul F.slot_int_rmul repeat_tuple F.slot_int_index.lookup
              (call_meets F.slot_int_rmul (typeIs_int s 1 t) F.entry_int_rmul (F.args_int_rmul_2 _ _) (int_rmul_tuple 1 t l its.toArray n dd sl)
                ⟨ho, rfl, ⟨_, ho, rfl⟩, call_meets F.slot_tuple_mul ⟨_, ho, rfl⟩ F.entry_tuple_mul (F.args_tuple_mul_2 _ _) (tuple_mul1 l its.toArray n dd sl 1 t c0 (by simp)) ⟨ho, ?_⟩⟩)
            have e : (List.replicate (1 : Int).toNat ds).flatten = ds := by simp
            rw [e] at q
            exact ⟨.ref l, H, I, rfl, q _ _ (.refl H) (.tup h1 h2)⟩
          · have c1' : (its.toArray.isEmpty || k == 1) = false := by
              rw [hi, Bool.false_or]
              exact beq_eq_false_iff_ne.mpr k1
            have c2' : (decide (k ≤ 0) || its.toArray.isEmpty) = true := by rw [decide_eq_true (by omega)]; rfl
            refine wpAny_binaryOp_repeat_ref (T := "tuple") (U := "int") (by decide) ⟨_, ho, rfl⟩ (fun s' => typeIs_int s' k t) noFill_tuple_mul F.fills_int_mul F.slot_int_rmul repeat_tuple F.slot_int_index.lookup
              (call_meets F.slot_int_rmul (typeIs_int s k t) F.entry_int_rmul (F.args_int_rmul_2 _ _) (int_rmul_tuple k t l its.toArray n dd sl)
                ⟨ho, rfl, ⟨_, ho, rfl⟩, call_meets F.slot_tuple_mul ⟨_, ho, rfl⟩ F.entry_tuple_mul (F.args_tuple_mul_2 _ _) (tuple_mul0 l its.toArray n dd sl k t c0 c1' c2') ⟨ho, ?_⟩⟩)
            have e : (List.replicate k.toNat ds).flatten = [] := by
              have : k.toNat = 0 := by omega
              rw [this]; rfl
            rw [e] at q
            refine ⟨.ref s.heap.objs.size, _, I.laid (t' := s.toks) (o := .tup []) (fun b ob q => Heap.get?_push_of_some _ q) (Nat.le_refl _) ?_, rfl, new_tup .nil q _ (I.hok.fresh (Nat.le_refl _))⟩
            exact ⟨Nat.zero_le _, [], .nil, IsTup.new _ _⟩
      · cases hg
    | _ => cases hg
  | @lst l o xs ds h1 h2 =>
    cases he with
    | int k =>
      simp only [dMulW] at hg
      split at hg
      · rename_i hc
        obtain ⟨c1, c2, c3⟩ := hc
        cases hg
        cases rx
        obtain ⟨t, rfl⟩ := ry
        obtain ⟨z, its, n, r, hl, e⟩ := I.flst h1
        have hlen : its.toArray.size * k.toNat ≤ sizeLine := by rw [List.size_toArray, ← hl, h2.length]; exact c3
        have hcap : ¬ its.toArray.size * k.toNat > (2 ^ 63 - 1) / 8 := by
          have : (sizeLine : Nat) ≤ (2 ^ 63 - 1) / 8 := by decide
          omega
        have hfit : ¬ (!Builtin.List.listFitsIndex k) = true := by
          rw [fitsIndex_both c1 c2]
          exact Bool.false_ne_true
        have hlong : ¬ Builtin.List.listTooLong (its.toArray.size * k.toNat) = true := by
          rw [notLongL hlen]
          exact Bool.false_ne_true
        have hnew : List.foldl (fun x1 x2 => x1 ++ x2) #[] (List.replicate (if its.toArray.isEmpty = true then 0 else k.toNat) its.toArray) = (List.replicate k.toNat its).flatten.toArray := by
          have f0 : ∀ m : Nat, List.foldl (fun x1 x2 => x1 ++ x2) #[] (List.replicate m its.toArray) = (List.replicate m its).flatten.toArray := fun m => by
            have := foldl_rep its m []
            rw [List.nil_append] at this
            exact this
          rw [f0]
          cases its with
          | nil => simp
          | cons a r' => rw [if_neg (by simp)]
        refine wpAny_binaryOp_repeat_ref (T := "list") (U := "int") (by decide) ⟨_, e, rfl⟩ (fun s' => typeIs_int s' k t) noFill_list_mul F.fills_int_mul F.slot_int_rmul repeat_list F.slot_int_index.lookup
          (call_meets F.slot_int_rmul (typeIs_int s k t) F.entry_int_rmul (F.args_int_rmul_2 _ _) (int___rmul___int_list k t l its.toArray n)
            ⟨e, rfl, ⟨_, e, rfl⟩, call_meets F.slot_list_mul ⟨_, e, rfl⟩ F.entry_list_mul (F.args_list_mul_2 _ _) (AutoListH.list___mul___list_int_3 l its.toArray n k t hfit hcap hlong) ⟨e, ?_⟩⟩)
        rw [hnew]
        exact fz_ep ⟨.ref _, _, I.lnew (t' := s.toks) (r.rep k.toNat) (by rw [PyProof.Rows.lm_len_rep_flat, Nat.mul_comm, h2.length]; exact c3), rfl, new_lst (h2.rep k.toNat) q _ I.fresh⟩
      · cases hg
    | _ => cases hg
  | _ => cases hg
/-! ### is -/
def dIs : D → D → Option D
  | d, .non => some (.bl (isNon d))
  | .bl a, .bl b => some (.bl (a == b))
  | _, .bl _ => some (.bl false)
  | _, _ => none
def dIsNot (d e : D) : Option D := match dIs d e with
  | some (.bl b) => some (.bl (!b))
  | _ => none
theorem is_ok {x y : V} {d e : D} {H : Hp} {b : Bool} {v u : Value} (hd : Rp X.K H x d) (he : Rp X.K H y e) (rx : RelV x v) (ry : RelV y u) (hg : dIs d e = some (.bl b)) (hx : ∀ C ps, d ≠ .exn C ps ∨ True) : isSame v u = pure b := by
  cases he with
  | non =>
    cases (show u = Value.none from ry)
    cases hd with
    | non => cases (show v = Value.none from rx); cases hg; rfl
    | bl k => cases (show v = Value.bool k from rx); cases hg; rfl
    | int i => obtain ⟨t, rfl⟩ := (show ∃ t, v = Value.int i t from rx); cases hg; rfl
    | str i => obtain ⟨t, rfl⟩ := (show ∃ t, v = Value.str i t from rx); cases hg; rfl
    | tup _ _ => cases rx; cases hg; rfl
    | lst _ _ => cases rx; cases hg; rfl
    | dk _ _ _ _ => cases rx; cases hg; rfl
    | dt _ _ _ _ => cases rx; cases hg; rfl
    | exn0 _ => cases rx; cases hg; rfl
    | exn _ _ _ _ => cases rx; cases hg; rfl
  | bl k =>
    cases (show u = Value.bool k from ry)
    cases hd with
    | non => cases (show v = Value.none from rx); cases hg; rfl
    | bl k' =>
      cases (show v = Value.bool k' from rx); cases hg
      cases k' <;> cases k <;> rfl
    | int i => obtain ⟨t, rfl⟩ := (show ∃ t, v = Value.int i t from rx); cases hg; rfl
    | str i => obtain ⟨t, rfl⟩ := (show ∃ t, v = Value.str i t from rx); cases hg; rfl
    | tup _ _ => cases rx; cases hg; rfl
    | lst _ _ => cases rx; cases hg; rfl
    | dk _ _ _ _ => cases rx; cases hg; rfl
    | dt _ _ _ _ => cases rx; cases hg; rfl
    | exn0 _ => cases rx; cases hg; rfl
    | exn _ _ _ _ => cases rx; cases hg; rfl
  | _ => cases d <;> cases hg
theorem dIs_bl {d e r : D} (h : dIs d e = some r) : ∃ b, r = .bl b := by
  unfold dIs at h
  split at h <;> first | (cases h; exact ⟨_, rfl⟩) | cases h
theorem op_isD : OpR X (compareOp .Is) (rD X.K dIs) := by
  intro pins s σ H x y v u Q I rx ry h
  obtain ⟨d, e, r, hd, he, hg, q⟩ := h
  obtain ⟨b, rfl⟩ := dIs_bl hg
  show wpAny _ _ (do return Value.bool (← isSame v u)) _ _ s
  rw [is_ok hd he rx ry hg fun _ _ => .inr trivial]
  exact wpAny_pure ⟨.bl b, H, I, rfl, q _ _ (.refl H) (.bl b)⟩
theorem op_isNotD : OpR X (compareOp .IsNot) (rD X.K dIsNot) := by
  intro pins s σ H x y v u Q I rx ry h
  obtain ⟨d, e, r, hd, he, hg, q⟩ := h
  obtain ⟨b, hb, rfl⟩ : ∃ b, dIs d e = some (.bl b) ∧ r = .bl (!b) := by
    simp only [dIsNot] at hg
    split at hg
    · rename_i b hb; cases hg; exact ⟨b, hb, rfl⟩
    · cases hg
  show wpAny _ _ (do return Value.bool (!(← isSame v u))) _ _ s
  rw [is_ok hd he rx ry hb fun _ _ => .inr trivial]
  exact wpAny_pure ⟨.bl (!b), H, I, rfl, q _ _ (.refl H) (.bl _)⟩
end
end PU
set_option maxHeartbeats 4000000
namespace PU
open PySem PySem.Spec PyProof.Rows L2
/-! ### isinstance -/
def tyN : D → Option String
  | .non => some "NoneType"
  | .bl _ => some "bool"
  | .int _ => some "int"
  | .str _ => some "str"
  | .tup _ => some "tuple"
  | .lst _ => some "list"
  | .dct _ => some "dict"
  | .exn _ _ => none
/-- is a value of the type t one of the type T -/
def isiB (t T : String) : Bool := t == T || (t == "bool" && T == "int")
theorem isiB_kit : ∀ t ∈ ["NoneType", "bool", "int", "str", "tuple", "list", "dict"], ∀ T ∈ ["bool", "int", "str", "tuple", "list", "dict"], L2.kitB t T = some (isiB t T) := by decide +kernel
def tyOk (T : String) : Bool := ["bool", "int", "str", "tuple", "list", "dict"].contains T
theorem tyN_mem {d : D} {t : String} (h : tyN d = some t) : t ∈ ["NoneType", "bool", "int", "str", "tuple", "list", "dict"] := by
  cases d <;> simp [tyN] at h <;> (subst h; simp)
section
variable {X : Cx} {G : GC} {E : XK} {a b c : Expr} {es : List Expr} {pos : Pos}
theorem Rp.kit {pins : List (Addr × Obj)} {σ : L2.St} {H : Hp} {s : Shared} {x : V} {d : D} {u : Value} {t : String} (I : Inv X pins σ H s) (r : Rp X.K H x d) (rx : RelV x u) (ht : tyN d = some t) : ∃ P : Heap → Prop, PySem.W.KitX X.K u (.type t) P ∧ P s.heap ∧ u ≠ .builtin "__main__.__loader__#opaque" := by
  cases r with
  | non => cases ht; exact kit_of I rx (.base .non)
  | bl k => cases ht; exact kit_of I rx (.base (.bl k))
  | int i => cases ht; exact kit_of I rx (.base (.int i))
  | str z => cases ht; exact kit_of I rx (.base (.str z))
  | tup h _ => cases ht; exact kit_of I rx (.base (.tup h))
  | lst h _ => cases ht; exact kit_of I rx (.base (.frz h))
  | dk h _ _ _ => cases ht; exact kit_of I rx (.fDict h)
  | @dt a o kvs ks xs ds h _ _ _ =>
    cases ht
    cases (show u = Value.ref a from rx)
    obtain ⟨_, _, _, vs, _, o, es, ep, h1, h2, _⟩ := (show ObjOk X.prog X.w H s.heap a (.frz o (.dT kvs)) from I.hok a _ h)
    exact ⟨_, PySem.W.kitx_dict, ⟨o, h1, h2.1⟩, fun z => nomatch z⟩
  | exn0 _ => cases ht
  | exn _ _ _ _ => cases ht
def rIsiD (K : PySem.W.Frag) (T : String) : List V → Hp → VK → Prop := fun xs H Q => ∃ x d t, xs = [x, .ty T] ∧ Rp K H x d ∧ tyN d = some t ∧ tyOk T = true ∧ Q (.bl (isiB t T)) H
theorem call_isiD {T : String} : CallR X (.builtin "isinstance") (rIsiD X.K T) := by
  intro pins s σ H xs us Q I r h
  obtain ⟨x, d, t, rfl, hd, ht, hT, q⟩ := h
  obtain ⟨u1, u2, rfl, r1, r2⟩ := vals2 r
  cases (show u2 = Value.type T from r2)
  obtain ⟨P, Z, p, hx⟩ := hd.kit I r1 ht
  have hk := isiB_kit t (tyN_mem ht) T (by unfold tyOk at hT; simpa using hT)
  exact PySem.W.kia_one Z I.kIn p (kit_ty hk) hx fun tk => ⟨.bl _, H, I.tok tk, rfl, q⟩
def dIsi (T : String) (d : D) : Option D := match tyN d with
  | some t => if tyOk T then some (.bl (isiB t T)) else none
  | none => none
/-- isinstance(x, T) -/
theorem xe_isi {f : Ev D} {T : String} {y : Str} {p py : Pos} (hg : Gl X "isinstance") (hm : X.mg "isinstance" = none) (ha : PE X a (trE X.K G E f)) (hb : PE X (.Name y py) (tC (.ty T))) (hs1 : starEach [a, .Name y py] X.env = (false, eval a X.env) :: starEach [.Name y py] X.env := by rfl)
    (hs2 : starEach [.Name y py] X.env = (false, eval (.Name y py) X.env) :: starEach [] X.env := by rfl) (hpl : (backTo pos (starEach [.Name y py] X.env)).any (·.1) = false := by rfl) :
    PE X (.Call (.Name "isinstance" p) [a, .Name y py] [] pos) (trE X.K G E (eUn (dIsi T) f)) :=
  PE.imp (pe_callB (call_isiD (T := T)) hg hm (by decide +kernel) (pa_cons ha (pa_cons hb pa_nil hs2) hs1) (by decide) (by decide) hs1 hpl) fun σ H Q h => by
    obtain ⟨ρ, ok, h⟩ := h
    refine ⟨ρ, ok, h.bindE.imp fun v H1 ⟨d, ρ1, e1, ok1, r1, h1⟩ => ?_⟩
    cases ht : tyN d with
    | none => simp only [dIsi, ht, lift] at h1; exact h1.elim
    | some t =>
      simp only [dIsi, ht] at h1
      split at h1
      · rename_i hT
        exact ⟨v, d, t, rfl, r1, ht, hT, h1.now ok1 (.bl _)⟩
      · exact h1.elim
def anyTy (t : String) : List String → Bool
  | [] => false
  | T :: Ts => isiB t T || anyTy t Ts
theorem kitAny_D {K : PySem.W.Frag} {t : String} (hm : t ∈ ["NoneType", "bool", "int", "str", "tuple", "list", "dict"]) : ∀ Ts : List String, Ts.all tyOk = true → PySem.W.kitAny K (.type t) (Ts.map Value.type) = some (anyTy t Ts)
  | [], _ => rfl
  | T :: Ts, h => by
    rw [List.all_cons, Bool.and_eq_true] at h
    have hk := isiB_kit t hm T (by have := h.1; unfold tyOk at this; simpa using this)
    refine kitAny_cons (kit_ty hk) (fun e => ?_) (fun e => ?_)
    · simp only [anyTy, e, Bool.false_or]; exact kitAny_D hm Ts h.2
    · simp only [anyTy, e, Bool.true_or]
def rIsiTD (K : PySem.W.Frag) (Ts : List String) : List V → Hp → VK → Prop := fun xs H Q => ∃ x d t tp, xs = [x, .ref tp] ∧ H tp = some (.tup (Ts.map V.ty)) ∧ Rp K H x d ∧ tyN d = some t ∧ Ts.all tyOk = true ∧ Q (.bl (anyTy t Ts)) H
theorem vals_ty : ∀ {Ts : List String} {us : List Value}, Vals (Ts.map V.ty) us → us = Ts.map Value.type
  | [], _, .nil => rfl
  | T :: Ts, _, .cons r t => by
    have h1 : _ = Value.type T := r
    rw [h1, vals_ty t]; rfl
theorem call_isiTD {Ts : List String} : CallR X (.builtin "isinstance") (rIsiTD X.K Ts) := by
  intro pins s σ H xs us Q I r h
  obtain ⟨x, d, t, tp, rfl, hT, hd, ht, hTs, q⟩ := h
  obtain ⟨u1, u2, rfl, r1, r2⟩ := vals2 r
  cases (show u2 = Value.ref tp from r2)
  obtain ⟨P, Z, p, hx⟩ := hd.kit I r1 ht
  obtain ⟨_, its, rv, o, h1, h2, n, h3⟩ := (show ObjOk X.prog X.w H s.heap tp (.tup (Ts.map V.ty)) from I.hok tp _ hT)
  have e3 := vals_ty rv
  subst e3
  obtain ⟨oc, od, dt, sl⟩ := o
  simp only at h2 h3
  subst h2 h3
  exact PySem.W.kia_tup Z I.kIn p h1 (kitAny_D (tyN_mem ht) Ts hTs) hx fun tk => ⟨.bl _, H, I.tok tk, rfl, q⟩
def dIsiT (Ts : List String) (d : D) : Option D := match tyN d with
  | some t => if Ts.all tyOk then some (.bl (anyTy t Ts)) else none
  | none => none
/-- isinstance(x, (S, T)) -/
theorem xe_isiT {f : Ev D} {S T : String} {y z : Str} {p py pz pt : Pos} {kt} (hg : Gl X "isinstance") (hm : X.mg "isinstance" = none) (ha : PE X a (trE X.K G E f)) (hb : PE X (.Name y py) (tC (.ty S))) (hb2 : PE X (.Name z pz) (tC (.ty T)))
    (hs1 : starEach [a, .Tuple [.Name y py, .Name z pz] kt pt] X.env = (false, eval a X.env) :: starEach [.Tuple [.Name y py, .Name z pz] kt pt] X.env := by rfl)
    (hs2 : starEach [.Tuple [.Name y py, .Name z pz] kt pt] X.env = (false, eval (.Tuple [.Name y py, .Name z pz] kt pt) X.env) :: starEach [] X.env := by rfl) (hpl : (backTo pos (starEach [.Tuple [.Name y py, .Name z pz] kt pt] X.env)).any (·.1) = false := by rfl)
    (hs3 : starEach [.Name y py, .Name z pz] X.env = (false, eval (.Name y py) X.env) :: starEach [.Name z pz] X.env := by rfl) (hs4 : starEach [.Name z pz] X.env = (false, eval (.Name z pz) X.env) :: starEach [] X.env := by rfl) :
    PE X (.Call (.Name "isinstance" p) [a, .Tuple [.Name y py, .Name z pz] kt pt] [] pos) (trE X.K G E (eUn (dIsiT [S, T]) f)) :=
  PE.imp (pe_callB (call_isiTD (Ts := [S, T])) hg hm (by decide +kernel) (pa_cons ha (pa_cons (pe_tup (pa_cons hb (pa_cons hb2 pa_nil hs4) hs3)) pa_nil hs2) hs1) (by decide) (by decide) hs1 hpl) fun σ H Q h => by
    obtain ⟨ρ, ok, h⟩ := h
    refine ⟨ρ, ok, h.bindE.imp fun v H1 ⟨d, ρ1, e1, ok1, r1, h1⟩ => ?_⟩
    refine ⟨by show 2 ≤ sizeLine; decide, fun tp hp => ?_⟩
    have s : Same H1 (upd H1 tp (.tup [V.ty S, V.ty T])) := same_upd hp
    cases ht : tyN d with
    | none => simp only [dIsiT, ht, lift] at h1; exact h1.elim
    | some t =>
      simp only [dIsiT, ht] at h1
      split at h1
      · rename_i hT
        exact ⟨v, d, t, tp, rfl, upd_same, r1.ext (.of s), ht, hT, h1.same ok1 s (.bl _)⟩
      · exact h1.elim

/-! ### further built-ins -/
def dTuple : List D → Option D
  | [.lst ds] => some (.tup ds)
  | [.tup ds] => some (.tup ds)
  | _ => none
def dList : List D → Option D
  | [.lst ds] => some (.lst ds)
  | [.tup ds] => some (.lst ds)
  | [.str z] => if z.length ≤ sizeLine then some (.lst (z.cps.toList.map fun c => .str ⟨#[c]⟩)) else none
  | _ => none
theorem dTuple_inv {ds : List D} {r : D} (h : dTuple ds = some r) : ∃ es, r = .tup es ∧ (ds = [.lst es] ∨ ds = [.tup es]) := by
  unfold dTuple at h
  split at h
  · cases h; exact ⟨_, rfl, .inl rfl⟩
  · cases h; exact ⟨_, rfl, .inr rfl⟩
  · cases h
theorem call_tupleD : CallR X (.type "tuple") (rDC X.K dTuple) := by
  intro pins s σ H xs us Q I r h
  obtain ⟨ds, d, hd, hg, q⟩ := h
  obtain ⟨es, rfl, rfl | rfl⟩ := dTuple_inv hg
  · obtain ⟨x, rfl, hx⟩ := one_inv hd
    cases hx with
    | @lst p o ys _ h1 h2 => exact call_tuple_of pins s σ H _ us Q I r ⟨p, ys, rfl, .inl ⟨.inl (.inr ⟨o, h1⟩), new_tup h2 q⟩⟩
  · obtain ⟨x, rfl, hx⟩ := one_inv hd
    cases hx with
    | @tup p ys _ h1 h2 => exact call_tuple_of pins s σ H _ us Q I r ⟨p, ys, rfl, .inr ⟨.of h1, q _ _ (.refl H) (.tup h1 h2)⟩⟩
theorem signs_vals (z : Str) : ∀ (cs : List Nat) (us : List Value), us.length = cs.length → (∀ (j : Nat) (u : Value), us[j]? = some u → ∃ c t, cs[j]? = some c ∧ u = Value.str ⟨#[c]⟩ t) → Vals (cs.map fun c => V.str ⟨#[c]⟩) us
  | [], [], _, _ => .nil
  | c :: cs, u :: us, hl, h => by
    obtain ⟨c', t, e1, e2⟩ := h 0 u rfl
    cases e1
    refine .cons ⟨t, e2⟩ (signs_vals z cs us (by simpa using hl) fun j v hv => ?_)
    obtain ⟨c'', t', e3, e4⟩ := h (j + 1) v (by simpa using hv)
    exact ⟨c'', t', by simpa using e3, e4⟩
  | [], _ :: _, hl, _ => by simp at hl
  | _ :: _, [], hl, _ => by simp at hl
theorem rpl_signs {K : PySem.W.Frag} {H : Hp} : ∀ cs : List Nat, RpL K H (cs.map fun c => V.str ⟨#[c]⟩) (cs.map fun c => D.str ⟨#[c]⟩)
  | [] => .nil
  | c :: cs => .cons (.str _) (rpl_signs cs)
/-- list(x): a new list -/
def rListD (K : PySem.W.Frag) : List V → Hp → VK → Prop := fun xs H Q => ∃ ds es, RpL K H xs ds ∧ dList ds = some (.lst es) ∧ ∀ p ys, H p = none → RpL K H ys es → Q (.ref p) (upd H p (.lst ys))
theorem call_listN (hc : X.calm = true) : CallR X (.type "list") (rListD X.K) := by
  intro pins s σ H xs us Q I r h
  obtain ⟨ds, es, hd, hg, q⟩ := h
  match ds, hd, hg with
  | [.lst fs], hd, hg =>
    cases hg
    obtain ⟨x, rfl, hx⟩ := one_inv hd
    cases hx with
    | @lst p o ys _ h1 h2 => exact call_list_of pins s σ H _ us Q I r ⟨p, ys, rfl, .inl (.inl (.inr ⟨o, h1⟩)), fun l hl => q l ys hl h2⟩
  | [.tup fs], hd, hg =>
    cases hg
    obtain ⟨x, rfl, hx⟩ := one_inv hd
    cases hx with
    | @tup p ys _ h1 h2 => exact call_list_of pins s σ H _ us Q I r ⟨p, ys, rfl, .inr (.of h1), fun l hl => q l ys hl h2⟩
  | [.str z], hd, hg =>
    simp only [dList] at hg
    split at hg
    · rename_i hz
      cases hg
      obtain ⟨x, rfl, hx⟩ := one_inv hd
      obtain ⟨u, rfl, rx⟩ := vals1 r
      rw [hx.str_inv] at rx
      obtain ⟨t, rfl⟩ := rx
      refine PySem.call_list_str (I.ok.hd hc) z t (fun h' tk acc' c' hk hS hacc => ?_) hz
      have hv : Vals (z.cps.toList.map fun c => V.str ⟨#[c]⟩) acc'.toList := by
        refine signs_vals z _ _ (by rw [Array.length_toList, Array.length_toList]; exact hacc.1) fun j u hu => ?_
        obtain ⟨c, t', e1, e2⟩ := hacc.2 j u (by simpa using hu)
        exact ⟨c, t', by simpa using e1, e2⟩
      refine ⟨.ref s.heap.objs.size, upd H s.heap.objs.size (.lst (z.cps.toList.map fun c => V.str ⟨#[c]⟩)), I.laid (t' := tk) hk (Nat.le_refl _) ⟨by simpa using (show z.cps.size ≤ sizeLine from hz), acc'.toList, c', hv, hS⟩, rfl, q _ _ I.fresh (rpl_signs _)⟩
    · cases hg
  | [], _, hg => cases hg
  | [.non], _, hg => cases hg
  | [.bl _], _, hg => cases hg
  | [.int _], _, hg => cases hg
  | [.dct _], _, hg => cases hg
  | [.exn _ _], _, hg => cases hg
  | d :: _ :: _, _, hg => cases d <;> cases hg
/-- list(x), to be changed -/
def nList (f : Ev D) : Ev (List D) := fun ρ => (f ρ).bind fun x ρ1 => match dList [x] with
  | some (.lst es) => .ok es ρ1
  | _ => .bad
theorem xn_list {f : Ev D} {p : Pos} (hc : X.calm = true) (hg : Gl X "list") (hm : X.mg "list" = none) (ha : PE X a (trE X.K G E f))
    (he : starEach [a] X.env = (false, eval a X.env) :: starEach [] X.env := by rfl) (hpl : (backTo pos (starEach [] X.env)).any (·.1) = false := by rfl) : PE X (.Call (.Name "list" p) [a] [] pos) (trN X.K G E (nList f)) :=
  PE.imp (pe_callTy (call_listN hc) hg hm (by decide +kernel) (pa_cons ha pa_nil he) (by decide) (by decide) he hpl) fun σ H Q ⟨ρ, ok, h⟩ => ⟨ρ, ok, by
    simp only [nList] at h
    cases hf : f ρ with
    | bad => rw [hf] at h; exact h
    | ex x ρ1 => rw [hf] at h; exact h
    | ok d ρ1 =>
      rw [hf] at h
      intro v H1 e1 ok1 r1
      simp only [Res.bind] at h
      split at h
      · rename_i es he
        exact ⟨[d], es, .cons r1 .nil, he, fun p ys hp ry => h p ys _ (e1.trans (.of (same_upd hp))) (ok1.guard hp) (ry.ext (.of (same_upd hp)))⟩
      · exact h.elim⟩
/-- a list of ints as ints, of bools as bools -/
def intsD : List D → Option (List Int)
  | [] => some []
  | .int i :: r => (intsD r).map (i :: ·)
  | _ => none
def blsD : List D → Option (List Bool)
  | [] => some []
  | .bl i :: r => (blsD r).map (i :: ·)
  | _ => none
theorem intsD_inv : ∀ {ds : List D} {ns : List Int}, intsD ds = some ns → ds = ns.map .int
  | [], _, h => by cases h; rfl
  | .int i :: r, ns, h => by
    simp only [intsD] at h
    cases hr : intsD r with
    | none => rw [hr] at h; cases h
    | some ms => rw [hr] at h; cases h; rw [intsD_inv hr]; rfl
  | .non :: _, _, h => by cases h
  | .bl _ :: _, _, h => by cases h
  | .str _ :: _, _, h => by cases h
  | .tup _ :: _, _, h => by cases h
  | .lst _ :: _, _, h => by cases h
  | .dct _ :: _, _, h => by cases h
  | .exn _ _ :: _, _, h => by cases h
theorem blsD_inv : ∀ {ds : List D} {ns : List Bool}, blsD ds = some ns → ds = ns.map .bl
  | [], _, h => by cases h; rfl
  | .bl i :: r, ns, h => by
    simp only [blsD] at h
    cases hr : blsD r with
    | none => rw [hr] at h; cases h
    | some ms => rw [hr] at h; cases h; rw [blsD_inv hr]; rfl
  | .non :: _, _, h => by cases h
  | .int _ :: _, _, h => by cases h
  | .str _ :: _, _, h => by cases h
  | .tup _ :: _, _, h => by cases h
  | .lst _ :: _, _, h => by cases h
  | .dct _ :: _, _, h => by cases h
  | .exn _ _ :: _, _, h => by cases h
theorem intsD_map : ∀ ns : List Int, intsD (ns.map .int) = some ns
  | [] => rfl
  | n :: ns => by simp only [List.map_cons, intsD, intsD_map ns, Option.map_some]
theorem blsD_map : ∀ ns : List Bool, blsD (ns.map .bl) = some ns
  | [] => rfl
  | n :: ns => by simp only [List.map_cons, blsD, blsD_map ns, Option.map_some]
theorem RpL.bls : ∀ {vs : List V} {ns : List Bool}, RpL X.K H vs (ns.map .bl) → vs = ns.map V.bl
  | _, [], h => by cases h; rfl
  | _, n :: ns, h => by
    cases h with
    | cons h t => cases h; rw [RpL.bls t]; rfl
def dAll : List D → Option D
  | [.lst ds] => (blsD ds).map fun bs => .bl (bs.all id)
  | _ => none
def dAny : List D → Option D
  | [.lst ds] => (blsD ds).map fun bs => .bl (bs.any id)
  | _ => none
theorem dAll_inv {ds : List D} {r : D} (h : dAll ds = some r) : ∃ bs : List Bool, ds = [.lst (bs.map .bl)] ∧ r = .bl (bs.all id) := by
  unfold dAll at h
  split at h
  · rename_i es
    cases hb : blsD es with
    | none => rw [hb] at h; cases h
    | some bs => rw [hb] at h; cases h; exact ⟨bs, by rw [blsD_inv hb], rfl⟩
  · cases h
theorem dAny_inv {ds : List D} {r : D} (h : dAny ds = some r) : ∃ bs : List Bool, ds = [.lst (bs.map .bl)] ∧ r = .bl (bs.any id) := by
  unfold dAny at h
  split at h
  · rename_i es
    cases hb : blsD es with
    | none => rw [hb] at h; cases h
    | some bs => rw [hb] at h; cases h; exact ⟨bs, by rw [blsD_inv hb], rfl⟩
  · cases h
theorem call_allD (hc : X.calm = true) : CallR X (.builtin "all") (rDC X.K dAll) := by
  intro pins s σ H xs us Q I r h
  obtain ⟨ds, d, hd, hg, q⟩ := h
  obtain ⟨bs, rfl, rfl⟩ := dAll_inv hg
  obtain ⟨x, rfl, hx⟩ := one_inv hd
  cases hx with
  | @lst p o ys _ h1 h2 => exact cr_all hc pins s σ H _ us Q I r ⟨p, bs, rfl, by rw [← h2.bls]; exact .inl (.inr ⟨o, h1⟩), q _ _ (.refl H) (.bl _)⟩
theorem call_anyD (hc : X.calm = true) : CallR X (.builtin "any") (rDC X.K dAny) := by
  intro pins s σ H xs us Q I r h
  obtain ⟨ds, d, hd, hg, q⟩ := h
  obtain ⟨bs, rfl, rfl⟩ := dAny_inv hg
  obtain ⟨x, rfl, hx⟩ := one_inv hd
  cases hx with
  | @lst p o ys _ h1 h2 => exact cr_any hc pins s σ H _ us Q I r ⟨p, bs, rfl, by rw [← h2.bls]; exact .inl (.inr ⟨o, h1⟩), q _ _ (.refl H) (.bl _)⟩
def dSum : List D → Option D
  | [.lst ds] => (intsD ds).map fun ns => .int ns.sum
  | [.tup ds] => (intsD ds).map fun ns => .int ns.sum
  | _ => none
theorem dSum_inv {ds : List D} {r : D} (h : dSum ds = some r) : ∃ ns : List Int, (ds = [.lst (ns.map .int)] ∨ ds = [.tup (ns.map .int)]) ∧ r = .int ns.sum := by
  unfold dSum at h
  split at h
  · rename_i es
    cases hb : intsD es with
    | none => rw [hb] at h; cases h
    | some bs => rw [hb] at h; cases h; exact ⟨bs, .inl (by rw [intsD_inv hb]), rfl⟩
  · rename_i es
    cases hb : intsD es with
    | none => rw [hb] at h; cases h
    | some bs => rw [hb] at h; cases h; exact ⟨bs, .inr (by rw [intsD_inv hb]), rfl⟩
  · cases h
theorem call_sumD (hc : X.calm = true) : CallR X (.builtin "sum") (rDC X.K dSum) := by
  intro pins s σ H xs us Q I r h
  obtain ⟨ds, d, hd, hg, q⟩ := h
  obtain ⟨ns, rfl | rfl, rfl⟩ := dSum_inv hg
  · obtain ⟨x, rfl, hx⟩ := one_inv hd
    cases hx with
    | @lst p o ys _ h1 h2 => exact cr_sum hc pins s σ H _ us Q I r ⟨p, ns, rfl, by rw [← h2.ints]; exact .inl (.inr ⟨o, h1⟩), q _ _ (.refl H) (.int _)⟩
  · obtain ⟨x, rfl, hx⟩ := one_inv hd
    cases hx with
    | @tup p ys _ h1 h2 =>
      rw [Vals.ref1 r]
      obtain ⟨its, rv, ht, _⟩ := I.tuple (SqT.of (K := X.K) h1)
      rw [h2.ints] at rv
      have hi := rv.ints
      obtain ⟨zs, e⟩ := hi.allInts.items
      have hn : numsOf (intItems zs).toList = ns := by rw [← e]; exact hi.numsOf
      rw [nums_intItems] at hn
      rw [e] at ht
      refine PySem.W.ktm_sumG (I.ok.hd hc) ht fun h' tk t' hk => ?_
      rw [preSum_eq, List.take_of_length_le (by simp), hn]
      exact ⟨.int _, H, I.kept hk, ⟨_, rfl⟩, q _ _ (.refl H) (.int _)⟩
def dMin2 : List D → Option D
  | [.int i, .int j] => some (.int (if j < i then j else i))
  | _ => none
def dMax2 : List D → Option D
  | [.int i, .int j] => some (.int (if j > i then j else i))
  | _ => none
def dAbs : List D → Option D
  | [.int i] => some (.int (if i < 0 then -i else i))
  | _ => none
def dInt : List D → Option D
  | [.int i] => some (.int i)
  | [.bl k] => some (.int (if k then 1 else 0))
  | _ => none
theorem call_min2D (hc : X.calm = true) : CallR X (.builtin "min") (rDC X.K dMin2) := by
  intro pins s σ H xs us Q I r h
  obtain ⟨ds, d, hd, hg, q⟩ := h
  unfold dMin2 at hg
  split at hg
  · rename_i i j
    cases hg
    obtain ⟨x, y, rfl, h1, h2⟩ := two_inv hd
    exact call_min2 hc pins s σ H _ us Q I r ⟨i, j, by rw [h1.int_inv, h2.int_inv], q _ _ (.refl H) (.int _)⟩
  · cases hg
theorem call_max2D (hc : X.calm = true) : CallR X (.builtin "max") (rDC X.K dMax2) := by
  intro pins s σ H xs us Q I r h
  obtain ⟨ds, d, hd, hg, q⟩ := h
  unfold dMax2 at hg
  split at hg
  · rename_i i j
    cases hg
    obtain ⟨x, y, rfl, h1, h2⟩ := two_inv hd
    exact call_max2 hc pins s σ H _ us Q I r ⟨i, j, by rw [h1.int_inv, h2.int_inv], q _ _ (.refl H) (.int _)⟩
  · cases hg
theorem call_absD : CallR X (.builtin "abs") (rDC X.K dAbs) := by
  intro pins s σ H xs us Q I r h
  obtain ⟨ds, d, hd, hg, q⟩ := h
  unfold dAbs at hg
  split at hg
  · rename_i i
    cases hg
    obtain ⟨x, rfl, h1⟩ := one_inv hd
    exact call_abs pins s σ H _ us Q I r ⟨i, by rw [h1.int_inv], q _ _ (.refl H) (.int _)⟩
  · cases hg
theorem call_intD : CallR X (.type "int") (rDC X.K dInt) := by
  intro pins s σ H xs us Q I r h
  obtain ⟨ds, d, hd, hg, q⟩ := h
  unfold dInt at hg
  split at hg
  · rename_i i
    cases hg
    obtain ⟨x, rfl, h1⟩ := one_inv hd
    exact call_int1 pins s σ H _ us Q I r (.inl ⟨i, by rw [h1.int_inv], q _ _ (.refl H) (.int _)⟩)
  · rename_i k
    cases hg
    obtain ⟨x, rfl, h1⟩ := one_inv hd
    exact call_int1 pins s σ H _ us Q I r (.inr ⟨k, by rw [h1.bl_inv], q _ _ (.refl H) (.int _)⟩)
  · cases hg
end
end PU
set_option maxHeartbeats 4000000
namespace PU
open PySem PySem.Spec PyProof.Rows L2

/-! ### a list of one's own: read, compared, changed -/
section
variable {X : Cx} {G : GC} {E : XK} {a b c : Expr} {es : List Expr} {pos : Pos} {st : Stmt} {sts : List Stmt}
theorem MtM.r {id : String} {r : V → List V → Hp → VK → Prop} (h : MtM X id r) : MtR X id r := fun pins s σ H x xs v us Q I rx rv q => h pins s σ H x xs v us Q I rx rv q
/-- the list in slot i, known from now on -/
def eTake (i : Nat) : Ev D := fun ρ => match svAt ρ i with
  | .ol ds => .ok (.lst ds) (ρ.set i (.st (.lst ds)))
  | .st d => .ok d ρ
  | _ => .bad
theorem xe_take {i : Nat} {x : Str} (hi : i ∉ G.ow) (h : PE X (.Name x pos) (tVar i)) : PE X (.Name x pos) (trE X.K G E (eTake i)) :=
  PE.imp (PE.fz h) fun σ H Q ⟨ρ, ok, h⟩ => by
    simp only [eTake] at h
    cases hs : svAt ρ i with
    | ol ds =>
      rw [hs] at h
      obtain ⟨a, xs, hv, ha, r⟩ := ok.ol hs
      refine ⟨_, hv, ?_⟩
      refine ⟨fun b u e1 e2 e3 o => ?_, fun z => ?_⟩
      · cases e1
        rw [ha] at e2
        cases e2
        obtain ⟨ok2, ex, rp⟩ := ok.fzL hi hs hv ha r o
        exact h _ _ ex ok2 rp
      · have := z a _ rfl ha
        simp [isLD] at this
    | st d =>
      rw [hs] at h
      obtain ⟨v, hv, r⟩ := ok.st hs
      refine ⟨v, hv, ?_⟩
      refine ⟨fun b u e1 e2 e3 o => ?_, fun z => h.now ok r⟩
      subst e1
      exfalso
      cases r with
      | tup h1 _ => rw [h1] at e2; cases e2; exact absurd e3 (by simp [isLD, ExcO])
      | lst h1 _ => rw [h1] at e2; cases e2; exact absurd e3 (by simp [isLD, ExcO])
      | dk h1 _ _ _ => rw [h1] at e2; cases e2; exact absurd e3 (by simp [isLD, ExcO])
      | dt h1 _ _ _ => rw [h1] at e2; cases e2; exact absurd e3 (by simp [isLD, ExcO])
      | exn0 h1 => rw [h1] at e2; cases e2; exact absurd e3 (by simp [isLD, ExcO])
      | exn h1 _ _ _ => rw [h1] at e2; cases e2; exact absurd e3 (by simp [isLD, ExcO])
    | un => rw [hs] at h; exact h.elim
    | od kvs => rw [hs] at h; exact h.elim
    | dr s => rw [hs] at h; exact h.elim
/-- len of one's own list -/
def eOLen (i : Nat) : Ev D := fun ρ => match svAt ρ i with
  | .ol ds => .ok (.int ds.length) ρ
  | _ => .bad
theorem xe_olen {i : Nat} {y : Str} {py p : Pos} (hg : Gl X "len") (hm : X.mg "len" = none) (hv : PE X (.Name y py) (tVar i))
    (he : starEach [.Name y py] X.env = (false, eval (.Name y py) X.env) :: starEach [] X.env := by rfl) (hpl : (backTo pos (starEach [] X.env)).any (·.1) = false := by rfl) :
    PE X (.Call (.Name "len" p) [.Name y py] [] pos) (trE X.K G E (eOLen i)) :=
  PE.imp (pe_callB call_len_seq hg hm (by decide +kernel) (pa_cons hv pa_nil he) (by decide) (by decide) he hpl) fun σ H Q ⟨ρ, ok, h⟩ => by
    simp only [eOLen] at h
    split at h
    · rename_i ds hs
      obtain ⟨a, xs, hv, ha, r⟩ := ok.ol hs
      exact ⟨_, hv, a, xs, rfl, .inl (.inl (.inl ha)), h.now ok (by rw [r.length]; exact .int _)⟩
    · exact h.elim
/-- own != [..] -/
def eONe (i : Nat) (f : Ev D) : Ev D := fun ρ => match svAt ρ i with
  | .ol _ => (f ρ).bind fun y ρ1 => match svAt ρ1 i with
    | .ol ds => lift (dNe (.lst ds) y) ρ1
    | _ => .bad
  | _ => .bad
theorem ol_dp {K : PySem.W.Frag} {H : Hp} {a : Addr} {xs : List V} {ds : List D} (ha : H a = some (.lst xs)) (r : RpL K H xs ds) {n : Nat} (h : okd (n + 1) (.lst ds) = true) : Dp K H (.ref a) (D.lst ds).py := by
  have all : ∀ (ds : List D) (xs : List V), RpL K H xs ds → ds.all (okd n) = true → DpAll K H xs (D.pyL ds) := by
    intro ds
    induction ds with
    | nil => intro xs r _; cases r; exact .nil
    | cons d ds ih =>
      intro xs r h
      rw [List.all_cons, Bool.and_eq_true] at h
      cases r with
      | cons h1 h2 => exact .cons ((okd_ok n d h.1).2.2 _ _ _ h1) (ih _ h2 h.2)
  exact .lst (.inl (.inl ha)) (all ds xs r h)
theorem one_ne_of {i : Nat} {f : Ev D} {σ : L2.St} {H : Hp} {Q : VK} (h : trE X.K G E (eONe i f) σ H Q) : tVar i σ H fun x H1 => trE X.K G E f σ H1 fun y H2 => L2.rNeD X.K x y H2 Q := by
    obtain ⟨ρ, ok, h⟩ := h
    simp only [eONe] at h
    split at h
    · rename_i ds hs
      obtain ⟨a, xs, hv, ha, r⟩ := ok.ol hs
      refine ⟨_, hv, ρ, ok, h.bindE.imp fun v H1 ⟨d, ρ1, e1, ok1, r1, h1⟩ => ?_⟩
      split at h1
      · rename_i ds' hs'
        obtain ⟨a', xs', hv', ha', r'⟩ := ok1.ol hs'
        rw [hv] at hv'
        cases hv'
        cases hg : dNe (.lst ds') d with
        | none => rw [hg] at h1; exact h1.elim
        | some z =>
          rw [hg] at h1
          simp only [dNe] at hg
          split at hg
          · rename_i hc
            rw [Bool.and_eq_true] at hc
            cases hg
            exact ⟨_, _, ol_dp ha' r' hc.1, (okd_ok 60 d hc.2).2.2 _ _ _ r1, okd_shaped hc.1, okd_shaped hc.2, h1.now ok1 (.bl _)⟩
          · cases hg
      · exact h1.elim
    · exact h.elim
theorem xe_one_ne {i : Nat} {y : Str} {py : Pos} {f : Ev D} (hu : X.A.units + 64 < cLine) (hv : PE X (.Name y py) (tVar i)) (hb : PE X b (trE X.K G E f)) (hm : behindInMarks .NotEq b = false) : PE X (.Compare (.Name y py) [.NotEq] [b] pos) (trE X.K G E (eONe i f)) :=
  PE.imp (pe_cmpR (L2.op_neD hu) hv hb hm) fun σ H Q h => one_ne_of h
theorem xt_one_ne {i : Nat} {y : Str} {py : Pos} {f : Ev D} (hu : X.A.units + 64 < cLine) (hv : PE X (.Name y py) (tVar i)) (hb : PE X b (trE X.K G E f)) (hm : behindInMarks .NotEq b = false) : PT X (.Compare (.Name y py) [.NotEq] [b] pos) (trT X.K G E (tV (eONe i f))) :=
  PT.imp (pt_cmpR (L2.op_neD hu) hv hb hm) fun σ H Q h => one_ne_of (tV_of h)
/-- own.append(e) -/
def eApp (i : Nat) (f : Ev D) : Ev D := fun ρ => match svAt ρ i with
  | .ol _ => (f ρ).bind fun d ρ1 => match svAt ρ1 i with
    | .ol ds => if ds.length < sizeLine then .ok .non (ρ1.set i (.ol (ds ++ [d]))) else .bad
    | _ => .bad
  | _ => .bad
theorem tyV_list {K : PySem.W.Frag} {H : Hp} {a : Addr} {xs : List V} (ha : H a = some (.lst xs)) : tyV K "list" (.ref a) H := .inl ⟨rfl, xs, .inl (.inl ha)⟩
theorem xe_append {i : Nat} {y : Str} {py apos : Pos} {f : Ev D} (hv : PE X (.Name y py) (tVar i)) (ha : PE X a (trE X.K G E f))
    (hbase : attributeBase (.Name y py) "append" X.env (eval (.Name y py) X.env) = eval (.Name y py) X.env := by rfl)
    (hfew : ((backTo pos (starEach [a] X.env)).all (fun x => !x.1) && (backToKw pos (keywordEach [] X.env)).all (fun x => x.1.isSome)
      && decide ([a].length + ([] : List Keyword).length + (if ([] : List Keyword).isEmpty then 0 else 1) < 30)) = true := by rfl)
    (hline : (apos.endLine == pos.line) = true := by rfl) (hs : starEach [a] X.env = (false, eval a X.env) :: starEach [] X.env := by rfl) (hplain : (backTo pos (starEach [] X.env)).any (·.1) = false := by rfl) :
    PE X (.Call (.Attribute (.Name y py) "append" apos) [a] [] pos) (trE X.K G E (eApp i f)) :=
  PE.imp (pe_bm F.plainAttrs_list F.slot_list_append (by rfl) (MtM.r mt_append) hv (pa_cons ha pa_nil hs) hbase hfew hline hs hplain) fun σ H Q ⟨ρ, ok, h⟩ => by
    simp only [eApp] at h
    split at h
    · rename_i ds hs
      obtain ⟨l, xs, hv, hl, r⟩ := ok.ol hs
      refine ⟨_, hv, tyV_list hl, ρ, ok, h.bindE.imp fun v H1 ⟨d, ρ1, e1, ok1, r1, h1⟩ => ?_⟩
      split at h1
      · rename_i ds' hs'
        obtain ⟨l', xs', hv', hl', r'⟩ := ok1.ol hs'
        rw [hv] at hv'
        cases hv'
        split at h1
        · rename_i hz
          obtain ⟨ok2, e2⟩ := ok1.updL (ys := xs' ++ [v]) (es := ds' ++ [d]) hs' hv hl' fun ex => (r'.ext ex).append (.cons (r1.ext ex) .nil)
          exact ⟨l, xs', v, rfl, rfl, hl', by rw [r'.length]; exact hz, h1 _ _ e2 ok2 .non⟩
        · exact h1.elim
      · exact h1.elim
    · exact h.elim
/-- own.pop() -/
def ePop (i : Nat) : Ev D := fun ρ => match svAt ρ i with
  | .ol ds => match ds[ds.length - 1]? with
    | some d => .ok d (ρ.set i (.ol ds.dropLast))
    | none => .bad
  | _ => .bad
theorem xe_pop {i : Nat} {y : Str} {py apos : Pos} (hv : PE X (.Name y py) (tVar i)) (hbase : attributeBase (.Name y py) "pop" X.env (eval (.Name y py) X.env) = eval (.Name y py) X.env := by rfl) (hline : (apos.endLine == pos.line) = true := by rfl) :
    PE X (.Call (.Attribute (.Name y py) "pop" apos) [] [] pos) (trE X.K G E (ePop i)) :=
  PE.imp (pe_bm0 F.plainAttrs_list F.slot_list_pop (by rfl) (MtM.r mt_pop) hv hbase hline) fun σ H Q ⟨ρ, ok, h⟩ => by
    simp only [ePop] at h
    split at h
    · rename_i ds hs
      obtain ⟨l, xs, hv, hl, r⟩ := ok.ol hs
      split at h
      · rename_i d hd
        obtain ⟨v, hv2, rv⟩ := r.getD hd
        obtain ⟨ok2, e2⟩ := ok.updL (ys := xs.dropLast) (es := ds.dropLast) hs hv hl fun ex => (r.ext ex).dropLast
        exact ⟨_, hv, tyV_list hl, l, xs, v, rfl, rfl, hl, by rw [r.length]; exact hv2, h _ _ e2 ok2 (rv.ext e2)⟩
      · exact h.elim
    · exact h.elim
/-- own.pop(e) -/
def popIx (j : Int) (n : Nat) : Option Nat := if -(2 ^ 63) ≤ j ∧ j < 2 ^ 63 then seqIndex? j n else none
def ePopAt (i : Nat) (f : Ev D) : Ev D := fun ρ => match svAt ρ i with
  | .ol _ => (f ρ).bind fun x ρ1 => match svAt ρ1 i, x with
    | .ol ds, .int j => match popIx j ds.length with
      | some k => match ds[k]? with
        | some d => .ok d (ρ1.set i (.ol (ds.eraseIdx k)))
        | none => .bad
      | none => .bad
    | _, _ => .bad
  | _ => .bad
theorem xe_popAt {i : Nat} {y : Str} {py apos : Pos} {f : Ev D} (hv : PE X (.Name y py) (tVar i)) (ha : PE X a (trE X.K G E f))
    (hbase : attributeBase (.Name y py) "pop" X.env (eval (.Name y py) X.env) = eval (.Name y py) X.env := by rfl)
    (hfew : ((backTo pos (starEach [a] X.env)).all (fun x => !x.1) && (backToKw pos (keywordEach [] X.env)).all (fun x => x.1.isSome)
      && decide ([a].length + ([] : List Keyword).length + (if ([] : List Keyword).isEmpty then 0 else 1) < 30)) = true := by rfl)
    (hline : (apos.endLine == pos.line) = true := by rfl) (hs : starEach [a] X.env = (false, eval a X.env) :: starEach [] X.env := by rfl) (hplain : (backTo pos (starEach [] X.env)).any (·.1) = false := by rfl) :
    PE X (.Call (.Attribute (.Name y py) "pop" apos) [a] [] pos) (trE X.K G E (ePopAt i f)) :=
  PE.imp (pe_bm F.plainAttrs_list F.slot_list_pop (by rfl) (MtM.r mt_popAt) hv (pa_cons ha pa_nil hs) hbase hfew hline hs hplain) fun σ H Q ⟨ρ, ok, h⟩ => by
    simp only [ePopAt] at h
    split at h
    · rename_i ds hs
      obtain ⟨l, xs, hv, hl, r⟩ := ok.ol hs
      refine ⟨_, hv, tyV_list hl, ρ, ok, h.bindE.imp fun v H1 ⟨x, ρ1, e1, ok1, r1, h1⟩ => ?_⟩
      split at h1
      · rename_i ds' j hs'
        obtain ⟨l', xs', hv', hl', r'⟩ := ok1.ol hs'
        rw [hv] at hv'
        cases hv'
        split at h1
        · rename_i k hk
          split at h1
          · rename_i d hd
            obtain ⟨u, hu, ru⟩ := r'.getD hd
            obtain ⟨ok2, e2⟩ := ok1.updL (ys := xs'.eraseIdx k) (es := ds'.eraseIdx k) hs' hv hl' fun ex => (r'.ext ex).eraseIdx k
            unfold popIx at hk
            split at hk
            · rename_i hb
              exact ⟨l, xs', j, k, u, rfl, by rw [r1.int_inv], hl', hb.1, hb.2, by rw [r'.length]; exact hk, hu, h1 _ _ e2 ok2 (ru.ext e2)⟩
            · cases hk
          · exact h1.elim
        · exact h1.elim
      · exact h1.elim
    · exact h.elim
/-- own.extend(a new list) -/
def eExt (i : Nat) (Fl : Ev (List D)) : Ev D := fun ρ => match svAt ρ i with
  | .ol _ => (Fl ρ).bind fun fs ρ1 => match svAt ρ1 i with
    | .ol ds => if ds.length + fs.length ≤ sizeLine then .ok .non (ρ1.set i (.ol (ds ++ fs))) else .bad
    | _ => .bad
  | _ => .bad
theorem xe_extend {i : Nat} {y : Str} {py apos : Pos} {Fl : Ev (List D)} (hv : PE X (.Name y py) (tVar i)) (ha : PE X a (trN X.K G E Fl))
    (hbase : attributeBase (.Name y py) "extend" X.env (eval (.Name y py) X.env) = eval (.Name y py) X.env := by rfl)
    (hfew : ((backTo pos (starEach [a] X.env)).all (fun x => !x.1) && (backToKw pos (keywordEach [] X.env)).all (fun x => x.1.isSome)
      && decide ([a].length + ([] : List Keyword).length + (if ([] : List Keyword).isEmpty then 0 else 1) < 30)) = true := by rfl)
    (hline : (apos.endLine == pos.line) = true := by rfl) (hs : starEach [a] X.env = (false, eval a X.env) :: starEach [] X.env := by rfl) (hplain : (backTo pos (starEach [] X.env)).any (·.1) = false := by rfl) :
    PE X (.Call (.Attribute (.Name y py) "extend" apos) [a] [] pos) (trE X.K G E (eExt i Fl)) :=
  PE.imp (pe_bm F.plainAttrs_list F.slot_list_extend (by rfl) (MtM.r mt_extend) hv (pa_cons ha pa_nil hs) hbase hfew hline hs hplain) fun σ H Q ⟨ρ, ok, h⟩ => by
    simp only [eExt] at h
    split at h
    · rename_i ds hs
      obtain ⟨l, xs, hv, hl, r⟩ := ok.ol hs
      refine ⟨_, hv, tyV_list hl, ρ, ok, ?_⟩
      cases hF : Fl ρ with
      | bad => rw [hF] at h; exact h
      | ex x ρ1 => rw [hF] at h; exact h
      | ok fs ρ1 =>
        rw [hF] at h
        intro p zs H1 e1 ok1 r1
        simp only [Res.bind] at h
        split at h
        · rename_i ds' hs'
          obtain ⟨l', xs', hv', hl', r'⟩ := ok1.ol hs'
          rw [hv] at hv'
          cases hv'
          split at h
          · rename_i hz
            obtain ⟨ok2, e2⟩ := ok1.updL (ys := xs' ++ zs) (es := ds' ++ fs) hs' hv hl' fun ex => (r'.ext ex).append (r1.ext ex)
            exact ⟨l, p, xs', zs, rfl, rfl, hl', ok1.prAt, by rw [r'.length, r1.length]; exact hz, h _ _ (e1.trans e2) ok2.unpr .non⟩
          · exact h.elim
        · exact h.elim
    · exact h.elim

/-! ### anything that is not to be met -/
def eBad : Ev D := fun _ => .bad
def tBad : Ev Bool := fun _ => .bad
def nBad : Ev (List D) := fun _ => .bad
def sBad : Sv := fun _ => .bad
theorem xe_bad : PE X a (trE X.K G E eBad) := ⟨fun pins s σ H Q I ⟨_, _, h⟩ => h.elim⟩
theorem xt_bad : PT X a (trT X.K G E tBad) := ⟨fun pins s σ H Q I ⟨_, _, h⟩ => h.elim⟩
theorem xn_bad : PE X a (trN X.K G E nBad) := ⟨fun pins s σ H Q I ⟨_, _, h⟩ => h.elim⟩
theorem xs_bad : PS X st (trS X.K G E sBad) := ⟨fun pins s σ H Q I ⟨_, _, h⟩ => h.elim⟩
theorem xss_bad : PSs X sts (trS X.K G E sBad) := ⟨fun pins s σ H Q I ⟨_, _, h⟩ => h.elim⟩
end
end PU
set_option maxHeartbeats 4000000
namespace PU
open PySem PySem.Spec PyProof.Rows L2

section
variable {X : Cx} {G : GC} {E : XK} {a b c : Expr} {es : List Expr} {pos : Pos} {st : Stmt} {sts : List Stmt}
/-! ### walks: texts, dicts, enumerate -/
def chD (z : Str) : List D := z.cps.toList.map fun c => .str ⟨#[c]⟩
theorem yl_str {K : PySem.W.Frag} {H : Hp} {z : Str} : Yl K (Its z) H (chD z) where
  go := fun i H' e hi => by
    have h : i < z.cps.size := by simpa [chD] using hi
    exact h
  stop := fun i H' e hi0 => by
    have hi := Nat.le_of_eq hi0
    have h : z.cps.size ≤ i := by simpa [chD] using hi
    exact h
  yld := fun i H' x H'' e hi y => by
    obtain ⟨e1, c, e2, e3⟩ := y
    subst e1 e3
    refine ⟨.refl _, .str ⟨#[c]⟩, ?_, .str _⟩
    simp [chD, e2]
theorem rp_key {K : PySem.W.Frag} {H : Hp} (k : Key) : Rp K H (kV k) (keyD k) := by
  cases k with
  | inl i => exact .int i
  | inr x => exact .str x
theorem rpl_keys {K : PySem.W.Frag} {H : Hp} : ∀ ks : List Key, RpL K H (ks.map kV) (ks.map keyD)
  | [] => .nil
  | k :: ks => .cons (rp_key k) (rpl_keys ks)
theorem zip_at {α β : Type} {ks : List α} {xs : List β} {i : Nat} {k : α} {v : β} (h : (ks.zip xs)[i]? = some (k, v)) : ks[i]? = some k := (List.getElem?_zip_eq_some.mp h).1
theorem zip_fst {α β : Type} : ∀ {ks : List α} {xs : List β}, ks.length = xs.length → (ks.zip xs).map (·.1) = ks
  | [], [], _ => rfl
  | k :: ks, x :: xs, h => by simp only [List.zip_cons_cons, List.map_cons, zip_fst (by simpa using h : ks.length = xs.length)]
  | [], _ :: _, h => by simp at h
  | _ :: _, [], h => by simp at h
theorem yl_dk {K : PySem.W.Frag} {H : Hp} {d : Addr} {o : Obj} {ks : List Key} {xs : List V} (h : H d = some (.frz o (.dK (ks.zip xs)))) (hl : ks.length = xs.length) : Yl K (Itk d o (ks.zip xs)) H (ks.map keyD) where
  go := fun i H' e hi => ⟨e _ _ h rfl, by rw [List.length_zip, ← hl, Nat.min_self]; simpa using hi⟩
  stop := fun i H' e hi0 => have hi := Nat.le_of_eq hi0; ⟨e _ _ h rfl, by rw [List.length_zip, ← hl, Nat.min_self]; simpa using hi⟩
  yld := fun i H' x H'' e hi y => by
    obtain ⟨e1, k, v, e2, e3⟩ := y
    subst e1 e3
    exact ⟨.refl _, keyD k, by simp [zip_at e2], rp_key k⟩
theorem yl_dt {K : PySem.W.Frag} {H : Hp} {d : Addr} {o : Obj} {ks : List (List Key)} {xs : List V} (h : H d = some (.frz o (.dT (ks.zip xs)))) (hl : ks.length = xs.length) : Yl K (Itkt d o (ks.zip xs)) H (ks.map tkD) where
  go := fun i H' e hi => ⟨e _ _ h rfl, by rw [List.length_zip, ← hl, Nat.min_self]; simpa using hi⟩
  stop := fun i H' e hi0 => have hi := Nat.le_of_eq hi0; ⟨e _ _ h rfl, by rw [List.length_zip, ← hl, Nat.min_self]; simpa using hi⟩
  yld := fun i H' x H'' e hi y => by
    obtain ⟨e1, k, v, q, e2, e3, e4⟩ := y
    subst e1 e3
    exact ⟨.refl _, tkD k, by simp [zip_at e2], .tup e4 (rpl_keys k)⟩
def dItemsA : D → Option (List D)
  | .lst ds => some ds
  | .tup ds => some ds
  | .str z => some (chD z)
  | .dct kvs => some (kvs.map (·.1))
  | _ => none
def iAny (f : Ev D) : Ev (List D) := fun ρ => (f ρ).bind fun x ρ1 => lift (dItemsA x) ρ1
def iAnyO (K : PySem.W.Frag) (tl : TE) : TI := fun σ H R => tl σ H fun x H1 => ((∃ p, x = .ref p ∧ (∃ xs, SqL K H1 p xs) ∧ R (Itl K p) H1) ∨ ∃ p, x = .ref p ∧ (∃ xs, SqT K H1 p xs) ∧ R (Itt K p) H1) ∨ (∃ z, x = .str z ∧ R (Its z) H1) ∨
  ∃ d o, x = .ref d ∧ ((∃ kvs, H1 d = some (.frz o (.dK kvs)) ∧ R (Itk d o kvs) H1) ∨ ∃ kvs, H1 d = some (.frz o (.dT kvs)) ∧ R (Itkt d o kvs) H1)
theorem pi_any {tg l : Expr} {tl : TE} (hl : PE X l tl) : PI X tg l (iAnyO X.K tl) := by
  have given : ∀ (t : TE) (h : ∀ pins s σ H Q, Inv X pins σ H s → t σ H Q → wpAny (model X.prog X.w) X.A (eval l X.env) (EP X pins σ Q) X.xe s), PE X l t := fun t h => ⟨h⟩
  refine ⟨fun pins s σ H R I h => ?_⟩
  refine thn (hl.run pins s σ H _ I h) fun v s1 ⟨x, H1, I1, r1, q1⟩ => ?_
  rcases q1 with q1 | ⟨z, e, q⟩ | ⟨d, o, e, q⟩
  · rcases q1 with ⟨p, e, ⟨xs, hq⟩, q⟩ | ⟨p, e, ⟨xs, hq⟩, q⟩
    · subst e
      cases r1
      obtain ⟨its, rv, pl, hz⟩ := I1.list hq
      exact wpAny_pyIter_list pl.isList (pi_one (tk := s1.toks) I1 _ (turn_list p _) ⟨_, Heap.get?_push_size _ rfl, rfl, rfl⟩ q)
    · subst e
      cases r1
      obtain ⟨its, rv, pt, hz⟩ := I1.tuple hq
      exact wpAny_pyIter_tuple (show s1.heap.IsTuple p its.toArray from pt) (pi_one (tk := s1.toks) I1 _ (turn_tuple p _) ⟨_, Heap.get?_push_size _ rfl, rfl, rfl⟩ q)
  · subst e
    obtain ⟨t, rfl⟩ := r1
    cases ha : z.cps.all (· < 128) with
    | false => exact wpAny_pyIter_wide ha (pi_one (tk := s1.toks) I1 _ (turn_str _ z t _ (.inr rfl)) ⟨_, Heap.get?_push_size _ rfl, rfl, rfl⟩ q)
    | true => exact wpAny_pyIter_ascii ha (pi_one (tk := s1.toks) I1 _ (turn_str _ z t _ (.inl rfl)) ⟨_, Heap.get?_push_size _ rfl, rfl, rfl⟩ q)
  · subst e
    cases r1
    rcases q with ⟨kvs, hd, q⟩ | ⟨kvs, hd, q⟩
    · obtain ⟨hs, hgd, hx, es, ep, vs, hdt, hsz, kv, hm⟩ := I1.frzK hd
      exact iter_keys hs hgd hx hdt (pi_one (tk := s1.toks) I1 _ (turn_keys _ hdt) ⟨_, Heap.get?_push_size _ rfl, rfl, by rw [hsz] <;> rfl⟩ q)
    · obtain ⟨hs, hgd, hx, es, ep, hdt, hsz, ent⟩ := I1.frzT hd
      exact iter_keys hs hgd hx hdt (pi_one (tk := s1.toks) I1 _ (turn_keysT _ hdt) ⟨_, Heap.get?_push_size _ rfl, rfl, by rw [hsz] <;> rfl⟩ q)
theorem xi_any {tg : Expr} {f : Ev D} (ha : PE X a (trE X.K G E f)) : PI X tg a (trI X.K G E (iAny f)) :=
  PI.imp (pi_any ha) fun σ H R ⟨ρ, ok, h⟩ => ⟨ρ, ok, atE.imp (atI'.bindE h) fun v H1 ⟨d, ρ1, e1, ok1, r1, h1⟩ => by
    cases r1 with
    | @lst p o xs ds h2 h3 => exact .inl (.inl ⟨p, rfl, ⟨xs, .inl (.inr ⟨o, h2⟩)⟩, h1 _ H1 (.refl _) ok1 (yl_lst h2 h3)⟩)
    | @tup p xs ds h2 h3 => exact .inl (.inr ⟨p, rfl, ⟨xs, .of h2⟩, h1 _ H1 (.refl _) ok1 (yl_tup h2 h3)⟩)
    | str z => exact .inr (.inl ⟨z, rfl, h1 _ H1 (.refl _) ok1 yl_str⟩)
    | @dk p o kvs ks xs ds h2 h3 h4 h5 =>
      subst h3
      refine .inr (.inr ⟨p, o, rfl, .inl ⟨_, h2, ?_⟩⟩)
      simp only [dItemsA, lift, zip_fst (show (ks.map keyD).length = ds.length by rw [List.length_map, h4, h5.length])] at h1
      exact h1 _ H1 (.refl _) ok1 (yl_dk h2 h4)
    | @dt p o kvs ks xs ds h2 h3 h4 h5 =>
      subst h3
      refine .inr (.inr ⟨p, o, rfl, .inr ⟨_, h2, ?_⟩⟩)
      simp only [dItemsA, lift, zip_fst (show (ks.map tkD).length = ds.length by rw [List.length_map, h4, h5.length])] at h1
      exact h1 _ H1 (.refl _) ok1 (yl_dt h2 h4)
    | _ => exact h1.elim⟩
/-- pairs of a number and an item -/
def enumD (ds : List D) : List D := ds.mapIdx fun i d => .tup [.int (i : Nat), d]
theorem yl_enum {K : PySem.W.Frag} {H : Hp} {p : Addr} {o : Obj} {xs : List V} {ds : List D} (h : H p = some (.frz o (.lst xs))) (r : RpL K H xs ds) : Yl K (Ite K p) H (enumD ds) where
  go := fun i H' e hi => by
    have hi : i < ds.length := by simpa [enumD] using hi
    exact ⟨xs, xs[i]'(by rw [r.length]; exact hi), .inl (.inr ⟨o, e _ _ h rfl⟩), List.getElem?_eq_getElem _⟩
  stop := fun i H' e hi0 => by
    have hi := Nat.le_of_eq hi0
    have hi : ds.length ≤ i := by simpa [enumD] using hi
    exact ⟨xs, .inl (.inr ⟨o, e _ _ h rfl⟩), by rw [r.length]; exact hi⟩
  yld := fun i H' x H'' e hi y => by
    obtain ⟨T, x1, rfl, hT, rfl, f1⟩ := y
    have s : Same H' (upd H' T (.tup [.int (i : Nat), x1])) := same_upd hT
    obtain ⟨d, hd, rd⟩ := r.get (f1 xs (.inl (.inr ⟨o, e _ _ h rfl⟩)))
    exact ⟨s, .tup [.int (i : Nat), d], by simp [enumD, hd], .tup upd_same (.cons (.int _) (.cons (rd.ext (e.trans (.of s))) .nil))⟩
def dEnum : List D → Option (List D)
  | [.lst ds] => some (enumD ds)
  | _ => none
theorem dEnum_inv {ds es : List D} (h : dEnum ds = some es) : ∃ a, ds = [.lst a] ∧ es = enumD a := by
  unfold dEnum at h
  split at h
  · cases h; exact ⟨_, rfl, rfl⟩
  · cases h
theorem xi_enum {l : Ev (List D)} {p tpos : Pos} {elts : List Expr} {kk : Nat} (hg : Gl X "enumerate") (hm : X.mg "enumerate" = none) (ha : PA X [a] (trL X.K G E l))
    (hs : starEach [a] X.env = [(false, eval a X.env)] := by rfl) : PI X (.Tuple elts kk tpos) (.Call (.Name "enumerate" p) [a] [] pos) (trI X.K G E (iCall dEnum l)) :=
  PI.imp (pi_enum hg hm ha hs) fun σ H R ⟨ρ, ok, h⟩ => ⟨ρ, ok, atL.imp (atI'.bindL h) fun vs H1 ⟨ds, ρ1, e1, ok1, r1, h1⟩ => by
    cases hg : dEnum ds with
    | none => rw [hg] at h1; exact h1.elim
    | some es =>
      rw [hg] at h1
      obtain ⟨as, rfl, rfl⟩ := dEnum_inv hg
      obtain ⟨v, rfl, q⟩ := one_inv r1
      cases q with
      | @lst p o xs _ g1 g2 => exact ⟨p, xs, rfl, .inl (.inr ⟨o, g1⟩), h1 _ H1 (.refl _) ok1 (yl_enum g1 g2)⟩⟩

/-! ### sorted -/
def neTup : D → Bool
  | .tup (_ :: _) => true
  | _ => false
def noTup : D → Bool
  | .tup _ => false
  | .non => false
  | .bl _ => true
  | .int _ => true
  | .str _ => true
  | .lst _ => true
  | _ => false
def srtOk (ds : List D) : Bool := decide (ds.length ≤ sizeLine) && ds.all (okd 60) && ds.all (fun d => ds.all fun e => PySem.W.alike d.py e.py) && (ds.all neTup || ds.all noTup)
noncomputable def srt (ds : List D) : List D := ds.mergeSort (PySem.W.dataLe false D.py)
noncomputable def dSorted : List D → Option D
  | [.lst ds] => if srtOk ds then some (.lst (srt ds)) else none
  | _ => none
theorem dSorted_inv {ds : List D} {r : D} (h : dSorted ds = some r) : ∃ es, ds = [.lst es] ∧ srtOk es = true ∧ r = .lst (srt es) := by
  unfold dSorted at h
  split at h
  · split at h
    · rename_i hc; cases h; exact ⟨_, rfl, hc, rfl⟩
    · cases h
  · cases h
theorem each_of {K : PySem.W.Frag} {H : Hp} {R : Value → D → Prop} (hR : ∀ x u d, RelV x u → Rp K H x d → R u d) : ∀ {xs : List V} {us : List Value} {ds : List D}, Vals xs us → RpL K H xs ds → PySem.W.EachIs R us ds
  | _, _, _, .nil, .nil => .nil
  | _, _, _, .cons r t, .cons h q => .cons (hR _ _ _ r h) (each_of hR t q)
theorem each_mem {K : PySem.W.Frag} {H : Hp} {R : Value → D → Prop} : ∀ {xs : List V} {us : List Value} {ds : List D}, (∀ d ∈ ds, ∀ x u, RelV x u → Rp K H x d → R u d) → Vals xs us → RpL K H xs ds → PySem.W.EachIs R us ds
  | _, _, _, _, .nil, .nil => .nil
  | _, _, _, hR, .cons r t, .cons h q => .cons (hR _ List.mem_cons_self _ _ r h) (each_mem (fun d hd => hR d (List.mem_cons_of_mem _ hd)) t q)
theorem each_back {K : PySem.W.Frag} {H : Hp} : ∀ {us : List Value} {ds : List D}, PySem.W.EachIs (fun u d => ∃ x, RelV x u ∧ Rp K H x d) us ds → ∃ xs, Vals xs us ∧ RpL K H xs ds
  | _, _, .nil => ⟨[], .nil, .nil⟩
  | _, _, .cons ⟨x, r, h⟩ t => by
    obtain ⟨xs, h1, h2⟩ := each_back t
    exact ⟨x :: xs, .cons r h1, .cons h h2⟩
theorem neTup_inv {d : D} (h : neTup d = true) : ∃ x r, d.py = .tuple (x :: r) := by
  cases d with
  | tup ds =>
    cases ds with
    | nil => cases h
    | cons x r => exact ⟨_, _, rfl⟩
  | _ => cases h
theorem noTup_inv {d : D} (h : noTup d = true) : d.py ≠ .none ∧ ∀ xs, d.py ≠ .tuple xs := by
  cases d <;> first | (cases h; done) | exact ⟨(fun z => nomatch z), (fun _ z => nomatch z)⟩
theorem call_sortedD (hu : X.A.units + 64 < cLine) : CallR X (.builtin "sorted") (rDC X.K dSorted) := by
  intro pins s σ H xs us Q I r h
  obtain ⟨ds, d, hd, hg, q⟩ := h
  obtain ⟨es, rfl, hc, rfl⟩ := dSorted_inv hg
  simp only [srtOk, Bool.and_eq_true, decide_eq_true_eq, Bool.or_eq_true] at hc
  obtain ⟨⟨⟨c1, c2⟩, c3⟩, c4⟩ := hc
  obtain ⟨x, rfl, hx⟩ := one_inv hd
  cases hx with
  | @lst p o ys _ h1 h2 =>
    obtain ⟨its, rv, pl, _⟩ := I.list (show SqL X.K H p ys from .inl (.inr ⟨o, h1⟩))
    rw [Vals.ref1 r]
    have rd : PySem.W.EachIs (fun u d => ∃ as, Reads s.heap u (D.py d) as) its es := each_mem (fun d hd x u rx hx => by
      have := List.all_eq_true.mp c2 d hd
      exact Dp.reads I _ x u ((okd_ok 60 d this).2.2 _ _ _ hx) rx) rv h2
    refine thn (PySem.W.sorted_data (bs := es) (enc := D.py) (R := fun u d => ∃ x, RelV x u ∧ Rp X.K H x d) (Q := EP X pins σ fun v H' => ∃ p zs, v = .ref p ∧ H p = none ∧ H' = upd H p (.lst zs) ∧ RpL X.K H zs (srt es)) pl.isList (each_of (fun x u d rx hx => ⟨x, rx, hx⟩) rv h2) rd (fun d hd d' hd' => ?_) ?_ c1 (fun b hb => ?_) fun out hl he => ?_) fun v s1 ⟨y, H', I', ry, p, zs, e1, e2, e3, rz⟩ => ?_
    · obtain ⟨b, hb, rfl⟩ := List.mem_map.mp hd
      obtain ⟨b', hb', rfl⟩ := List.mem_map.mp hd'
      exact List.all_eq_true.mp (List.all_eq_true.mp c3 b hb) b' hb'
    · rcases c4 with c4 | c4
      · exact .inl fun d hd => by
          obtain ⟨b, hb, rfl⟩ := List.mem_map.mp hd
          exact neTup_inv (List.all_eq_true.mp c4 b hb)
      · exact .inr fun d hd => by
          obtain ⟨b, hb, rfl⟩ := List.mem_map.mp hd
          exact noTup_inv (List.all_eq_true.mp c4 b hb)
    · have := (okd_ok 60 b (List.all_eq_true.mp c2 b hb)).2.1
      omega
    · obtain ⟨zs, v1, v2⟩ := each_back he
      obtain ⟨ep, he'⟩ := PyProof.Rows.sortedAll_at s.heap its out.toArray
      have hlen : zs.length ≤ sizeLine := by rw [v2.length]; simpa using c1
      exact ⟨.ref _, upd H (s.heap.objs.size + 1) (.lst zs), I.laid (t' := s.toks) (fun _ _ => PyProof.Rows.sortedAll_old) (Nat.le_succ _) ⟨hlen, out, ep, v1, he'⟩, rfl, _, zs, rfl, I.hok.fresh (Nat.le_succ _), rfl, v2⟩
    · subst e1 e3
      exact fz_ep ⟨_, _, I', ry, new_lst rz q p e2⟩

/-! ### texts -/
def strsD : List D → Option (List Str)
  | [] => some []
  | .str z :: r => (strsD r).map (z :: ·)
  | _ => none
theorem strsD_inv : ∀ {ds : List D} {zs : List Str}, strsD ds = some zs → ds = zs.map .str
  | [], _, h => by cases h; rfl
  | .str i :: r, ns, h => by
    simp only [strsD] at h
    cases hr : strsD r with
    | none => rw [hr] at h; cases h
    | some ms => rw [hr] at h; cases h; rw [strsD_inv hr]; rfl
  | .non :: _, _, h => by cases h
  | .bl _ :: _, _, h => by cases h
  | .int _ :: _, _, h => by cases h
  | .tup _ :: _, _, h => by cases h
  | .lst _ :: _, _, h => by cases h
  | .dct _ :: _, _, h => by cases h
  | .exn _ _ :: _, _, h => by cases h
theorem strsD_map : ∀ zs : List Str, strsD (zs.map .str) = some zs
  | [] => rfl
  | z :: zs => by simp only [List.map_cons, strsD, strsD_map zs, Option.map_some]
theorem RpL.strs : ∀ {vs : List V} {zs : List Str}, RpL X.K H vs (zs.map .str) → vs = zs.map V.str
  | _, [], h => by cases h; rfl
  | _, n :: ns, h => by
    cases h with
    | cons h t => cases h; rw [RpL.strs t]; rfl
/-- text.join(list) -/
def dJoin (x y : D) : Option D := match x, y with
  | .str z, .lst ds => (strsD ds).bind fun zs => if (zs.map (·.length)).sum + zs.length * z.length ≤ sizeLine then some (.str (Txt.join z zs)) else none
  | _, _ => none
theorem dJoin_inv {x y r : D} (h : dJoin x y = some r) : ∃ z zs, x = .str z ∧ y = .lst (zs.map .str) ∧ (zs.map (·.length)).sum + zs.length * z.length ≤ sizeLine ∧ r = .str (Txt.join z zs) := by
  unfold dJoin at h
  split at h
  · rename_i z ds
    cases hs : strsD ds with
    | none => rw [hs] at h; cases h
    | some zs =>
      rw [hs] at h
      simp only [Option.bind_some] at h
      split at h
      · rename_i hc; cases h; exact ⟨z, zs, rfl, by rw [strsD_inv hs], hc, rfl⟩
      · cases h
  · cases h
def eJoin (f g : Ev D) : Ev D := fun ρ => match f ρ with
  | .ok (.str z) ρ1 => (g ρ1).bind fun y ρ2 => lift (dJoin (.str z) y) ρ2
  | .ex x ρ1 => .ex x ρ1
  | _ => .bad
theorem xe_join {f g : Ev D} {apos : Pos} (hv : PE X b (trE X.K G E f)) (ha : PE X a (trE X.K G E g))
    (hbase : attributeBase b "join" X.env (eval b X.env) = eval b X.env := by rfl)
    (hfew : ((backTo pos (starEach [a] X.env)).all (fun x => !x.1) && (backToKw pos (keywordEach [] X.env)).all (fun x => x.1.isSome)
      && decide ([a].length + ([] : List Keyword).length + (if ([] : List Keyword).isEmpty then 0 else 1) < 30)) = true := by rfl)
    (hline : (apos.endLine == pos.line) = true := by rfl) (hs : starEach [a] X.env = (false, eval a X.env) :: starEach [] X.env := by rfl) (hplain : (backTo pos (starEach [] X.env)).any (·.1) = false := by rfl) :
    PE X (.Call (.Attribute b "join" apos) [a] [] pos) (trE X.K G E (eJoin f g)) :=
  PE.imp (pe_bm F.plainAttrs_str F.slot_str_join (by rfl) mt_join hv (pa_cons ha pa_nil hs) hbase hfew hline hs hplain) fun σ H Q ⟨ρ, ok, h⟩ => by
    refine ⟨ρ, ok, ?_⟩
    simp only [eJoin] at h
    cases hf : f ρ with
    | bad => simp only [hf] at h; exact h
    | ex x ρ1 => simp only [hf] at h; exact h
    | ok d ρ1 =>
      simp only [hf] at h
      cases d with
      | str z =>
        intro v H1 e1 ok1 r1
        rw [r1.str_inv]
        refine ⟨rfl, ρ1, ok1, (atE.mono h e1).bindE.imp fun v2 H2 ⟨d2, ρ2, e2, ok2, r2, h2⟩ => ?_⟩
        cases hj : dJoin (.str z) d2 with
        | none => rw [hj] at h2; exact h2.elim
        | some r =>
          rw [hj] at h2
          obtain ⟨z', zs, e3, rfl, hz, rfl⟩ := dJoin_inv hj
          cases e3
          cases r2 with
          | @lst p o ys _ g1 g2 => exact ⟨z, p, zs, rfl, rfl, .inl (by rw [← g2.strs]; exact .inl (.inr ⟨o, g1⟩)), hz, h2.now ok2 (.str _)⟩
      | _ => exact h.elim
end
end PU
set_option maxHeartbeats 4000000
namespace PU
open PySem PySem.Spec PyProof.Rows L2

/-! ### exceptions: raised, asked for their class, for a field -/
section
variable {X : Cx} {G : GC} {E : XK} {a b c : Expr} {es : List Expr} {pos : Pos} {st : Stmt} {sts : List Stmt}
def sRaise (C : Addr) : Sv := fun ρ => .ex ⟨C, []⟩ ρ
/-- what is asked of a class that is raised -/
structure RaC (K : PySem.W.Frag) (C : Addr) : Prop where
  exc : PySem.W.excIn K C [.type "ValueError", .type "Exception", .type "BaseException", .type "object"] "ValueError.__new__" = true
  keep : PySem.W.keepIn K (.ref C) = true
  sub : PySem.W.subIn K (.ref C) (.type "BaseException") = some true
  ty : PySem.W.typeIn K (.ref C) = some (.type "type")
theorem xs_raise {C : Addr} {x m : Str} {j} {p p2 pos2 : Pos} (hc : X.calm = true) (tk : Takes X (fun cls d _ H => E cls d H)) (rc : RaC X.K C) (gC : X.mg x = some (.ref C)) (hg : Gl X x) (hdb : (x == ("__debug__" : Str)) = false := by decide) :
    PS X (.Raise (some (.Call (.Name x p) [.Constant (.str m) j p2] [] pos2)) none pos) (trS X.K G E (sRaise C)) :=
  PS.imp (L2.ps_raise hc tk (L2.pmk_own PySem.F.excBase_ValueError rc.exc gC rc.keep (raises_own rc.sub rc.ty) hg hdb)) fun D' σ H ⟨ρ, ok, h⟩ => h none H (.refl _) ⟨σ, ok⟩ rfl
theorem exc_inst {P : Program} {w : World} {H : Hp} {h : Heap} (ok : HOk P w H h) {p C : Addr} {d : Option Addr} (e : H p = some (ExcO C d p)) (hd : ∀ dx, d = some dx → ∃ o, h.get? dx = some o) : ∃ oe od, PySem.W.InstAt h p oe C od := by
  obtain ⟨⟨oe, h1, h2, h3, vs, h4⟩, _⟩ := ok p _ e
  cases d with
  | none => exact ⟨oe, none, h1, h2, by unfold PySem.W.notCls; rw [h4], by rw [h3]; trivial⟩
  | some dx =>
    obtain ⟨o, ho⟩ := hd dx rfl
    exact ⟨oe, some o, h1, h2, by unfold PySem.W.notCls; rw [h4], by rw [h3]; exact ho⟩
theorem Rp.exn_inst {pins : List (Addr × Obj)} {σ : L2.St} {H : Hp} {s : Shared} {x : V} {C : Addr} {ps : List (Str × D)} (I : Inv X pins σ H s) (r : Rp X.K H x (.exn C ps)) : ∃ p oe od, x = .ref p ∧ PySem.W.InstAt s.heap p oe C od := by
  cases r with
  | @exn0 p _ h =>
    obtain ⟨oe, od, i⟩ := exc_inst I.hok h (fun dx z => nomatch z)
    exact ⟨p, oe, od, rfl, i⟩
  | @exn p _ dx ns xs ds h h2 h3 h4 =>
    obtain ⟨oe, od, i⟩ := exc_inst I.hok h (fun dx' z => by
      cases z
      obtain ⟨mA, hns, _⟩ := (show ObjOk X.prog X.w H s.heap dx (.xd (ns.zip xs)) from I.hok dx _ h2)
      obtain ⟨o, ho, _⟩ := lookIn_ns hns
      exact ⟨o, ho⟩)
    exact ⟨p, oe, od, rfl, i⟩
/-- what the class of an exception says to isinstance -/
structure IsC (K : PySem.W.Frag) (C : Addr) : Prop where
  cl : (PySem.W.clsIn K C).isSome = true
  ga : PySem.W.findIn K (.ref C) "__getattribute__" = some (some (.builtin "BaseException.__getattribute__"))
  gt : PySem.W.findIn K (.ref C) "__getattr__" = some none
  sb : PySem.W.subIn K (.ref C) (.type "BaseException") = some true
  ca : PySem.W.findIn K (.ref C) "__class__" = some (some (.builtin "object.__class__"))
  sp : PySem.W.specialIn K (.builtin "object.__class__") "__get__" = some (some (.builtin "getset_descriptor.__get__"))
  tk : PySem.W.takesIn K (.builtin "object.__class__") = some true
  mr : PySem.W.mroIn K C (.type "object") = some true
  hd : PySem.W.hasDictIn K C = true
/-- isinstance of None, or of an exception of one of the classes told -/
def dIsE (cs : List (Addr × Bool)) : D → Option D
  | .exn C _ => (cs.lookup C).map .bl
  | .non => some (.bl false)
  | _ => none
def IsTab (K : PySem.W.Frag) (C2 : Addr) (cs : List (Addr × Bool)) : Prop := PySem.W.kitOne K (.type "NoneType") (.ref C2) = some false ∧ ∀ p ∈ cs, IsC K p.1 ∧ PySem.W.kitOne K (.ref p.1) (.ref C2) = some p.2
theorem mem_lk {α β : Type} [BEq α] [LawfulBEq α] {k : α} {v : β} : ∀ {l : List (α × β)}, l.lookup k = some v → (k, v) ∈ l
  | [], h => by cases h
  | (k', v') :: l, h => by
    rw [List.lookup_cons] at h
    cases e : k == k' with
    | true => rw [e] at h; cases h; rw [eq_of_beq e]; exact List.mem_cons_self
    | false => rw [e] at h; exact List.mem_cons_of_mem _ (mem_lk h)
def rIsEc (K : PySem.W.Frag) (C2 : Addr) (cs : List (Addr × Bool)) : List V → Hp → VK → Prop := fun xs H Q => ∃ x d r, xs = [x, .ref C2] ∧ Rp K H x d ∧ dIsE cs d = some r ∧ ∀ b, r = .bl b → Q (.bl b) H
theorem call_isEc {C2 : Addr} {cs : List (Addr × Bool)} (T : IsTab X.K C2 cs) : CallR X (.builtin "isinstance") (rIsEc X.K C2 cs) := by
  intro pins s σ H xs us Q I r h
  obtain ⟨x, d, rr, rfl, hd, hg, q⟩ := h
  obtain ⟨u1, u2, rfl, r1, r2⟩ := vals2 r
  cases (show u2 = Value.ref C2 from r2)
  cases d with
  | non =>
    cases hg
    obtain ⟨P, Z, p, hx⟩ := hd.kit I r1 rfl
    exact PySem.W.kia_one Z I.kIn p T.1 hx fun tk => ⟨.bl _, H, I.tok tk, rfl, q _ rfl⟩
  | exn C ps =>
    simp only [dIsE] at hg
    cases hl : cs.lookup C with
    | none => rw [hl] at hg; cases hg
    | some b =>
      rw [hl] at hg
      cases hg
      obtain ⟨F, hk⟩ := T.2 _ (mem_lk hl)
      obtain ⟨p, oe, od, rfl, i⟩ := hd.exn_inst I
      cases (show u1 = Value.ref p from r1)
      exact PySem.W.kia_one (PySem.W.kitx_exc F.cl F.ga F.gt F.sb F.ca F.sp F.tk F.mr) I.kIn i hk (fun z => nomatch z) fun tk => ⟨.bl _, H, I.tok tk, rfl, q _ rfl⟩
  | _ => cases hg
theorem dIsE_bl {cs : List (Addr × Bool)} {d r : D} (h : dIsE cs d = some r) : ∃ b, r = .bl b := by
  unfold dIsE at h
  split at h
  · rename_i C _
    cases hl : cs.lookup C with
    | none => rw [hl] at h; cases h
    | some b => rw [hl] at h; cases h; exact ⟨b, rfl⟩
  · cases h; exact ⟨_, rfl⟩
  · cases h
/-- isinstance(e, an own class) -/
theorem xe_isE {f : Ev D} {C2 : Addr} {cs : List (Addr × Bool)} {y : Str} {p py : Pos} (T : IsTab X.K C2 cs) (hg : Gl X "isinstance") (hm : X.mg "isinstance" = none) (ha : PE X a (trE X.K G E f)) (hb : PE X (.Name y py) (tC (.ref C2))) (hs1 : starEach [a, .Name y py] X.env = (false, eval a X.env) :: starEach [.Name y py] X.env := by rfl)
    (hs2 : starEach [.Name y py] X.env = (false, eval (.Name y py) X.env) :: starEach [] X.env := by rfl) (hpl : (backTo pos (starEach [.Name y py] X.env)).any (·.1) = false := by rfl) :
    PE X (.Call (.Name "isinstance" p) [a, .Name y py] [] pos) (trE X.K G E (eUn (dIsE cs) f)) :=
  PE.imp (pe_callB (call_isEc T) hg hm (by decide +kernel) (pa_cons ha (pa_cons hb pa_nil hs2) hs1) (by decide) (by decide) hs1 hpl) fun σ H Q h => by
    obtain ⟨ρ, ok, h⟩ := h
    refine ⟨ρ, ok, h.bindE.imp fun v H1 ⟨d, ρ1, e1, ok1, r1, h1⟩ => ?_⟩
    cases hr : dIsE cs d with
    | none => rw [hr] at h1; exact h1.elim
    | some r =>
      rw [hr] at h1
      exact ⟨v, d, r, rfl, r1, hr, fun b e => by subst e; exact h1.now ok1 (.bl b)⟩
/-- error.n -/
def dFld (cs : List Addr) (n : Str) : D → Option D
  | .exn C ps => if cs.contains C then ps.lookup n else none
  | _ => none
theorem lk_zip {K : PySem.W.Frag} {H : Hp} {n : Str} : ∀ {ns : List Str} {xs : List V} {ds : List D} {d : D}, ns.length = xs.length → RpL K H xs ds → (ns.zip ds).lookup n = some d → ∃ v, (ns.zip xs).lookup n = some v ∧ Rp K H v d
  | [], _, _, _, _, _, h => by simp at h
  | k :: ns, x :: xs, _, d, hl, .cons (ds := ds) (d := d0) r t, h => by
    simp only [List.zip_cons_cons, List.lookup_cons] at h ⊢
    cases e : n == k with
    | true => simp only [e] at h ⊢; cases h; exact ⟨x, rfl, r⟩
    | false => simp only [e] at h ⊢; exact lk_zip (by simpa using hl) t h
  | _ :: _, [], _, _, hl, _, _ => by simp at hl
theorem xe_fld {f : Ev D} {n : Str} {cs : List Addr} (T : ∀ C ∈ cs, IsC X.K C ∧ PySem.W.findIn X.K (.ref C) n = some none) (ha : PE X a (trE X.K G E f)) (hb : attributeBase a n X.env (eval a X.env) = eval a X.env := by rfl) :
    PE X (.Attribute a n pos) (trE X.K G E (eUn (dFld cs n) f)) := by
  refine PE.imp (t := fun σ H Q => trE X.K G E f σ H fun x H1 => ∃ d r v, Rp X.K H1 x d ∧ dFld cs n d = some r ∧ (∀ C ps, d = .exn C ps → ∃ (p dx : Addr) (ns : List Str) (xs : List V), x = .ref p ∧ H1 p = some (ExcO C (some dx) p) ∧ H1 dx = some (.xd (ns.zip xs)) ∧ (ns.zip xs).lookup n = some v) ∧ Rp X.K H1 v r ∧ Q v H1) ⟨fun pins s σ H Q I h => ?_⟩ fun σ H Q ⟨ρ, ok, h⟩ => ⟨ρ, ok, h.bindE.imp fun v H1 ⟨d, ρ1, e1, ok1, r1, h1⟩ => ?_⟩
  · refine attr_of hb (thn (ha.run pins s σ H _ I h) fun u s1 ⟨x, H1, I1, rx, d, r, v, hd, hg, hz, rv, q⟩ => ?_)
    cases d with
    | exn C ps =>
      simp only [dFld] at hg
      split at hg
      · rename_i hc
        obtain ⟨F, hno⟩ := T C (by simpa using hc)
        obtain ⟨p, dx, ns, xs, rfl, e1, e2, e3⟩ := hz C ps rfl
        obtain rfl : u = Value.ref p := rx
        obtain ⟨⟨oe, g1, g2, g3, vs, g4⟩, _⟩ := I1.hok p _ e1
        obtain ⟨mA, hns, hr⟩ := (show ObjOk X.prog X.w H1 s1.heap dx (.xd (ns.zip xs)) from I1.hok dx _ e2)
        obtain ⟨od, ho, hl⟩ := lookIn_ns hns
        obtain ⟨u, hu, ru⟩ := RelO.some_of (v := v) (o := mA n) (by rw [← e3]; exact hr n)
        have J : PySem.W.InstAt s1.heap p oe C (some od) := ⟨g1, g2, by unfold PySem.W.notCls; rw [g4], by rw [g3]; exact ho⟩
        exact HandSPX.exc_get I1.kIn J F.ga F.gt F.sb (PySem.W.findObj_own F.hd hno rfl (by rw [hl, hu])) (handed_of ru) ⟨v, H1, I1.tok _, ru, q⟩
      · cases hg
    | _ => cases hg
  · cases hg : dFld cs n d with
    | none => rw [hg] at h1; exact h1.elim
    | some r =>
      rw [hg] at h1
      cases d with
      | exn C ps =>
        have hg' := hg
        simp only [dFld] at hg'
        split at hg'
        · cases r1 with
          | exn0 _ => cases hg'
          | @exn p _ dx ns xs ds g1 g2 g3 g4 =>
            obtain ⟨v', e3, rv⟩ := lk_zip g3 g4 hg'
            exact ⟨_, r, v', .exn g1 g2 g3 g4, hg, fun C' ps' z => by cases z; exact ⟨p, dx, ns, xs, rfl, g1, g2, e3⟩, rv, h1.now ok1 rv⟩
        · cases hg'
      | _ => cases hg
end
end PU
set_option maxHeartbeats 4000000
namespace PU
open PySem PySem.Spec PyProof.Rows L2

/-! ### a caught exception is kept -/
section
variable {X : Cx} {pins : List (Addr × Obj)} {σ : L2.St} {H : Hp} {s : Shared}
/-- an object that was not there at the entry is known from now on -/
theorem know {p : Addr} {o : HO} (I : Inv X pins σ H s) (hn : H p = none) (h0 : X.s_0.heap.get? p = none) (hL : p ≠ X.env.locals) (hc : ∀ v, ¬ s.heap.IsCell p v) (hp : ∀ q ∈ X.pn ++ pins, q.1 ≠ p) (new : ObjOk X.prog X.w (upd H p o) s.heap p o) : Inv X pins σ (upd H p o) s := by
  have away : ∀ {b : Addr} {u : HO}, H b = some u → b ≠ p := fun e z => by subst z; rw [hn] at e; cases e
  have old : ∀ {b : Addr} {u : Obj}, X.s_0.heap.get? b = some u → b ≠ p := fun e z => by subst z; rw [h0] at e; cases e
  exact {
    ok := I.ok, os := I.os, bare := I.bare, loc := I.loc, cell := I.cell, len := I.len
    base := {
      keep := I.base.keep, slot := I.base.slot, there := I.base.there
      free := fun b u e n z => by rw [upd_ne (old e)]; exact I.base.free b u e n z
      tups := fun b xs e => by have := I.base.tups b xs e; rw [upd_ne (away this)]; exact this
      frzs := fun b u xs e => by have := I.base.frzs b u xs e; rw [upd_ne (away this)]; exact this
      tbls := fun b ps e => by obtain ⟨m, q⟩ := I.base.tbls b ps e; exact ⟨m, by rw [upd_ne (away q)]; exact q⟩ }
    free := by rw [upd_ne (Ne.symm hL)]; exact I.free
    freeC := fun x c e => by
      obtain ⟨v, z⟩ := I.cell x c e
      rw [upd_ne fun (q : c = p) => hc v (by rw [← q]; exact z)]; exact I.freeC x c e
    pin := fun q hq => by
      obtain ⟨e1, e2, e3⟩ := I.pin q hq
      exact ⟨e1, by rw [upd_ne (hp q hq)]; exact e2, e3⟩
    hok := fun b u e => by
      by_cases hb : b = p
      · subst hb; rw [upd_same] at e; cases e; exact new
      · rw [upd_ne hb] at e
        exact (I.hok b u e).stay (fun _ _ _ q => q) (fun c q => by rw [upd_ne (away q)]; exact q) fun c xs q => by rw [upd_ne (away q)]; exact q }
theorem excO_ok {P : Program} {w : World} {H : Hp} {h : Heap} {p C : Addr} {d : Option Addr} {oe : Obj} {vs : Array Value} (e : h.get? p = some oe) (z : Zc (.ref C) d oe) (hd : oe.data = .fields vs) : ObjOk P w H h p (ExcO C d p) :=
  ⟨⟨oe, e, z.1, z.2, vs, hd⟩, ⟨oe, e⟩, fun _ _ ⟨o, q, r⟩ k => ⟨o, k o q, r⟩⟩
/-- what 'except c as n: y = n' wishes: all is caught, y in slot j holds the exception, n in slot i is gone -/
def wKp (K : PySem.W.Frag) (nl : Nat) (c : Value) (i j : Nat) (D : Ends) : WX := fun cls d σ H => ∃ C, cls = .ref C ∧ PySem.W.exmOne K cls c = some true ∧ ∀ p, H p = none → σ.length = nl → D.nx (((σ.set i (some (.ref p))).set j (some (.ref p))).set i none) (upd H p (ExcO C d p))
variable {x n y : Str} {c : Value} {i j : Nat} {body : List Stmt} {np p3 p4 p5 pos pos' : Pos} {tb : WX → TS}
theorem ps_try_keep (hs : X.stack = X.env :: X.outer) (hex : X.ex = []) (hf : X.env.frame = some X.env.locals) (hN : X.N.Nodup) (hi : X.N[i]? = some n) (hj : X.N[j]? = some y) (hln : X.env.kindOf n = some .local) (hly : X.env.scope.names.lookup y = some .local) (hc : Names X x c) (hd1 : (n == ("__debug__" : Str)) = false) (hd2 : (n == ("__classdict__" : Str)) = false)
    (hsw : swapsWith (.Name n p4) (some (.Name y p3)) p5.line X.env = pure false)
    (hb : ∀ (W : WX) (pn : List (Addr × Obj)) (xe : Value → Shared → Prop), Takes (X.tr pn xe) W → PassesOwn (model X.prog X.w) X.A X.env xe → PSs (X.tr pn xe) body (tb W)) :
    PS X (.Try body [.ExceptHandler (some (.Name x np)) (some n) [.Assign [.Name y p3] (.Name n p4) p5] pos'] [] [] pos) (fun D σ H => tb (wKp X.K X.N.length c i j D) D σ H) := by
  refine ⟨fun pins s σ H D I h => ?_⟩
  have ok := I.ok
  have frs_eq : X.A.frames = some (X.env :: X.outer) := by rw [ok.frames, hs]
  let ends : Value → Shared → Prop := fun e s1 => wpAny (model X.prog X.w) X.A (noteFrame e X.env) (fun _ s2 => wpAny (model X.prog X.w) X.A (setFlight e none) (fun _ s3 => wpAny (model X.prog X.w) X.A (handleBy e X.env [.ExceptHandler (some (.Name x np)) (some n) [.Assign [.Name y p3] (.Name n p4) p5] pos']) (SP X pins D) X.xe s3) X.xe s2) X.xe s1
  have tk : Takes (X.tr (X.pn ++ pins) ends) (wKp X.K X.N.length c i j D) := by
    rintro u s' ⟨p, B, sI, pins', σ', H', cls, d, rfl, J', nb, up, sky, na, os, ag, C, rfl, hb1, hyes⟩
    have J : Inv X pins σ' H' sI := J'.ofTry ok
    have sky' : Sky B (X.env :: X.outer) p (Zc (.ref C) d) X.env.locals s'.heap := by rw [← hs]; exact sky
    show wpAny (model X.prog X.w) X.A (noteFrame (.ref p) X.env) _ _ _
    refine Sky.land Zc.steady frs_eq hf sky' fun g gl gup => ?_
    have Jg : Inv X pins σ' H' { s' with heap := g } := J.landed nb gl.1 (up.trans gup) os ag
    obtain ⟨o1, v1, e1, z1, d1⟩ := gl.there
    have outF : p ∉ frs (X.env :: X.outer) := fun hm => by
      obtain ⟨_, o', e', nof⟩ := gl.2.2.1.mem hm
      rw [e1] at e'; cases e'
      exact nof _ d1
    have nL : p ≠ X.env.locals := fun z => outF (List.mem_filterMap.mpr ⟨X.env, List.mem_cons_self, by rw [hf, z]⟩)
    have nF : p ∉ X.fs := fun hm => by
      obtain ⟨e, he, q⟩ := List.mem_filterMap.mp hm
      exact outF (List.mem_filterMap.mpr ⟨e, List.mem_cons_of_mem _ he, q⟩)
    have nI : sI.heap.get? p = none := by
      cases q : sI.heap.get? p with
      | none => rfl
      | some o =>
        have := nb p o q (by rw [hs]; exact outF)
        rw [gl.2.1] at this; cases this
    have S1 := Jg.suite e1 d1 na nL nF
    refine wpAny_handleBy_cons (codeAny_handlers_test ?_) (by intro q; cases q)
    have LT : PySem.W.Looks (model X.prog X.w) g (typeOf (.ref p)) (.ref C) := fun A Q E s k q => wpAny_typeOf_ref (k _ _ e1) (by rw [z1.1]; exact q)
    have LM := PySem.W.exm_one (M := model X.prog X.w) Jg.kIn LT hb1
    have asked : ∀ {Q : Value → Shared → Prop} {E : Value → Shared → Prop}, Q c { s' with heap := g } → wpAny (model X.prog X.w) (X.A.mark (some (.ref p))) (eval (.Name x np) X.env) Q E { s' with heap := g } := fun {Q E} q => by
      obtain ⟨hg, hdbg, hm | ⟨hm, hv, hnn⟩⟩ := hc
      · exact ld_glob (X := X.suite p ((p, o1) :: (X.pn ++ pins))) S1 hg hm q hdbg
      · exact ld_blt (X := X.suite p ((p, o1) :: (X.pn ++ pins))) S1 hg hm hv q hnn hdbg
    refine asked (LM.here (codeAny_handlers_suite_as (HandSPX.lands_againZ gl fun k kl kup => ?_)))
    have Jk : Inv X pins σ' H' { s' with heap := k } := J.landed nb kl.1 ((up.trans gup).trans kup) os ag
    obtain ⟨o2, v2, e2, z2, d2⟩ := kl.there
    have S2 := Jk.suite e2 d2 na nL nF
    refine store_ok (X := X.suite p ((p, o2) :: (X.pn ++ pins))) (v := .ref p) S2 hN hi (.inl hln) rfl (fun s5 S5 => ?_) (.inr hln)
    have run := (pss_one (ps_set (X := X.suite p ((p, o2) :: (X.pn ++ pins))) (pos := p5) (pos' := p3) (i := j) (x := y) hN hj (.inl hly) (pe_var (pos := p4) (i := i) hi (.inl hln) hd1 hd2) hsw (.inr hly))).run [] s5 _ H'
      { nx := fun σ6 H6 => σ6 = (σ'.set i (some (.ref p))).set j (some (.ref p)) ∧ H6 = H', rt := fun _ _ => False, bk := fun _ _ => False, ct := fun _ _ => False } S5
    have hlen : i < σ'.length := by rw [S2.len]; exact (List.getElem?_eq_some_iff.mp hi).1
    refine wpAny_mono (run ⟨.ref p, by simp [hlen], rfl, rfl⟩) (fun f s6 hsp => ?_) (fun _ _ z => False.elim z)
    cases f with
    | next =>
      obtain ⟨σ6, H6, S6, rfl, rfl⟩ := hsp
      have U : Inv X ((p, o2) :: pins) ((σ'.set i (some (.ref p))).set j (some (.ref p))) H6 s6 := {
        ok := ok, os := S6.os, bare := S6.bare, base := S6.base, loc := S6.loc, cell := S6.cell, free := S6.free, freeC := S6.freeC, hok := S6.hok, len := S6.len
        pin := fun q hq => S6.pin q (by
          show q ∈ ((p, o2) :: (X.pn ++ pins)) ++ []
          rw [List.append_nil]
          rcases List.mem_append.mp hq with m | m
          · exact List.mem_cons_of_mem _ (List.mem_append_left _ m)
          · rcases List.mem_cons.mp m with m | m
            · rw [m]; exact List.mem_cons_self
            · exact List.mem_cons_of_mem _ (List.mem_append_right _ m)) }
      refine gone_ok U hN hi hln fun s7 J7 => ?_
      obtain ⟨q1, q2, q3, q4, q5⟩ := J7.pin (p, o2) (List.mem_append_right _ List.mem_cons_self)
      have J8 : Inv X pins (((σ'.set i (some (.ref p))).set j (some (.ref p))).set i none) H6 s7 := ⟨J7.ok, J7.os, J7.bare, J7.base, J7.loc, J7.cell, J7.free, J7.freeC, fun q hq => J7.pin q (by
        rcases List.mem_append.mp hq with m | m
        · exact List.mem_append_left _ m
        · exact List.mem_append_right _ (List.mem_cons_of_mem _ m)), J7.hok, J7.len⟩
      refine ⟨_, _, know J8 na ?_ nL (fun v ⟨o, ho, hd⟩ => ?_) (fun q hq z => ?_) (excO_ok q1 z2 d2), hyes p na J.len⟩
      · cases q : X.s_0.heap.get? p with
        | none => rfl
        | some o =>
          obtain ⟨o', r⟩ := J.base.there p o q (by rw [hex]; exact fun z => nomatch z)
          rw [nI] at r; cases r
      · rw [q1] at ho; cases ho; exact q5 v hd
      · have := (J.pin q hq).1
        rw [z, nI] at this; cases this
    | brk => obtain ⟨_, _, _, q6⟩ := hsp; exact q6.elim
    | cont => obtain ⟨_, _, _, q6⟩ := hsp; exact q6.elim
    | ret u => obtain ⟨_, _, _, _, _, q6⟩ := hsp; exact q6.elim
  refine wpAny_Try_except (wpAny_mono ((hb _ _ ends tk PassesOwn.looking).run [] s σ H D (I.toTry _) h) (fun f s1 hsp => ?_) fun e s1 he => he)
  cases f with
  | next =>
    obtain ⟨σ1, H1, J1, q⟩ := hsp
    exact wpAny_execs_nil ⟨σ1, H1, J1.ofTry ok, q⟩
  | brk => obtain ⟨σ1, H1, J1, q⟩ := hsp; exact ⟨σ1, H1, J1.ofTry ok, q⟩
  | cont => obtain ⟨σ1, H1, J1, q⟩ := hsp; exact ⟨σ1, H1, J1.ofTry ok, q⟩
  | ret u => obtain ⟨v, σ1, H1, J1, r, q⟩ := hsp; exact ⟨v, σ1, H1, J1.ofTry ok, r, q⟩
/-- what a def that calls what it got and keeps the error makes of it -/
def TCaught (K : PySem.W.Frag) (CS : Addr) : (XK → Hp → VK → Prop) → Hp → VK → Prop := fun tl H Q => ∀ Q' : VK, (∀ v H1, Q .non H1 → Q' v H1) →
  tl (fun cls d H1 => ∃ C, cls = .ref C ∧ PySem.W.exmOne K cls (.ref CS) = some true ∧ ∀ p, H1 p = none → Q (.ref p) (upd H1 p (ExcO C d p))) H Q'
theorem caught_gives {a n y e q x : Str} {sg : Scope} {g CS : Addr} {cdg : Value} {jn} {p1 p2 p3 p4 p5 p6 p7 p8 p9 p10 p11 p12 p13 p14 : Pos} (hge : sg.names.lookup e = some .globalImplicit) (hme : X.mg e = some (.ref CS)) (hde : (e == ("__debug__" : Str)) = false)
    (hN : [a, y, n].Nodup) (hn : sg.names.lookup n = some .local) (hy : sg.names.lookup y = some .local) (hd1 : (n == ("__debug__" : Str)) = false) (hd2 : (n == ("__classdict__" : Str)) = false) (hd3 : (y == ("__debug__" : Str)) = false) (hd4 : (y == ("__classdict__" : Str)) = false) 
    (hsw : ∀ env, swapsWith (.Name n p4) (some (.Name y p3)) p5.line env = pure false) (hsw2 : ∀ env, swapsWith (.Constant .none jn p11) (some (.Name y p12)) p13.line env = pure false) (hsw3 : ∀ env, swapsWith (.Call (.Name a p1) [] [] p2) none p6.line env = pure false) :
    LamX.GivesTo X [a, y, n] x sg g cdg [.Assign [.Name y p12] (.Constant .none jn p11) p13, .Try [.Expr (.Call (.Name a p1) [] [] p2) p6] [.ExceptHandler (some (.Name e p7)) (some n) [.Assign [.Name y p3] (.Name n p4) p5] p8] [] [] p9, .Return (some (.Name y p10)) p14] a q (TCaught X.K CS) := by
  intro f c' s H Q tl act hc h
  have hgl : Gl (cxOf C8.CX0 X.prog X.w X.K X.mg X.base [a, y, n] x sg g cdg X.A X.stack s H C8.E0).nox e := hge
  refine ⟨_, pss_cons (ps_set (X := (cxOf C8.CX0 X.prog X.w X.K X.mg X.base [a, y, n] x sg g cdg X.A X.stack s H C8.E0).nox) (i := 1) (x := y) hN rfl (.inl hy) pe_non (hsw2 _) (.inr hy))
    (pss_cons (ps_try_keep (X := (cxOf C8.CX0 X.prog X.w X.K X.mg X.base [a, y, n] x sg g cdg X.A X.stack s H C8.E0).nox) (i := 2) (j := 1) (c := .ref CS)
      (tb := fun W D σ H => ∃ Ech : XK, (∀ cls d σ' H', Ech cls d H' → W cls d σ' H') ∧ σ[0]? = some (some (.ref f)) ∧ H c' = some (LamX.CodeO c' q) ∧ tl Ech H (fun _ H1 => D.nx σ H1)) rfl rfl rfl hN rfl rfl hn hy ⟨hgl, hde, .inl hme⟩ hd1 hd2 (hsw _) (fun W pn xe tk _ => ?_))
      (pss_one (ps_ret (pe_var (i := 1) rfl (.inl hy) hd3 hd4)))), ?_⟩
  · refine ⟨fun pins s' σ H' D I h' => ?_⟩
    obtain ⟨Ech, hW, h1, h2, h3⟩ := h'
    exact (pss_one (ps_expr (pos := p6) (act W pn xe Ech p1 p2 tk hW) (hsw3 _))).run pins s' σ H' D I ⟨h1, h2, h3⟩
  · refine ⟨fun cls d H1 => ∃ C, cls = .ref C ∧ PySem.W.exmOne X.K cls (.ref CS) = some true ∧ ∀ p, H1 p = none → Q (.ref p) (upd H1 p (ExcO C d p)), fun cls d σ' H' ⟨C, e1, e2, e3⟩ => ⟨C, e1, e2, fun p hp hl => ?_⟩, rfl, hc, ?_⟩
    · refine ⟨.ref p, ?_, e3 p hp⟩
      match σ', hl with
      | [u1, u2, u3], _ => rfl
    · exact h _ fun v H1 q => ⟨.non, rfl, q⟩
end
end PU
set_option maxHeartbeats 4000000
namespace PU
open PySem PySem.Spec PyProof.Rows L2
section
variable {X : Cx} {G : GC} {E : XK} {a b c : Expr} {es : List Expr} {pos : Pos}
theorem StOk.lam {K : PySem.W.Frag} {σ : L2.St} {H H1 : Hp} {ρ : Ρ} (ok : StOk K G σ H ρ) (e : LamX.ExtN H H1) (t : LamX.Tabs G.T H1) : StOk K G σ H1 ρ ∧ Ext H H1 := by
  have ex : Ext H H1 := fun b o h s => e b o h fun ps z => by subst z; cases s
  exact ⟨ok.called ex ⟨fun b o h _ nt => e b o h nt, fun b o h nt => ⟨o, e b o h nt, nt⟩⟩ t, ex⟩
theorem Rp.made {K : PySem.W.Frag} {H : Hp} {p : Addr} {dx : Option Addr} {x : Xn} (hp : H p = none) (r : XnOk K H dx x) : Rp K (upd H p (ExcO x.C dx p)) (.ref p) (.exn x.C x.fs) := by
  have ex : Ext H (upd H p (ExcO x.C dx p)) := .of (same_upd hp)
  obtain ⟨C, fs⟩ := x
  cases fs with
  | nil =>
    have e : dx = none := r
    subst e
    exact .exn0 upd_same
  | cons f fs =>
    obtain ⟨d, ns, xs, ds, rfl, h1, h2, h3, h4⟩ := r
    show Rp K _ _ (.exn C (f :: fs))
    have h4' : f :: fs = ns.zip ds := h4
    rw [h4']
    exact .exn upd_same (ex _ _ h1 rfl) h2 (h3.ext ex)
/-- what a lambda's body raised, or None -/
def eCaught (cs : List Addr) (f : Ev D) : Ev D := fun ρ => match f ρ with
  | .ok _ ρ1 => .ok .non ρ1
  | .ex x ρ1 => if cs.contains x.C then .ok (.exn x.C x.fs) ρ1 else .bad
  | .bad => .bad
/-- x(lambda: body), x keeps the error -/
theorem xe_lam {cs : List Addr} {CS : Addr} {x a n y e : Str} {g c P : Addr} {k : Nat} {pg : Arguments} {sg : Scope} {dV kV doc pm cdv ct oc : Value} {an od : Option Addr} {osl : Array (Option Value)} {jn} {p1 p2 p3 p4 p5 p6 p7 p8 p9 p10 p11 p12 p13 p14 : Pos}
    {params : Arguments} {body : Expr} {scope : Scope} {f : Ev D} {p lpos : Pos} (hg : Gl X x) (hm : X.mg x = some (.ref g)) (hk : PySem.W.keepIn X.K (.ref g) = true)
    (lk : X.K.lookup g = some ⟨oc, od, .func (PySem.W.fnOf x x pg [.Assign [.Name y p12] (.Constant .none jn p11) p13, .Try [.Expr (.Call (.Name a p1) [] [] p2) p6] [.ExceptHandler (some (.Name e p7)) (some n) [.Assign [.Name y p3] (.Name n p4) p5] p8] [] [] p9, .Return (some (.Name y p10)) p14] sg dV kV doc pm an cdv ct), osl⟩)
    (hcg : PySem.W.codeIn X.K cdv x = true) (hb : L2.Binds X.K (PySem.W.fnOf x x pg [.Assign [.Name y p12] (.Constant .none jn p11) p13, .Try [.Expr (.Call (.Name a p1) [] [] p2) p6] [.ExceptHandler (some (.Name e p7)) (some n) [.Assign [.Name y p3] (.Name n p4) p5] p8] [] [] p9, .Return (some (.Name y p10)) p14] sg dV kV doc pm an cdv ct) [a] [])
    (Sg : FnScope [a, y, n] [a] sg) (hva : Vis sg a)
    (hge : sg.names.lookup e = some .globalImplicit) (hme : X.mg e = some (.ref CS)) (hde : (e == ("__debug__" : Str)) = false)
    (hn : sg.names.lookup n = some .local) (hy : sg.names.lookup y = some .local) (hd1 : (n == ("__debug__" : Str)) = false) (hd2 : (n == ("__classdict__" : Str)) = false) (hd3 : (y == ("__debug__" : Str)) = false) (hd4 : (y == ("__classdict__" : Str)) = false) 
    (hsw : ∀ env, swapsWith (.Name n p4) (some (.Name y p3)) p5.line env = pure false) (hsw2 : ∀ env, swapsWith (.Constant .none jn p11) (some (.Name y p12)) p13.line env = pure false) (hsw3 : ∀ env, swapsWith (.Call (.Name a p1) [] [] p2) none p6.line env = pure false)
    (hex : ∀ C ∈ cs, PySem.W.exmOne X.K (.ref C) (.ref CS) = some true)
    (TB : LamX.TabB X.base X.mg c P) (hcode : X.env.code = .ref c) (hmT : (P, X.env.qual ++ "<lambda>") ∈ G.T) (hu : ∀ p ∈ G.T, p.1 = P → p.2 = X.env.qual ++ "<lambda>") (hr : Room (k + 2) X.A) (L : LamX.LamS X.env.scope scope) (hdef : defaultsOf params X.env = ([], []))
    (hbind : ∀ (q : Str) (cl : List (Str × Addr)) (pm cv ctv : Value), bindArgs (PySem.W.kla_fn "<lambda>" q params body scope cl pm cv ctv) ⟨[], []⟩ = pure [])
    (hbody : ∀ (A : Around) (outer : List Env) (s : Shared) (H : Hp) (E' : XK) (f' c' : Addr), Room k (A.deeper (LamX.lamEnv X scope s.heap.objs.size f' c')) → PE (LamX.lamCx X A outer s H E' scope f' c') body (trE X.K G E' f))
    (hdb : (x == ("__debug__" : Str)) = false := by decide) (hd : (a == ("__debug__" : Str)) = false := by decide) (hcd : (a == ("__classdict__" : Str)) = false := by decide) :
    PE X (.Call (.Name x p) [.Lambda params body scope lpos] [] pos) (trE X.K G E (eCaught cs f)) :=
  PE.imp (LamX.pe_lamcall (T := G.T) (t := fun E' => trE X.K G E' f) hg hm hk lk hcg hb Sg rfl hva (caught_gives hge hme hde Sg.nd hn hy hd1 hd2 hd3 hd4 hsw hsw2 hsw3) TB hcode hmT hu hr L hdef hbind hbody hdb hd hcd) fun σ H Q ⟨ρ, ok, h⟩ => by
    refine ⟨ok.tabs, fun H1 eN T1 Q' hQ' => ?_⟩
    obtain ⟨ok1, e1⟩ := ok.lam eN T1
    refine ⟨ρ, ok1, ?_⟩
    simp only [eCaught] at h
    cases hf : f ρ with
    | bad => rw [hf] at h; exact h
    | ok d ρ1 => rw [hf] at h; exact fun v H2 e2 ok2 r2 => hQ' v H2 (h .non H2 (e1.trans e2) ok2 .non)
    | ex x ρ1 =>
      rw [hf] at h
      simp only at h
      split at h
      · rename_i hc
        intro dx H2 e2 ok2 r2
        refine ⟨x.C, rfl, hex _ (by simpa using hc), fun p hp => ?_⟩
        have s : Same H2 (upd H2 p (ExcO x.C dx p)) := same_upd hp
        exact h (.ref p) _ ((e1.trans e2).trans (.of s)) (ok2.same s) (Rp.made hp r2)
      · exact h.elim
end
end PU
set_option maxHeartbeats 4000000
namespace PU
open PySem PySem.Spec PyProof.Rows L2

/-! ### the store of draws -/
section
variable {K : PySem.W.Frag} {G : GC} {σ : L2.St} {H : Hp} {ρ : Ρ}
/-- one cell of an own slot changes -/
theorem StOk.updIn (h : StOk K G σ H ρ) {i : Nat} {a : Addr} {o o' : HO} {s s' : SV} (hs : svAt ρ i = s) (hn : s ≠ .un) (hfp : ∀ fp, SlotOk K H (vAt σ i) s fp → a ∈ fp) (ha : H a = some o) (ho : stb o = false) (ht : ∀ ps, o ≠ .tbl ps) (ht' : ∀ ps, o' ≠ .tbl ps)
    (hs' : ∀ fp, SlotOk K H (vAt σ i) s fp → Ext H (upd H a o') → SlotOk K (upd H a o') (vAt σ i) s' fp) : StOk K G σ (upd H a o') (ρ.set i s') ∧ Ext H (upd H a o') := by
  have hi := svAt_of hs hn
  obtain ⟨⟨fp, x⟩, k, t⟩ := h
  have sl := x.slot i hi
  rw [hs] at sl
  have ef : a ∈ fp i := hfp _ sl
  have ex : Ext H (upd H a o') := fun b u e s => by
    have : b ≠ a := fun z => by subst z; rw [ha] at e; cases e; rw [ho] at s; cases s
    rw [upd_ne this]; exact e
  have off : ∀ b, b ≠ a → ∀ u, H b = some u → upd H a o' b = some u := fun b hb u e => by rw [upd_ne hb]; exact e
  refine ⟨⟨⟨fp, by simp [x.len], fun j hj => ?_, fun j l b hj hl => x.sep j l b (by simpa using hj) (by simpa using hl), fun j b hj => x.own j b (by simpa using hj), fun j hj => ?_, fun p hp => ?_, x.notbl, x.nd⟩, ?_, ?_⟩, ex⟩
  · rw [List.length_set] at hj
    rw [svAt_set]
    by_cases e : i = j
    · subst e; rw [if_pos ⟨rfl, hi⟩]; exact hs' _ sl ex
    · rw [if_neg fun z => e z.1]
      exact (x.slot j hj).keep ex fun b hb u e' => off b (fun z => x.sep i j a hi hj e ef (z ▸ hb)) u e'
  · obtain ⟨g1, g2, g3⟩ := x.pin j hj
    exact ⟨by rw [List.length_set]; exact g1, g2, g3⟩
  · obtain ⟨g1, g2, g3⟩ := x.prot p hp
    exact ⟨off _ (fun z => g3 i hi (by rw [z]; exact ef)) _ g1, g2, fun j hj => g3 j (by simpa using hj)⟩
  · refine ⟨fun b u e z t' => ?_, fun b u e t' => ?_⟩
    · by_cases hb : b = a
      · subst hb
        rcases x.own i b hi ef with w | w
        · obtain ⟨ps, q⟩ := w u e; exact absurd q (t' ps)
        · exact absurd w z
      · exact off b hb u (k.keep b u e z t')
    · by_cases hb : b = a
      · subst hb; exact ⟨o', upd_same, ht'⟩
      · rw [upd_ne hb]; exact k.dom b u e t'
  · exact tabs_chg t fun b u e s => off b (fun z => by
      subst z; rw [ha] at e; cases e
      rcases s with s | ⟨ps, s⟩
      · rw [ho] at s; cases s
      · exact ht ps s) u e
def drL (g c : Addr) (s : DrS) : List (Key × V) := [(kGreat, .ref g), (kCells, .ref c), (kRest, .int s.rest), (kTurn, .int s.turn)]
theorem StOk.drA (h : StOk K G σ H ρ) {i : Nat} {s : DrS} (e : svAt ρ i = .dr s) : ∃ a g c o, σ[i]? = some (some (.ref a)) ∧ H a = some (.dK (drL g c s)) ∧ H g = some (.lst (s.great.map V.int)) ∧ H c = some (.frz o (.lst (s.cells.map V.int))) ∧ a ≠ g := by
  obtain ⟨⟨fp, x⟩, _, _⟩ := h
  have := x.slot i (svAt_of e (by intro z; cases z))
  rw [e] at this
  obtain ⟨a, g, h1, _, c, o, h2, h3, h4⟩ := this
  exact ⟨a, g, c, o, vAt_get h1, h2, h3, h4, fun z => by subst z; rw [h2] at h3; cases h3⟩
theorem drL_get (g c : Addr) (s : DrS) : valV (drL g c s) kGreat = some (.ref g) ∧ valV (drL g c s) kCells = some (.ref c) ∧ valV (drL g c s) kRest = some (.int s.rest) ∧ valV (drL g c s) kTurn = some (.int s.turn) := by
  have n1 : ¬ kGreat = kCells := by decide
  have n2 : ¬ kGreat = kRest := by decide
  have n3 : ¬ kGreat = kTurn := by decide
  have n4 : ¬ kCells = kRest := by decide
  have n5 : ¬ kCells = kTurn := by decide
  have n6 : ¬ kRest = kTurn := by decide
  refine ⟨valV_pos rfl, ?_, ?_, ?_⟩
  · rw [drL, valV_neg n1, valV_pos rfl]
  · rw [drL, valV_neg n2, valV_neg n4, valV_pos rfl]
  · rw [drL, valV_neg n3, valV_neg n5, valV_neg n6, valV_pos rfl]
theorem drL_put (g c : Addr) (s : DrS) (r : Int) : putK (drL g c s) kRest (.int r) = drL g c { s with rest := r } ∧ putK (drL g c s) kTurn (.int r) = drL g c { s with turn := r } := by
  have n2 : ¬ kGreat = kRest := by decide
  have n3 : ¬ kGreat = kTurn := by decide
  have n4 : ¬ kCells = kRest := by decide
  have n5 : ¬ kCells = kTurn := by decide
  have n6 : ¬ kRest = kTurn := by decide
  have n7 : ¬ kTurn = kRest := by decide
  constructor
  · simp [putK, drL, n2, n4, n7]
  · simp [putK, drL, n3, n5, n6]
end
section
variable {X : Cx} {G : GC} {E : XK} {a b c : Expr} {es : List Expr} {pos : Pos} {st : Stmt} {sts : List Stmt}
def eDrRest (i : Nat) : Ev D := fun ρ => match svAt ρ i with
  | .dr s => .ok (.int s.rest) ρ
  | _ => .bad
def eDrTurn (i : Nat) : Ev D := fun ρ => match svAt ρ i with
  | .dr s => .ok (.int s.turn) ρ
  | _ => .bad
def eDrCells (i : Nat) : Ev D := fun ρ => match svAt ρ i with
  | .dr s => .ok (.lst (s.cells.map .int)) ρ
  | _ => .bad
theorem xe_drRest {i : Nat} {y : Str} {py p2 : Pos} {j} (hu : X.A.units + 1 < cLine) (hv : PE X (.Name y py) (tVar i)) : PE X (.Subscript (.Name y py) (.Constant (.str "rest") j p2) pos) (trE X.K G E (eDrRest i)) :=
  PE.imp (pe_dget hu hv pe_str fun _ _ => rfl) fun σ H Q ⟨ρ, ok, h⟩ => by
    simp only [eDrRest] at h
    split at h
    · rename_i s hs
      obtain ⟨a, g, c, o, hv, h1, h2, h3, _⟩ := ok.drA hs
      exact ⟨_, hv, a, _, rfl, .inl ⟨_, kRest, .inl h1, rfl, (drL_get g c s).2.2.1.symm⟩, h.now ok (.int _)⟩
    · exact h.elim
theorem xe_drTurn {i : Nat} {y : Str} {py p2 : Pos} {j} (hu : X.A.units + 1 < cLine) (hv : PE X (.Name y py) (tVar i)) : PE X (.Subscript (.Name y py) (.Constant (.str "turn") j p2) pos) (trE X.K G E (eDrTurn i)) :=
  PE.imp (pe_dget hu hv pe_str fun _ _ => rfl) fun σ H Q ⟨ρ, ok, h⟩ => by
    simp only [eDrTurn] at h
    split at h
    · rename_i s hs
      obtain ⟨a, g, c, o, hv, h1, h2, h3, _⟩ := ok.drA hs
      exact ⟨_, hv, a, _, rfl, .inl ⟨_, kTurn, .inl h1, rfl, (drL_get g c s).2.2.2.symm⟩, h.now ok (.int _)⟩
    · exact h.elim
theorem xe_drCells {i : Nat} {y : Str} {py p2 : Pos} {j} (hu : X.A.units + 1 < cLine) (hv : PE X (.Name y py) (tVar i)) : PE X (.Subscript (.Name y py) (.Constant (.str "cells") j p2) pos) (trE X.K G E (eDrCells i)) :=
  PE.imp (pe_dget hu hv pe_str fun _ _ => rfl) fun σ H Q ⟨ρ, ok, h⟩ => by
    simp only [eDrCells] at h
    split at h
    · rename_i s hs
      obtain ⟨a, g, c, o, hv, h1, h2, h3, _⟩ := ok.drA hs
      exact ⟨_, hv, a, _, rfl, .inl ⟨_, kCells, .inl h1, rfl, (drL_get g c s).2.1.symm⟩, h.now ok (.lst h3 (.of_ints _))⟩
    · exact h.elim
/-- state['great'], as it stands -/
theorem pe_drGreat {i : Nat} {y : Str} {py p2 : Pos} {j} (hu : X.A.units + 1 < cLine) (hv : PE X (.Name y py) (tVar i)) : PE X (.Subscript (.Name y py) (.Constant (.str "great") j p2) pos) (tDGet (tVar i) (tC (.str "great"))) := pe_dget hu hv pe_str fun _ _ => rfl
def eDrNe (i : Nat) : Ev D := fun ρ => match svAt ρ i with
  | .dr s => .ok (.bl (!s.great.isEmpty)) ρ
  | _ => .bad
theorem dp_ints {K : PySem.W.Frag} {H : Hp} : ∀ ns : List Int, DpAll K H (ns.map V.int) (ns.map PyData.int)
  | [] => .nil
  | n :: ns => .cons (.int n) (dp_ints ns)
theorem shaped_ints (ns : List Int) : SeqAt.shaped (.list (ns.map PyData.int)) = true := by
  have h : okd 60 (.lst (ns.map .int)) = true := by
    show (ns.map D.int).all (okd 59) = true
    rw [List.all_eq_true]; intro d hd
    obtain ⟨n, _, rfl⟩ := List.mem_map.mp hd; rfl
  have e : ∀ ns : List Int, D.pyL (ns.map .int) = ns.map PyData.int := fun ns => by
    induction ns with
    | nil => rfl
    | cons n ns ih => simp only [List.map_cons, D.pyL, D.py, ih]
  have := okd_shaped h
  simp only [D.py, e] at this
  exact this
theorem eqv_nil (ns : List Int) : PyData.eqv (.list (ns.map PyData.int)) (.list []) = ns.isEmpty := by
  cases ns with
  | nil => simp [PyData.eqv, PyData.eqvAll]
  | cons n ns => simp [PyData.eqv, PyData.eqvAll]
theorem drNe_of {i : Nat} {σ : L2.St} {H : Hp} {Q : VK} (h : trE X.K G E (eDrNe i) σ H Q) : tDGet (tVar i) (tC (.str "great")) σ H fun x H1 => tLst tNil σ H1 fun y H2 => L2.rNeD X.K x y H2 Q := by
    obtain ⟨ρ, ok, h⟩ := h
    simp only [eDrNe] at h
    split at h
    · rename_i s hs
      obtain ⟨a, g, c, o, hv, h1, h2, h3, _⟩ := ok.drA hs
      refine ⟨_, hv, a, .ref g, rfl, .inl ⟨_, kGreat, .inl h1, rfl, (drL_get g c s).1.symm⟩, Nat.zero_le _, fun p hp => ?_⟩
      have sm : Same H (upd H p (.lst [])) := same_upd hp
      refine ⟨_, _, .lst (.inl (.inl (sm _ _ h2))) (dp_ints s.great), .lst (.inl (.inl upd_same)) .nil, shaped_ints _, by rfl, ?_⟩
      rw [eqv_nil]
      exact h.same ok sm (.bl _)
    · exact h.elim
theorem xe_drNe {i : Nat} {y : Str} {py p2 p3 p4 : Pos} {j} (hu : X.A.units + 64 < cLine) (hv : PE X (.Name y py) (tVar i)) (hm : behindInMarks .NotEq (.List [] p4) = false := by rfl) :
    PE X (.Compare (.Subscript (.Name y py) (.Constant (.str "great") j p2) p3) [.NotEq] [.List [] p4] pos) (trE X.K G E (eDrNe i)) :=
  PE.imp (pe_cmpR (L2.op_neD hu) (pe_drGreat (by omega) hv) (pe_lst pa_nil) hm) fun σ H Q h => drNe_of h
theorem xt_drNe {i : Nat} {y : Str} {py p2 p3 p4 : Pos} {j} (hu : X.A.units + 64 < cLine) (hv : PE X (.Name y py) (tVar i)) (hm : behindInMarks .NotEq (.List [] p4) = false := by rfl) :
    PT X (.Compare (.Subscript (.Name y py) (.Constant (.str "great") j p2) p3) [.NotEq] [.List [] p4] pos) (trT X.K G E (tV (eDrNe i))) :=
  PT.imp (pt_cmpR (L2.op_neD hu) (pe_drGreat (by omega) hv) (pe_lst pa_nil) hm) fun σ H Q h => drNe_of (tV_of h)
def eDrPop (i : Nat) : Ev D := fun ρ => match svAt ρ i with
  | .dr s => match s.great with
    | x :: r => .ok (.int x) (ρ.set i (.dr { s with great := r }))
    | [] => .bad
  | _ => .bad
theorem xe_drPop {i : Nat} {y : Str} {py p2 p3 p4 apos : Pos} {j j2} (hu : X.A.units + 1 < cLine) (hv : PE X (.Name y py) (tVar i))
    (hbase : attributeBase (.Subscript (.Name y py) (.Constant (.str "great") j p2) p3) "pop" X.env (eval (.Subscript (.Name y py) (.Constant (.str "great") j p2) p3) X.env) = eval (.Subscript (.Name y py) (.Constant (.str "great") j p2) p3) X.env := by rfl)
    (hfew : ((backTo pos (starEach [.Constant (.int 0) j2 p4] X.env)).all (fun x => !x.1) && (backToKw pos (keywordEach [] X.env)).all (fun x => x.1.isSome)
      && decide ([Expr.Constant (.int 0) j2 p4].length + ([] : List Keyword).length + (if ([] : List Keyword).isEmpty then 0 else 1) < 30)) = true := by rfl)
    (hline : (apos.endLine == pos.line) = true := by rfl) (hs : starEach [.Constant (.int 0) j2 p4] X.env = (false, eval (.Constant (.int 0) j2 p4) X.env) :: starEach [] X.env := by rfl) (hplain : (backTo pos (starEach [] X.env)).any (·.1) = false := by rfl) :
    PE X (.Call (.Attribute (.Subscript (.Name y py) (.Constant (.str "great") j p2) p3) "pop" apos) [.Constant (.int 0) j2 p4] [] pos) (trE X.K G E (eDrPop i)) :=
  PE.imp (pe_bm F.plainAttrs_list F.slot_list_pop (by rfl) (MtM.r mt_popAt) (pe_drGreat hu hv) (pa_cons pe_int pa_nil hs) hbase hfew hline hs hplain) fun σ H Q ⟨ρ, ok, h⟩ => by
    simp only [eDrPop] at h
    split at h
    · rename_i s hs
      obtain ⟨a, g, c, o, hv, h1, h2, h3, hag⟩ := ok.drA hs
      split at h
      · rename_i x r hr
        refine ⟨_, hv, a, .ref g, rfl, .inl ⟨_, kGreat, .inl h1, rfl, (drL_get g c s).1.symm⟩, tyV_list h2, g, s.great.map V.int, 0, 0, .int x, rfl, rfl, h2, by decide, by decide, ?_, by rw [hr]; rfl, ?_⟩
        · rw [hr]; simp [seqIndex?]
        · have hva : vAt σ i = some (.ref a) := by unfold vAt; simp [List.getD_eq_getElem?_getD, hv]
          obtain ⟨ok2, e2⟩ := ok.updIn (i := i) (a := g) (o' := .lst (r.map V.int)) (s' := .dr { s with great := r }) hs (by intro z; cases z) (fun fp ⟨a', g', e1, e2, c', o', q1, q2, q3⟩ => by
              rw [hva] at e1; cases e1
              rw [h1] at q1
              have e3 : g' = g := by
                have := congrArg (fun o => match o with | some (HO.dK ((_, V.ref z) :: _)) => z | _ => 0) q1
                exact this.symm
              subst e2; subst e3; simp) h2 rfl (fun ps z => by cases z) (fun ps z => by cases z) (fun fp sl ex => by
              obtain ⟨a', g', e1, e2, c', o', q1, q2, q3⟩ := sl
              rw [hva] at e1; cases e1
              rw [h1] at q1
              have e3 : g' = g := by
                have := congrArg (fun o => match o with | some (HO.dK ((_, V.ref z) :: _)) => z | _ => 0) q1
                exact this.symm
              have e4 : c' = c := by
                have := congrArg (fun o => match o with | some (HO.dK (_ :: (_, V.ref z) :: _)) => z | _ => 0) q1
                exact this.symm
              subst e3 e4
              refine ⟨a, g', hva, e2, c', o', by rw [upd_ne hag]; exact h1, upd_same, ex _ _ q3 rfl⟩)
          have e5 : (s.great.map V.int).eraseIdx 0 = r.map V.int := by rw [hr]; rfl
          rw [e5]
          exact h _ _ e2 ok2 (.int x)
      · exact h.elim
    · exact h.elim
/-- state['rest'] = e -/
def sDrRest (i : Nat) (f : Ev D) : Sv := fun ρ => match svAt ρ i with
  | .dr _ => ofE (f ρ) fun x ρ1 => match svAt ρ1 i, x with
    | .dr s, .int r => .nx (ρ1.set i (.dr { s with rest := r }))
    | _, _ => .bad
  | _ => .bad
def sDrTurn (i : Nat) (f : Ev D) : Sv := fun ρ => match svAt ρ i with
  | .dr _ => ofE (f ρ) fun x ρ1 => match svAt ρ1 i, x with
    | .dr s, .int r => .nx (ρ1.set i (.dr { s with turn := r }))
    | _, _ => .bad
  | _ => .bad
theorem StOk.drPut {σ : L2.St} {H : Hp} {ρ : Ρ} (ok : StOk X.K G σ H ρ) {i : Nat} {s s' : DrS} (hs : svAt ρ i = .dr s) (hg : s'.great = s.great) (hc : s'.cells = s.cells) : ∃ a g c, σ[i]? = some (some (.ref a)) ∧ H a = some (.dK (drL g c s)) ∧ StOk X.K G σ (upd H a (.dK (drL g c s'))) (ρ.set i (.dr s')) ∧ Ext H (upd H a (.dK (drL g c s'))) := by
  obtain ⟨a, g, c, o, hv, h1, h2, h3, hag⟩ := ok.drA hs
  have hva : vAt σ i = some (.ref a) := by unfold vAt; simp [List.getD_eq_getElem?_getD, hv]
  refine ⟨a, g, c, hv, h1, ok.updIn (i := i) (a := a) (s' := .dr s') hs (by intro z; cases z) (fun fp ⟨a', g', e1, e2, _⟩ => by rw [hva] at e1; cases e1; subst e2; simp) h1 rfl (fun ps z => by cases z) (fun ps z => by cases z) fun fp sl ex => ?_⟩
  obtain ⟨a', g', e1, e2, c', o', q1, q2, q3⟩ := sl
  rw [hva] at e1; cases e1
  rw [h1] at q1
  have e3 : g' = g := by
    have := congrArg (fun o => match o with | some (HO.dK ((_, V.ref z) :: _)) => z | _ => 0) q1
    exact this.symm
  have e4 : c' = c := by
    have := congrArg (fun o => match o with | some (HO.dK (_ :: (_, V.ref z) :: _)) => z | _ => 0) q1
    exact this.symm
  subst e3 e4
  exact ⟨a, g', hva, e2, c', o', upd_same, by rw [upd_ne (Ne.symm hag), hg]; exact q2, by rw [hc]; exact ex _ _ q3 rfl⟩
theorem xs_drRest {i : Nat} {y : Str} {py p2 p3 : Pos} {j} {f : Ev D} (hu : X.A.units + 1 < cLine) (hv : PE X (.Name y py) (tVar i)) (he : PE X a (trE X.K G E f)) (hs : swapsWith a (some (.Subscript (.Name y py) (.Constant (.str "rest") j p2) p3)) pos.line X.env = pure false := by rfl) :
    PS X (.Assign [.Subscript (.Name y py) (.Constant (.str "rest") j p2) p3] a pos) (trS X.K G E (sDrRest i f)) :=
  PS.imp (ps_dput hu hv pe_str he hs) fun D' σ H ⟨ρ, ok, h⟩ => by
    simp only [sDrRest] at h
    split at h
    · rename_i s0 hs0
      refine ⟨ρ, ok, h.ofE.imp fun v H1 ⟨x, ρ1, e1, ok1, r1, h1⟩ => ?_⟩
      split at h1
      · rename_i s r hs1
        obtain ⟨a, g, c, hv, ha, ok2, e2⟩ := ok1.drPut (s' := { s with rest := r }) hs1 rfl rfl
        refine ⟨_, hv, a, _, rfl, .inl ⟨_, kRest, ha, rfl, by show 4 < sizeLine; decide, ?_⟩, h1 σ _ e2 ok2⟩
        rw [r1.int_inv, (drL_put g c s r).1]
      · exact h1.elim
    · exact h.elim
theorem xs_drTurn {i : Nat} {y : Str} {py p2 p3 : Pos} {j} {f : Ev D} (hu : X.A.units + 1 < cLine) (hv : PE X (.Name y py) (tVar i)) (he : PE X a (trE X.K G E f)) (hs : swapsWith a (some (.Subscript (.Name y py) (.Constant (.str "turn") j p2) p3)) pos.line X.env = pure false := by rfl) :
    PS X (.Assign [.Subscript (.Name y py) (.Constant (.str "turn") j p2) p3] a pos) (trS X.K G E (sDrTurn i f)) :=
  PS.imp (ps_dput hu hv pe_str he hs) fun D' σ H ⟨ρ, ok, h⟩ => by
    simp only [sDrTurn] at h
    split at h
    · rename_i s0 hs0
      refine ⟨ρ, ok, h.ofE.imp fun v H1 ⟨x, ρ1, e1, ok1, r1, h1⟩ => ?_⟩
      split at h1
      · rename_i s r hs1
        obtain ⟨a, g, c, hv, ha, ok2, e2⟩ := ok1.drPut (s' := { s with turn := r }) hs1 rfl rfl
        refine ⟨_, hv, a, _, rfl, .inl ⟨_, kTurn, ha, rfl, by show 4 < sizeLine; decide, ?_⟩, h1 σ _ e2 ok2⟩
        rw [r1.int_inv, (drL_put g c s r).2]
      · exact h1.elim
    · exact h.elim
end
end PU
set_option maxHeartbeats 4000000
namespace PU
open PySem PySem.Spec PyProof.Rows L2

/-! ### the store of draws: made -/
def spDr (K : PySem.W.Frag) (T : List (Addr × Str)) (n : Nat) (f : List D → Option DrS) : Sp := fun vs H Q _ => ∃ ds, RpL K H vs ds ∧ ds.length = n ∧ LamX.Tabs T H ∧ ∃ s, f ds = some s ∧
  ∀ a g H', Ext H H' → Keep [] H H' → LamX.Tabs T H' → FrT H a → FrT H g → a ≠ g → DrOk K H' a g s → Q (.ref a) H'
section
variable {X : Cx} {G : GC} {E : XK} {a b c : Expr} {es : List Expr} {pos : Pos} {st : Stmt} {sts : List Stmt}
variable {elt tg iter : Expr} {scope : Scope} {own : List (Str × Nat)} {I : Ev (List D)} {g : TG} {T : D → Ρ → Option Ρ} {tt : Ev Bool} {te : Ev D}
theorem new_end {i : Nat} {Fl : Ev (List D)} {D' : Ends} {σ : L2.St} {H : Hp} {ρ : Ρ} (hoi : i ∉ G.ow) (h : atS X.K G E (sNew i Fl ρ) D' σ H) : atN X.K G E (Fl ρ) σ H fun x H1 => gName i x σ H1 D'.nx := by
  simp only [sNew] at h
  cases hF : Fl ρ with
  | bad => rw [hF] at h; exact h
  | ex x ρ1 => rw [hF] at h; exact atX.e h
  | ok ds ρ1 => rw [hF] at h; exact fun p xs H' e ok' r => h _ H' e (ok'.takeL hoi r)
theorem xs_newLc0 {i : Nat} {y : Str} {py spos : Pos} (hc : X.calm = true) (hN : X.N.Nodup) (hy : X.N[i]? = some y) (hyl : X.env.scope.names.lookup y = some .local) (hoi : i ∉ G.ow) (hsw : swapsWith (.ListComp elt [⟨tg, iter, [], 0⟩] scope pos) (some (.Name y py)) spos.line X.env = pure true)
    (hi : PI X tg iter (trI X.K G E I)) (ok : BlkOk X.N X.env.scope scope own)
    (hg : ∀ (s : Shared) (H : Hp) (C : Addr) (cl : List (Str × Addr)) (fp : List Addr), PG (X.blk s H scope (compEnvC scope cl C X.env) fp) tg g) (hT : TgK X.K g T (own.map (·.2))) (ho : ∀ i ∈ own.map (·.2), i ∉ G.ow)
    (he : ∀ (p : Addr) (o : HO) (s : Shared) (H : Hp) (C : Addr) (cl : List (Str × Addr)) (fp : List Addr), PE (X.blk s H scope (compEnvC scope cl C X.env) fp) elt (trE X.K (G.pr p o) EF te)) (hs : ∀ x, foldedSetIterable iter X.env x = pure x := by intro _; rfl) :
    PS X (.Assign [.Name y py] (.ListComp elt [⟨tg, iter, [], 0⟩] scope pos) spos) (trS X.K G E (sNew i (nLc I T tYesF te (own.map (·.2))))) :=
  PS.imp (ps_setLc hc hN hy hyl hsw hi ok hg (fun s H C cl fp => pts_yes (X := X.blk s H scope (compEnvC scope cl C X.env) fp) (G := G)) (fun s H C cl fp => ⟨fun pins s' σ H' Q I ⟨p, o, h⟩ => (he p o s H C cl fp).run pins s' σ H' Q I h⟩) hs) fun D' σ H ⟨ρ, ok, h⟩ => tLc_of (E := E) hT ho ⟨ρ, ok, new_end hoi h⟩
theorem xs_newLc1 {cnd : Expr} {i : Nat} {y : Str} {py spos : Pos} (hc : X.calm = true) (hN : X.N.Nodup) (hy : X.N[i]? = some y) (hyl : X.env.scope.names.lookup y = some .local) (hoi : i ∉ G.ow) (hsw : swapsWith (.ListComp elt [⟨tg, iter, [cnd], 0⟩] scope pos) (some (.Name y py)) spos.line X.env = pure true)
    (hi : PI X tg iter (trI X.K G E I)) (ok : BlkOk X.N X.env.scope scope own)
    (hg : ∀ (s : Shared) (H : Hp) (C : Addr) (cl : List (Str × Addr)) (fp : List Addr), PG (X.blk s H scope (compEnvC scope cl C X.env) fp) tg g) (hT : TgK X.K g T (own.map (·.2))) (ho : ∀ i ∈ own.map (·.2), i ∉ G.ow)
    (ht : ∀ (p : Addr) (o : HO) (s : Shared) (H : Hp) (C : Addr) (cl : List (Str × Addr)) (fp : List Addr), PT (X.blk s H scope (compEnvC scope cl C X.env) fp) cnd (trT X.K (G.pr p o) EF tt))
    (he : ∀ (p : Addr) (o : HO) (s : Shared) (H : Hp) (C : Addr) (cl : List (Str × Addr)) (fp : List Addr), PE (X.blk s H scope (compEnvC scope cl C X.env) fp) elt (trE X.K (G.pr p o) EF te)) (hs : ∀ x, foldedSetIterable iter X.env x = pure x := by intro _; rfl) :
    PS X (.Assign [.Name y py] (.ListComp elt [⟨tg, iter, [cnd], 0⟩] scope pos) spos) (trS X.K G E (sNew i (nLc I T tt te (own.map (·.2))))) :=
  PS.imp (ps_setLc hc hN hy hyl hsw hi ok hg (fun s H C cl fp => pts_one ⟨fun pins s' σ H' Q I ⟨p, o, h⟩ => (ht p o s H C cl fp).run pins s' σ H' Q I h⟩) (fun s H C cl fp => ⟨fun pins s' σ H' Q I ⟨p, o, h⟩ => (he p o s H C cl fp).run pins s' σ H' Q I h⟩) hs) fun D' σ H ⟨ρ, ok, h⟩ => tLc_of (E := E) hT ho ⟨ρ, ok, new_end hoi h⟩
/-- what the return of the four fields makes of slot i and of f -/
def drOf (i : Nat) (f : Ev D) (ρ : Ρ) : Option DrS := match svAt ρ i with
  | .ol gs => match f ρ with
    | .ok (.lst ds) ρ1 => match svAt ρ1 i with
      | .ol gs' => match intsD gs, intsD gs', intsD ds with
        | some _, some ns, some ms => some ⟨ns, ms, 0, 0⟩
        | _, _, _ => none
      | _ => none
    | _ => none
  | _ => none
def tRetDr (K : PySem.W.Frag) (G : GC) (i : Nat) (f : Ev D) : TS := fun D' σ H => ∃ ρ, StOk K G σ H ρ ∧ ∃ s, drOf i f ρ = some s ∧ ∀ a g H', Ext H H' → Keep G.Z G.H0 H' → LamX.Tabs G.T H' → FrT G.H0 a → (FrT G.H0 g ∨ g ∈ G.Z) → a ≠ g → DrOk K H' a g s → D'.rt (.ref a) H'
theorem xs_retDr {i : Nat} {y : Str} {ce : Expr} {f : Ev D} {p1 p2 p3 p4 p5 p6 p7 p8 : Pos} {j1 j2 j3 j4 j5 j6} (hv : PE X (.Name y p5) (tVar i)) (hce : ∀ p o, PE X ce (trE X.K (G.pr p o) EF f)) :
    PS X (.Return (some (.Dict [some (.Constant (.str "great") j1 p1), some (.Constant (.str "cells") j2 p2), some (.Constant (.str "rest") j3 p3), some (.Constant (.str "turn") j4 p4)] [.Name y p5, ce, .Constant (.int 0) j5 p6, .Constant (.int 0) j6 p7] p8)) pos) (tRetDr X.K G i f) := by
  have hce' : PE X ce (fun σ H Q => ∃ p o, trE X.K (G.pr p o) EF f σ H Q) := ⟨fun pins s σ H Q I ⟨p, o, h⟩ => (hce p o).run pins s σ H Q I h⟩
  refine PS.imp (ps_ret (pe_disp (pps_cons pe_str hv (pps_cons pe_str hce' (pps_cons pe_str pe_int (pps_cons pe_str pe_int pps_nil)))) rfl rfl (fun z => nomatch z) (by show 4 ≤ 15; decide))) fun D' σ H ⟨ρ, ok, s, hs, q⟩ => ?_
  intro p hp
  have okp := ok.guard (o := .dK []) hp
  unfold drOf at hs
  split at hs
  · rename_i gs hgs
    obtain ⟨g0, xs0, hv0, hg0, r0⟩ := ok.ol hgs
    refine ⟨.ref g0, hv0, p, .dK [], ρ, okp, ?_⟩
    split at hs
    · rename_i ds ρ1 hf
      rw [hf]
      intro v H2 e2 ok2 r2
      split at hs
      · rename_i gs' hgs'
        split at hs
        · rename_i ns0 ns ms h0 h1 h2
          cases hs
          refine ⟨ok2.prAt, ?_⟩
          cases r2 with
          | @lst c o xs _ hc rc =>
            obtain ⟨g1, xs1, hv1, hg1, r1⟩ := ok2.ol hgs'
            rw [hv0] at hv1; cases hv1
            rw [intsD_inv h1] at r1
            rw [intsD_inv h2] at rc
            have ex1 := r1.ints
            have exc := rc.ints
            subst ex1 exc
            refine ⟨[(kGreat, .ref g0), (kCells, .ref c), (kRest, .int 0), (kTurn, .int 0)], rfl, by show 4 ≤ 15; decide, ?_⟩
            obtain ⟨ok3, e3⟩ := ok2.regard (o' := .dK (drL g0 c ⟨ns, ms, 0, 0⟩)) rfl (fun ps z => by cases z)
            have em : mergeK [] [(kGreat, V.ref g0), (kCells, .ref c), (kRest, .int 0), (kTurn, .int 0)] = drL g0 c ⟨ns, ms, 0, 0⟩ := by
              have n1 : ¬ kGreat = kCells := by decide
              have n2 : ¬ kGreat = kRest := by decide
              have n3 : ¬ kGreat = kTurn := by decide
              have n4 : ¬ kCells = kRest := by decide
              have n5 : ¬ kCells = kTurn := by decide
              have n6 : ¬ kRest = kTurn := by decide
              simp [mergeK, putK, drL, n1, n2, n3, n4, n5, n6]
            rw [em]
            have pg : p ≠ g0 := fun z => by
              have := ok2.prAt
              rw [z, hg1] at this; cases this
            have hg3 : upd H2 p (.dK (drL g0 c ⟨ns, ms, 0, 0⟩)) g0 = some (.lst (ns.map V.int)) := by rw [upd_ne (Ne.symm pg)]; exact hg1
            obtain ⟨⟨fp, x⟩, k3, t3⟩ := ok3
            obtain ⟨z1, z2, z3⟩ := x.prot (p, _) List.mem_cons_self
            have hil := svAt_of hgs' (by intro z; cases z)
            have hsl := x.slot i hil
            rw [hgs'] at hsl
            obtain ⟨g2, _, w1, w2, _⟩ := hsl
            have hva : vAt σ i = some (.ref g0) := by unfold vAt; simp [List.getD_eq_getElem?_getD, hv0]
            rw [hva] at w1; cases w1
            exact q p g0 _ ((Ext.of (same_upd hp)).trans (e2.trans e3)) k3 t3 z2 (x.own i g0 hil (by rw [w2]; simp)) pg ⟨c, o, upd_same, hg3, e3 _ _ hc rfl⟩
        · cases hs
      · cases hs
    · cases hs
  · cases hs
/-- the def that makes it: a statement, the return -/
def begunF (N : Nat) (A1 : Sv) (i : Nat) (f : Ev D) : List D → Option DrS := fun ds => match A1 (stL ds ++ List.replicate (N - ds.length) .un) with
  | .nx ρ => drOf i f ρ
  | _ => none
end
section
variable {P : Program} {w : World} {K : PySem.W.Frag} {mg : Str → Option Value} {base : Heap}
theorem def_begun {x qual : Str} {st : Stmt} {f : Addr} {fd : FuncData} {N ps : List Str} {k n : Nat} {T : List (Addr × Str)} {A1 : Sv} {i : Nat} {fc : Ev D} (F : Fun K x qual st f fd) (S : FnScope N ps (defScope st)) (hn : ps.length = n) (hN : n ≤ N.length)
    (hB : ∀ (cdv : Value) (A : Around) (outer : List Env) (s : Shared) (H : Hp) (E : XK) (G : GC), Room k (A.deeper (envOfC qual (defScope st) s.heap.objs.size f cdv)) → G.ow = [] → G.T = T →
      PSs (cxOf CX0 P w K mg base N qual (defScope st) f cdv A outer s H E).nox (defBody st) (fun D' => trS K G EF A1 { D' with nx := tRetDr K G i fc D' })) :
    FnOk P w K mg base CX0 (k + 1) f fd ps (spDr K T n (begunF N.length A1 i fc)) := by
  refine F.ok S (fun vs H Q E ⟨ds, r, hl, _⟩ => by rw [hn, r.length, hl]) fun cdv A outer s H vs Q E hr h => ?_
  obtain ⟨ds, r, hl, t, dr, hf, q⟩ := h
  have a := argOk_stL r hl
  refine ⟨_, hB cdv A outer s H E (gcOf T H [] vs fun _ => []) hr rfl rfl, _, start_ok a t hN, ?_⟩
  unfold begunF at hf
  have hlen : (stL ds).length = ds.length := by simp [stL]
  rw [hlen]
  split at hf
  · rename_i ρ hA
    rw [hA]
    refine fun σ' H' e ok => ⟨ρ, ok, dr, hf, fun p g H2 e2 k2 t2 f1 f2 ne o2 => ?_⟩
    have f2' : FrT H g := by
      rcases f2 with z | z
      · exact z
      · exact nomatch (show g ∈ ([] : List Addr) from z)
    exact q p g H2 (e.trans e2) k2 t2 f1 f2' ne o2
  · cases hf
end
section
variable {X : Cx} {G : GC} {E : XK} {a b c : Expr} {es : List Expr} {pos : Pos} {st : Stmt} {sts : List Stmt}
/-- name = the store of draws that x makes -/
def sSetDr (i : Nat) (l : Ev (List D)) (f : List D → Option DrS) : Sv := fun ρ => ofE (l ρ) fun ds ρ1 => match f ds with
  | some s => .nx (ρ1.set i (.dr s))
  | none => .bad
theorem xs_setDr {spos : Pos} {CX : CXT} {k n i : Nat} {f : Addr} {fd : FuncData} {ps : List Str} {x y : Str} {p py : Pos} {fn : List D → Option DrS} {L : Ev (List D)} (F : FnOk X.prog X.w X.K X.mg X.base CX k f fd ps (spDr X.K G.T n fn)) (hr : Room k X.A) (hg : Gl X x) (hm : X.mg x = some (.ref f)) (hk : PySem.W.keepIn X.K (.ref f) = true) (hb : Binds X.K fd ps []) (hx : Passes CX X E)
    (ha : PA X (a :: es) (trL X.K G E L)) (hL : ∀ ρ ds ρ1, L ρ = .ok ds ρ1 → ds.length = n) (hN : X.N.Nodup) (hi : X.N[i]? = some y) (hy : Loc X.env.scope y) (ho : i ∉ G.ow) (hdb : (x == ("__debug__" : Str)) = false := by decide) (he : starEach (a :: es) X.env = (false, eval a X.env) :: starEach es X.env := by rfl) (hpl : (backTo pos (starEach es X.env)).any (·.1) = false := by rfl)
    (hs : swapsWith (.Call (.Name x p) (a :: es) [] pos) (some (.Name y py)) spos.line X.env = pure false := by rfl) (hf : X.fn y = true ∨ X.env.scope.names.lookup y = some .local := by first | exact .inl rfl | exact .inr rfl | assumption) :
    PS X (.Assign [.Name y py] (.Call (.Name x p) (a :: es) [] pos) spos) (trS X.K G E (sSetDr i L fn)) :=
  PS.imp (ps_set hN hi hy (pe_call F hr hg hm hk hb .nil hx ha hdb he hpl) hs hf) fun D' σ H ⟨ρ, ok, h⟩ => ⟨ρ, ok, by
    simp only [sSetDr] at h
    cases hl : L ρ with
    | bad => rw [hl] at h; exact h
    | ex x ρ1 => rw [hl] at h; exact atX.e h
    | ok ds ρ1 =>
      rw [hl] at h
      intro vs H1 e1 ok1 r1
      simp only [ofE] at h
      cases hfn : fn ds with
      | none => rw [hfn] at h; exact h.elim
      | some s =>
        rw [hfn] at h
        refine ⟨ds, by rw [List.append_nil]; exact r1, hL _ _ _ hl, ok1.tabs, s, hfn, fun p g H2 e2 k t f1 f2 ne dr => ?_⟩
        have ok2 := ok1.called e2 k t
        obtain ⟨⟨fp, x⟩, k2, t2⟩ := ok2
        obtain ⟨⟨fp1, x1⟩, k1, _⟩ := ok1
        have old : ∀ b, FrT H1 b → FrT G.H0 b := fun b hb o e => by
          by_cases z : ∃ ps, o = .tbl ps
          · exact z
          · obtain ⟨o', e', t'⟩ := k1.dom b o e fun ps q => z ⟨ps, q⟩
            obtain ⟨ps, q⟩ := hb o' e'
            exact absurd q (t' ps)
        have away : ∀ b, FrT H1 b → ∀ q ∈ G.prot, q.1 ≠ b := fun b hb q hq z => by
          obtain ⟨ps, e⟩ := hb _ (z ▸ (x1.prot q hq).1)
          exact x1.notbl q hq ps e
        have fr : ∀ b ∈ [p, g], FrT H1 b := fun b hb => by
          rcases List.mem_cons.mp hb with z | z
          · rw [z]; exact f1
          · rw [List.mem_singleton.mp z]; exact f2
        -- the slots' cells of the state behind the call are those of the state before it
        have okc : StOk X.K G σ H2 ρ1 := StOk.called ⟨⟨fp1, x1⟩, k1, by assumption⟩ e2 k t
        have kp : ∀ j, j < ρ1.length → ∀ b ∈ fp1 j, ∀ o, H1 b = some o → H2 b = some o := fun j hj b hb o q => by
          obtain ⟨o', q', _, nt⟩ := (x1.slot j hj).there b hb
          rw [q] at q'; cases q'
          exact k.keep b o q (by simp) nt
        have x2 : StEx X.K G σ H2 ρ1 fp1 := ⟨x1.len, fun j hj => (x1.slot j hj).keep e2 (kp j hj), x1.sep, x1.own, x1.pin, fun q hq => ⟨k.keep _ _ (x1.prot q hq).1 (by simp) (x1.notbl q hq), (x1.prot q hq).2⟩, x1.notbl, x1.nd⟩
        refine h _ H2 (e1.trans e2) ⟨⟨_, x2.setAny (f := [p, g]) (s := .dr s) ho ⟨p, g, rfl, rfl, dr⟩ (fun b hb => ⟨old b (fr b hb), away b (fr b hb)⟩) fun b hb j hj hm => ?_⟩, k2, t2⟩
        obtain ⟨o', q', _, nt⟩ := (x1.slot j hj).there b hm
        obtain ⟨ps, z⟩ := fr b hb _ q'
        exact nt ps z⟩
end
end PU
set_option maxHeartbeats 4000000
namespace PU
open PySem PySem.Spec PyProof.Rows L2

/-! ### a dict of one's own, keys tuples of ints and texts -/
def keyOf : D → Option Key
  | .int i => some (.inl i)
  | .str z => some (.inr z)
  | _ => none
def keysOf : List D → Option (List Key)
  | [] => some []
  | d :: ds => match keyOf d, keysOf ds with
    | some k, some ks => some (k :: ks)
    | _, _ => none
def tkOf : D → Option (List Key)
  | .tup ds => keysOf ds
  | _ => none
theorem keyOf_D (k : Key) : keyOf (keyD k) = some k := by cases k <;> rfl
theorem keysOf_D : ∀ ks : List Key, keysOf (ks.map keyD) = some ks
  | [] => rfl
  | k :: ks => by simp only [List.map_cons, keysOf, keyOf_D, keysOf_D ks]
theorem tkOf_D (k : List Key) : tkOf (tkD k) = some k := keysOf_D k
theorem keyOf_inv {d : D} {k : Key} (h : keyOf d = some k) : d = keyD k := by
  cases d <;> simp [keyOf] at h <;> (subst h; rfl)
theorem keysOf_inv : ∀ {ds : List D} {ks : List Key}, keysOf ds = some ks → ds = ks.map keyD
  | [], _, h => by cases h; rfl
  | d :: ds, ks, h => by
    simp only [keysOf] at h
    split at h
    · rename_i k ks' h1 h2
      cases h
      rw [keyOf_inv h1, keysOf_inv h2]; rfl
    · cases h
theorem tkOf_inv {d : D} {k : List Key} (h : tkOf d = some k) : d = tkD k := by
  cases d <;> simp [tkOf] at h
  rw [keysOf_inv h]; rfl
def hasD (kvs : List (D × D)) (k : List Key) : Bool := kvs.any fun p => decide (tkOf p.1 = some k)
def putD (kvs : List (D × D)) (k : List Key) (v : D) : List (D × D) :=
  if hasD kvs k = true then kvs.map (fun p => if tkOf p.1 = some k then (p.1, v) else p) else kvs ++ [(tkD k, v)]
def getD' (kvs : List (D × D)) (k : List Key) : Option D := (kvs.find? fun p => decide (tkOf p.1 = some k)).map (·.2)
section
variable {K : PySem.W.Frag} {H : Hp}
theorem any3 (k : List Key) : ∀ {ks : List (List Key)} {xs : List V} {ds : List D}, ks.length = xs.length → RpL K H xs ds → ((ks.zip xs).any fun kv => decide (kv.1 = k)) = hasD ((ks.map tkD).zip ds) k
  | [], [], _, _, .nil => rfl
  | k' :: ks, x :: xs, _, hl, .cons (ds := ds) (d := d) r t => by
    have ih := any3 k (ks := ks) (by simpa using hl) t
    simp only [hasD, List.map_cons, List.zip_cons_cons, List.any_cons, tkOf_D, Option.some.injEq] at ih ⊢
    rw [ih]
  | [], _ :: _, _, hl, _ => by simp at hl
  | _ :: _, [], _, hl, _ => by simp at hl
theorem map3 (k : List Key) {v : V} {d : D} (rv : Rp K H v d) : ∀ {ks : List (List Key)} {xs : List V} {ds : List D}, ks.length = xs.length → RpL K H xs ds →
    ∃ (xs' : List V) (ds' : List D), (ks.zip xs).map (fun kv => if kv.1 = k then (kv.1, v) else kv) = ks.zip xs' ∧ ks.length = xs'.length ∧ RpL K H xs' ds' ∧ ((ks.map tkD).zip ds).map (fun p => if tkOf p.1 = some k then (p.1, d) else p) = (ks.map tkD).zip ds'
  | [], [], _, _, .nil => ⟨[], [], rfl, rfl, .nil, rfl⟩
  | k' :: ks, x :: xs, _, hl, .cons (ds := ds) (d := d0) r t => by
    obtain ⟨xs', ds', e1, e2, e3, e4⟩ := map3 k rv (ks := ks) (by simpa using hl) t
    by_cases hk : k' = k
    · exact ⟨v :: xs', d :: ds', by simp only [List.zip_cons_cons, List.map_cons, e1, hk, if_true], by simp [e2], .cons rv e3, by simp only [List.map_cons, List.zip_cons_cons, e4, tkOf_D, hk, if_true]⟩
    · exact ⟨x :: xs', d0 :: ds', by simp only [List.zip_cons_cons, List.map_cons, e1, if_neg hk], by simp [e2], .cons r e3, by
        have : ¬ (some k' = some k) := fun z => hk (Option.some.inj z)
        simp only [List.map_cons, List.zip_cons_cons, e4, tkOf_D, if_neg this]⟩
  | [], _ :: _, _, hl, _ => by simp at hl
  | _ :: _, [], _, hl, _ => by simp at hl
theorem put3 (k : List Key) {v : V} {d : D} (rv : Rp K H v d) {ks : List (List Key)} {xs : List V} {ds : List D} (hl : ks.length = xs.length) (r : RpL K H xs ds) :
    ∃ (ks' : List (List Key)) (xs' : List V) (ds' : List D), putK (ks.zip xs) k v = ks'.zip xs' ∧ ks'.length = xs'.length ∧ RpL K H xs' ds' ∧ putD ((ks.map tkD).zip ds) k d = (ks'.map tkD).zip ds' := by
  have ha := any3 k hl r
  unfold putK putD
  rw [ha]
  by_cases h : hasD ((ks.map tkD).zip ds) k = true
  · rw [if_pos h, if_pos h]
    obtain ⟨xs', ds', e1, e2, e3, e4⟩ := map3 k rv hl r
    exact ⟨ks, xs', ds', e1, e2, e3, e4⟩
  · rw [if_neg h, if_neg h]
    refine ⟨ks ++ [k], xs ++ [v], ds ++ [d], ?_, by simp [hl], r.append (.cons rv .nil), ?_⟩
    · rw [List.zip_append hl]; rfl
    · rw [List.map_append, List.zip_append (by rw [List.length_map, hl, r.length])]; rfl
theorem get3 (k : List Key) : ∀ {ks : List (List Key)} {xs : List V} {ds : List D} {d : D}, ks.length = xs.length → RpL K H xs ds → getD' ((ks.map tkD).zip ds) k = some d → ∃ v, valV (ks.zip xs) k = some v ∧ Rp K H v d
  | [], [], _, _, _, .nil, h => by cases h
  | k' :: ks, x :: xs, _, d, hl, .cons (ds := ds) (d := d0) r t, h => by
    simp only [getD', List.map_cons, List.zip_cons_cons, List.find?_cons, tkOf_D, Option.some.injEq] at h
    by_cases hk : k' = k
    · simp only [hk, decide_true] at h
      cases h
      exact ⟨x, by rw [List.zip_cons_cons]; exact valV_pos hk, r⟩
    · simp only [hk, decide_false] at h
      obtain ⟨v, h1, h2⟩ := get3 k (ks := ks) (by simpa using hl) t h
      exact ⟨v, by rw [List.zip_cons_cons, valV_neg hk]; exact h1, h2⟩
  | [], _ :: _, _, _, hl, _, _ => by simp at hl
  | _ :: _, [], _, _, hl, _, _ => by simp at hl
theorem val3 (k : List Key) {ks : List (List Key)} {xs : List V} {ds : List D} (hl : ks.length = xs.length) (r : RpL K H xs ds) : (valV (ks.zip xs) k).isSome = hasD ((ks.map tkD).zip ds) k := by
  rw [← valV_any, any3 k hl r]
end
/-- the dict of slot i -/
theorem StOk.odT {K : PySem.W.Frag} {G : GC} {σ : L2.St} {H : Hp} {ρ : Ρ} (h : StOk K G σ H ρ) {i : Nat} {kvs : List (D × D)} (e : svAt ρ i = .od kvs) :
    ∃ (a : Addr) (ks : List (List Key)) (xs : List V) (ds : List D), σ[i]? = some (some (.ref a)) ∧ H a = some (.dT (ks.zip xs)) ∧ ks.length = xs.length ∧ RpL K H xs ds ∧ kvs = (ks.map tkD).zip ds := by
  obtain ⟨a, hv, ks, xs, ds, e1, e2, e3, e4⟩ := h.od e
  exact ⟨a, ks, xs, ds, hv, e1, e2, e3, e4⟩
section
variable {X : Cx} {G : GC} {E : XK} {a b c : Expr} {es : List Expr} {pos : Pos} {st : Stmt} {sts : List Stmt}
theorem StOk.odPut {σ : L2.St} {H : Hp} {ρ : Ρ} (ok : StOk X.K G σ H ρ) {i p : Nat} {kvs kvs' : List (D × D)} {ks' : List (List Key)} {xs' : List V} {ds' : List D} {o : HO} (hs : svAt ρ i = .od kvs) (hv : σ[i]? = some (some (.ref p))) (ho : H p = some o) (hl : ks'.length = xs'.length) (r : RpL X.K H xs' ds') (hk : kvs' = (ks'.map tkD).zip ds') :
    StOk X.K G σ (upd H p (.dT (ks'.zip xs'))) (ρ.set i (.od kvs')) ∧ Ext H (upd H p (.dT (ks'.zip xs'))) := by
  have hva : vAt σ i = some (.ref p) := by unfold vAt; simp [List.getD_eq_getElem?_getD, hv]
  obtain ⟨a, ks, xs, ds, hv2, h1, _⟩ := ok.odT hs
  rw [hv] at hv2; cases hv2
  exact ok.updIn (i := i) (a := p) (s' := .od kvs') hs (by intro z; cases z) (fun fp ⟨a', e1, e2, _⟩ => by rw [hva] at e1; cases e1; subst e2; simp) h1 rfl (fun ps z => by cases z) (fun ps z => by cases z) fun fp ⟨a', e1, e2, _⟩ ex => by
    rw [hva] at e1; cases e1
    exact ⟨p, hva, e2, ks', xs', ds', upd_same, hl, r.ext ex, hk⟩
/-- own[k] = v -/
def sDPutO (i : Nat) (fk fv : Ev D) : Sv := fun ρ => match svAt ρ i with
  | .od _ => ofE (fv ρ) fun v ρ1 => match svAt ρ1 i with
    | .od _ => ofE (fk ρ1) fun k ρ2 => match svAt ρ2 i, tkOf k with
      | .od kvs, some ks => if kvs.length < sizeLine then .nx (ρ2.set i (.od (putD kvs ks v))) else .bad
      | _, _ => .bad
    | _ => .bad
  | _ => .bad
theorem zipL {α β : Type} {xs : List α} {ys : List β} (h : xs.length = ys.length) : (xs.zip ys).length = xs.length := by rw [List.length_zip, h, Nat.min_self]
theorem xs_dput {i : Nat} {y : Str} {py p2 : Pos} {ik : Expr} {fk fv : Ev D} (hu : X.A.units + 1 < cLine) (hv : PE X (.Name y py) (tVar i)) (hk : PE X ik (trE X.K G E fk)) (he : PE X a (trE X.K G E fv)) (hs : swapsWith a (some (.Subscript (.Name y py) ik p2)) pos.line X.env = pure false := by rfl) :
    PS X (.Assign [.Subscript (.Name y py) ik p2] a pos) (trS X.K G E (sDPutO i fk fv)) :=
  PS.imp (ps_dput hu hv hk he hs) fun D' σ H ⟨ρ, ok, h⟩ => by
    simp only [sDPutO] at h
    split at h
    · refine ⟨ρ, ok, h.ofE.imp fun v H1 ⟨x, ρ1, e1, ok1, r1, h1⟩ => ?_⟩
      split at h1
      · rename_i kv1 hs1
        obtain ⟨p, ks1, xs1, ds1, hv1, g1, g2, g3, g4⟩ := ok1.odT hs1
        refine ⟨_, hv1, ρ1, ok1, h1.ofE.imp fun w H2 ⟨k, ρ2, e2, ok2, r2, h2⟩ => ?_⟩
        split at h2
        · rename_i kvs kk hs2 hkk
          split at h2
          · rename_i hz
            obtain ⟨p', ks, xs, ds, hv2, q1, q2, q3, q4⟩ := ok2.odT hs2
            rw [hv1] at hv2; cases hv2
            obtain ⟨ks', xs', ds', m1, m2, m3, m4⟩ := put3 kk (r1.ext e2) q2 q3
            have hd := tkOf_inv hkk
            subst hd
            cases r2 with
            | @tup b ys _ t1 t2 =>
              obtain ⟨ok3, e3⟩ := ok2.odPut (kvs' := putD kvs kk x) hs2 hv1 q1 m2 m3 (by rw [q4]; exact m4)
              have ekk : ys = kk.map kV := by
                have : ∀ (kk : List Key) (ys : List V), RpL X.K H2 ys (kk.map keyD) → ys = kk.map kV := by
                  intro kk
                  induction kk with
                  | nil => intro ys r; cases r; rfl
                  | cons k kk ih =>
                    intro ys r
                    cases r with
                    | cons r t =>
                      rw [ih _ t]
                      cases k with
                      | inl n => rw [r.int_inv]; rfl
                      | inr z => rw [r.str_inv]; rfl
                exact this kk ys t2
              subst ekk
              refine ⟨p, _, rfl, .inr ⟨_, kk, b, q1, rfl, t1, ?_, rfl⟩, ?_⟩
              · rw [zipL q2]
                rw [q4, zipL (by rw [List.length_map, q2, q3.length]), List.length_map] at hz
                exact hz
              · rw [m1]; exact h2 σ _ e3 ok3
          · exact h2.elim
        · exact h2.elim
      · exact h1.elim
    · exact h.elim
/-- len(own dict) -/
def eODLen (i : Nat) : Ev D := fun ρ => match svAt ρ i with
  | .od kvs => .ok (.int kvs.length) ρ
  | _ => .bad
def rLenT : List V → Hp → VK → Prop := fun xs H Q => ∃ p kvs, xs = [.ref p] ∧ Rd H p (.dT kvs) ∧ Q (.int kvs.length) H
theorem call_lenT : CallR X (.builtin "len") rLenT := by
  intro pins s σ H xs us Q I r h
  obtain ⟨p, kvs, rfl, e, q⟩ := h
  rw [Vals.ref1 r]
  obtain ⟨z, hd, xs, pr, o, es, ep, e1, e2, e3, e4, _⟩ := (show ObjOk X.prog X.w H s.heap p (.dT kvs) from rd_of I.hok e)
  have hl : es.size = kvs.length := by
    have l1 : es.size = xs.length := size_of_entries e4
    have l2 : kvs.length = xs.length := Paired.length pr
    omega
  have hraw : ∀ t : Nat, ({ s with toks := t } : Shared).heap.DictRaw p es ep := fun t => ⟨o, e1, e2, e3⟩
  refine call_len_slot (T := "dict") (n := (kvs.length : Int)) ⟨o, e1, e2.1⟩ F.slot_dict_len (fun Q' q' => call_len_raw hd ⟨o, e1, e2, e3⟩ (by rw [hl]; exact q')) (by omega) (by rw [sizeLine_eq] at z; omega) ?_
  exact ⟨.int kvs.length, H, I.tok _, ⟨_, rfl⟩, q⟩
theorem xe_odlen {i : Nat} {y : Str} {py p : Pos} (hg : Gl X "len") (hm : X.mg "len" = none) (hv : PE X (.Name y py) (tVar i))
    (he : starEach [.Name y py] X.env = (false, eval (.Name y py) X.env) :: starEach [] X.env := by rfl) (hpl : (backTo pos (starEach [] X.env)).any (·.1) = false := by rfl) :
    PE X (.Call (.Name "len" p) [.Name y py] [] pos) (trE X.K G E (eODLen i)) :=
  PE.imp (pe_callB call_lenT hg hm (by decide +kernel) (pa_cons hv pa_nil he) (by decide) (by decide) he hpl) fun σ H Q ⟨ρ, ok, h⟩ => by
    simp only [eODLen] at h
    split at h
    · rename_i kvs hs
      obtain ⟨a, ks, xs, ds, hv, h1, h2, h3, h4⟩ := ok.odT hs
      refine ⟨_, hv, a, _, rfl, .inl h1, ?_⟩
      rw [zipL h2]
      rw [h4, zipL (by rw [List.length_map, h2, h3.length]), List.length_map] at h
      exact h.now ok (.int _)
    · exact h.elim
/-- the dict of slot i, known from now on -/
def eTakeD (i : Nat) : Ev D := fun ρ => match svAt ρ i with
  | .od kvs => .ok (.dct kvs) (ρ.set i (.st (.dct kvs)))
  | .st d => .ok d ρ
  | _ => .bad
theorem StOk.fzD {K : PySem.W.Frag} {G : GC} {σ : L2.St} {H : Hp} {ρ : Ρ} (h : StOk K G σ H ρ) {i : Nat} (hi : i ∉ G.ow) {a : Addr} {ks : List (List Key)} {xs : List V} {ds : List D} (hs : svAt ρ i = .od ((ks.map tkD).zip ds)) (hv : σ[i]? = some (some (.ref a))) (ha : H a = some (.dT (ks.zip xs))) (hl : ks.length = xs.length) (r : RpL K H xs ds) (o : Obj) :
    StOk K G σ (upd H a (.frz o (.dT (ks.zip xs)))) (ρ.set i (.st (.dct ((ks.map tkD).zip ds)))) ∧ Ext H (upd H a (.frz o (.dT (ks.zip xs)))) ∧ Rp K (upd H a (.frz o (.dT (ks.zip xs)))) (.ref a) (.dct ((ks.map tkD).zip ds)) := by
  have ev : vAt σ i = some (.ref a) := by unfold vAt; simp [List.getD_eq_getElem?_getD, hv]
  have hl' := svAt_of hs (by intro z; cases z)
  obtain ⟨⟨fp, x⟩, k, t⟩ := h
  have ef : fp i = [a] := by
    have := x.slot i hl'
    rw [hs] at this
    obtain ⟨a', e1, e2, _⟩ := this
    rw [ev] at e1; cases e1; exact e2
  have ex : Ext H (upd H a (.frz o (.dT (ks.zip xs)))) := fun b u e s => by
    have : b ≠ a := fun z => by subst z; rw [ha] at e; cases e; cases s
    rw [upd_ne this]; exact e
  have rp : Rp K (upd H a (.frz o (.dT (ks.zip xs)))) (.ref a) (.dct ((ks.map tkD).zip ds)) := .dt upd_same rfl hl (r.ext ex)
  have off : ∀ b, b ≠ a → ∀ u, H b = some u → upd H a (.frz o (.dT (ks.zip xs))) b = some u := fun b hb u e => by rw [upd_ne hb]; exact e
  refine ⟨⟨⟨fun j => if j = i then [] else fp j, by simp [x.len], fun j hj => ?_, fun j l b hj hl' ne hb => ?_, fun j b hj hb => ?_, fun j hj => ?_, fun p hp => ?_, x.notbl, x.nd⟩, ?_, ?_⟩, ex, rp⟩
  · rw [List.length_set] at hj
    rw [svAt_set]
    by_cases e : i = j
    · subst e
      rw [if_pos ⟨rfl, hl'⟩, if_pos rfl]
      exact ⟨rfl, _, ev, rp⟩
    · rw [if_neg fun z => e z.1, if_neg fun z => e z.symm]
      refine (x.slot j hj).keep ex fun b hb u e' => off b (fun z => ?_) u e'
      exact x.sep i j a hl' hj e (by rw [ef]; simp) (z ▸ hb)
  · rw [List.length_set] at hj hl'
    by_cases e : j = i
    · rw [if_pos e] at hb; cases hb
    · rw [if_neg e] at hb
      by_cases e2 : l = i
      · rw [if_pos e2]; exact fun z => nomatch z
      · rw [if_neg e2]; exact x.sep j l b hj hl' ne hb
  · rw [List.length_set] at hj
    by_cases e : j = i
    · rw [if_pos e] at hb; cases hb
    · rw [if_neg e] at hb; exact x.own j b hj hb
  · obtain ⟨g1, g2, g3⟩ := x.pin j hj
    have ne : j ≠ i := fun z => hi (z ▸ hj)
    exact ⟨by rw [List.length_set]; exact g1, g2, by rw [if_neg ne]; exact g3⟩
  · obtain ⟨g1, g2, g3⟩ := x.prot p hp
    refine ⟨off _ (fun z => g3 i hl' (by rw [ef, z]; simp)) _ g1, g2, fun j hj => ?_⟩
    rw [List.length_set] at hj
    by_cases e : j = i
    · rw [if_pos e]; exact fun z => nomatch z
    · rw [if_neg e]; exact g3 j hj
  · refine ⟨fun b u e z t' => ?_, fun b u e t' => ?_⟩
    · by_cases hb : b = a
      · subst hb
        rcases x.own i b hl' (by rw [ef]; simp) with w | w
        · obtain ⟨ps, q⟩ := w u e; exact absurd q (t' ps)
        · exact absurd w z
      · exact off b hb u (k.keep b u e z t')
    · by_cases hb : b = a
      · subst hb; exact ⟨_, upd_same, fun ps z => by cases z⟩
      · rw [upd_ne hb]; exact k.dom b u e t'
  · exact tabs_chg t fun b u e s => off b (fun z => by
      subst z; rw [ha] at e; cases e
      rcases s with s | ⟨ps, s⟩
      · cases s
      · cases s) u e
theorem xe_takeD {i : Nat} {x : Str} (hi : i ∉ G.ow) (h : PE X (.Name x pos) (tVar i)) : PE X (.Name x pos) (trE X.K G E (eTakeD i)) :=
  PE.imp (PE.fz h) fun σ H Q ⟨ρ, ok, h⟩ => by
    simp only [eTakeD] at h
    cases hs : svAt ρ i with
    | od kvs =>
      rw [hs] at h
      obtain ⟨a, ks, xs, ds, hv, h1, h2, h3, h4⟩ := ok.odT hs
      refine ⟨_, hv, ?_⟩
      refine ⟨fun b u e1 e2 e3 o => ?_, fun z => ?_⟩
      · cases e1
        rw [h1] at e2
        cases e2
        subst h4
        obtain ⟨ok2, ex, rp⟩ := ok.fzD hi hs hv h1 h2 h3 o
        exact h _ _ ex ok2 rp
      · have := z a _ rfl h1
        simp [isLD] at this
    | st d =>
      rw [hs] at h
      obtain ⟨v, hv, r⟩ := ok.st hs
      refine ⟨v, hv, ?_⟩
      refine ⟨fun b u e1 e2 e3 o => ?_, fun z => h.now ok r⟩
      subst e1
      exfalso
      cases r with
      | tup h1 _ => rw [h1] at e2; cases e2; exact absurd e3 (by simp [isLD])
      | lst h1 _ => rw [h1] at e2; cases e2; exact absurd e3 (by simp [isLD])
      | dk h1 _ _ _ => rw [h1] at e2; cases e2; exact absurd e3 (by simp [isLD])
      | dt h1 _ _ _ => rw [h1] at e2; cases e2; exact absurd e3 (by simp [isLD])
      | exn0 h1 => rw [h1] at e2; cases e2; exact absurd e3 (by simp [isLD, ExcO])
      | exn h1 _ _ _ => rw [h1] at e2; cases e2; exact absurd e3 (by simp [isLD, ExcO])
    | un => rw [hs] at h; exact h.elim
    | ol kvs => rw [hs] at h; exact h.elim
    | dr s => rw [hs] at h; exact h.elim
/-- {} : a new dict, to be changed -/
def atND (K : PySem.W.Frag) (G : GC) (ρ : Ρ) (σ : L2.St) (H : Hp) (Q : VK) : Prop := ∀ p H', Ext H H' → StOk K (G.pr p (.dT [])) σ H' ρ → Q (.ref p) H'
theorem pe_dnew : PE X (.Dict [] [] pos) (fun σ H Q => ∃ ρ, StOk X.K G σ H ρ ∧ atND X.K G ρ σ H Q) := PE.imp pe_dnewT fun σ H Q ⟨ρ, ok, h⟩ p hp => h p _ (.of (same_upd hp)) (ok.guard hp)
theorem dmut_nil {K : PySem.W.Frag} {H : Hp} {p : Addr} (h : H p = some (.dT [])) : DMut K H p [] := ⟨[], [], [], h, rfl, .nil, rfl⟩
/-- name = {} -/
def sNewD (i : Nat) : Sv := fun ρ => .nx (ρ.set i (.od []))
theorem xs_newD {i : Nat} {x : Str} {pos' p : Pos} (hN : X.N.Nodup) (hi : X.N[i]? = some x) (hx : Loc X.env.scope x) (ho : i ∉ G.ow) (hs : swapsWith (.Dict [] [] p) (some (.Name x pos')) pos.line X.env = pure false := by rfl)
    (hf : X.fn x = true ∨ X.env.scope.names.lookup x = some .local := by first | exact .inl rfl | exact .inr rfl | assumption) : PS X (.Assign [.Name x pos'] (.Dict [] [] p) pos) (trS X.K G E (sNewD i)) :=
  PS.imp (ps_set hN hi hx pe_dnew hs hf) fun D' σ H ⟨ρ, ok, h⟩ => ⟨ρ, ok, fun p H' e ok' => h _ H' e (ok'.takeD ho (dmut_nil ok'.prAt))⟩
/-- a, b = a value, {} -/
def sParSD (i j : Nat) (f : Ev D) : Sv := fun ρ => ofE (f ρ) fun d ρ1 => .nx ((ρ1.set i (.st d)).set j (.od []))
theorem xs_parSD {i j : Nat} {x y : Str} {f : Ev D} {px py pt p : Pos} {kt k2 pt2} (hc : X.calm = true) (hN : X.N.Nodup) (hi : X.N[i]? = some x) (hj : X.N[j]? = some y) (hij : i ≠ j)
    (hx : X.env.scope.names.lookup x = some .local) (hy : X.env.scope.names.lookup y = some .local) (ha : PE X a (trE X.K G E f)) (ho : i ∉ G.ow ∧ j ∉ G.ow)
    (hw : swappedStores [.Tuple [.Name x px, .Name y py] kt pt] (.Tuple [a, .Dict [] [] p] k2 pt2) X.env = pure (some [x, y]))
    (hs : swapsWithSole [.Tuple [.Name x px, .Name y py] kt pt] (.Tuple [a, .Dict [] [] p] k2 pt2) pos.line X.env = pure false := by rfl)
    (hs1 : starEach [a, .Dict [] [] p] X.env = (false, eval a X.env) :: starEach [.Dict [] [] p] X.env := by rfl) (hs2 : starEach [.Dict [] [] p] X.env = (false, eval (.Dict [] [] p) X.env) :: starEach [] X.env := by rfl) :
    PS X (.Assign [.Tuple [.Name x px, .Name y py] kt pt] (.Tuple [a, .Dict [] [] p] k2 pt2) pos) (trS X.K G E (sParSD i j f)) := by
  refine PS.imp (ps_par hc hN hi hj hij hx hy (pa_cons ha (pa_cons (pe_dnew (G := G)) pa_nil hs2) hs1) hw hs) fun D' σ H ⟨ρ, ok, h⟩ => ⟨ρ, ok, h.ofE.imp fun v H1 ⟨d, ρ1, e1, ok1, r1, h1⟩ => ⟨ρ1, ok1, fun p H' e ok' => ⟨v, .ref p, rfl, ?_⟩⟩⟩
  have q := StOk.setSt (i := i) (G := G.pr p (.dT [])) ok' ho.1 (r1.ext e)
  exact h1 _ H' e (q.takeD ho.2 (dmut_nil q.prAt))
end
end PU
set_option maxHeartbeats 4000000
namespace PU
open PySem PySem.Spec PyProof.Rows L2

/-! ### calls by keywords alone -/
def pick {α : Type} (is : List Nat) (n : Nat) (l : List α) : List α := if l.length = n then is.filterMap (l[·]?) else []
theorem pick_vals {is : List Nat} {n : Nat} {zs : List V} {ws : List Value} (r : Vals zs ws) : Vals (pick is n zs) (pick is n ws) := by
  unfold pick
  rw [r.length]
  split
  · induction is with
    | nil => exact .nil
    | cons i is ih =>
      rw [List.filterMap_cons, List.filterMap_cons]
      cases hz : zs[i]? with
      | none =>
        have : ws[i]? = none := by rw [List.getElem?_eq_none_iff] at hz ⊢; rw [← r.length]; exact hz
        rw [this]; exact ih
      | some x =>
        obtain ⟨u, hu, ru⟩ := r.get hz
        rw [hu]; exact .cons ru ih
  · exact .nil
theorem pick_rpl {K : PySem.W.Frag} {H : Hp} {is : List Nat} {n : Nat} {zs : List V} {ds : List D} (r : RpL K H zs ds) : RpL K H (pick is n zs) (pick is n ds) := by
  unfold pick
  rw [r.length]
  split
  · induction is with
    | nil => exact .nil
    | cons i is ih =>
      rw [List.filterMap_cons, List.filterMap_cons]
      cases hz : zs[i]? with
      | none =>
        have : ds[i]? = none := by rw [List.getElem?_eq_none_iff] at hz ⊢; rw [← r.length]; exact hz
        rw [this]; exact ih
      | some x =>
        obtain ⟨u, hu, ru⟩ := r.get hz
        rw [hu]; exact .cons ru ih
  · exact .nil
section
variable {X : Cx} {G : GC} {E : XK} {a b c : Expr} {es : List Expr} {pos : Pos} {st : Stmt} {sts : List Stmt}
theorem PK.imp {kws : List Keyword} {t t' : TA} (h : PK X kws t) (w : ∀ σ H Q, t' σ H Q → t σ H Q) : PK X kws t' := ⟨fun pos pins s σ H Q I q => h.run pos pins s σ H Q I (w σ H Q q)⟩
theorem xk_nil : PK X [] (trL X.K G E lNil) := PK.imp pk_nil fun σ H Q ⟨ρ, ok, h⟩ => h [] H (.refl _) ok .nil
theorem xk_cons {f : Ev D} {l : Ev (List D)} {kws : List Keyword} {nm : Option Str} {kp : Pos} (ha : PE X a (trE X.K G E f)) (hr : PK X kws (trL X.K G E l)) : PK X (⟨nm, a, kp⟩ :: kws) (trL X.K G E (lCons f l)) :=
  PK.imp (pk_cons ha hr) fun σ H Q ⟨ρ, ok, h⟩ => ⟨ρ, ok, by
    simp only [lCons] at h
    refine (h.bindE).imp fun v H1 ⟨d, ρ1, e1, ok1, r1, h1⟩ => ⟨ρ1, ok1, h1.bindL.imp fun vs H2 ⟨ds, ρ2, e2, ok2, r2, h2⟩ => h2 _ H2 (.refl _) ok2 (.cons (r1.ext e2) r2)⟩⟩
def eCallKw (is : List Nat) (n : Nat) (f : Fn) (L : Ev (List D)) : Ev D := fun ρ => (L ρ).bind fun ds ρ1 => if ds.length = n ∧ (pick is n ds).length = n then match f (stL (pick is n ds)) with
  | .bad => .bad
  | .ok d _ => .ok d ρ1
  | .ex x _ => .ex x ρ1 else .bad
theorem xe_callKw {CX : CXT} {k n : Nat} {f : Addr} {fd : FuncData} {ps ks : List Str} {x : Str} {p : Pos} {fn : Fn} {L : Ev (List D)} {kws : List Keyword} {is : List Nat} (F : FnOk X.prog X.w X.K X.mg X.base CX k f fd ps (spF X.K G.T n [] fn)) (hr : Room k X.A) (hg : Gl X x) (hm : X.mg x = some (.ref f)) (hk : PySem.W.keepIn X.K (.ref f) = true)
    (hb : ∀ (s : Shared) (ws : List Value), PySem.W.Frag.In X.K s.heap → ws.length = n → BindsTo s fd ⟨[], ks.zip ws⟩ (ps.zip (pick is n ws))) (hps : ps.length = n) (hx : Passes CX X E)
    (hkw : PK X kws (trL X.K G E L)) (hall : (backToKw pos (keywordEach kws X.env)).all (·.1.isSome) = true := by rfl) (hks : (backToKw pos (keywordEach kws X.env)).filterMap (·.1) = ks := by rfl) (hn0 : 0 < n := by decide)
    (hdb : (x == ("__debug__" : Str)) = false := by decide) (hpl : ((backTo pos (starEach [] X.env)).any (·.1) || (backToKw pos (keywordEach kws X.env)).any (·.1.isNone)) = false := by rfl) :
    PE X (.Call (.Name x p) [] kws pos) (trE X.K G E (eCallKw is n fn L)) := by
  have kb : KBinds X.K fd ps ks (fun us ws => if us = [] then pick is n ws else []) (fun vs zs => if vs = [] then pick is n zs else []) := by
    refine ⟨fun s us ws kin hl => ?_, fun {vs us zs ws} r rz => ?_⟩
    · by_cases hu : us = []
      · subst hu
        rw [if_pos rfl] at hl ⊢
        by_cases hw : ws.length = n
        · exact hb s ws kin hw
        · rw [hps] at hl
          simp only [pick, if_neg hw, List.length_nil] at hl
          omega
      · rw [if_neg hu] at hl
        rw [hps] at hl
        simp only [List.length_nil] at hl
        omega
    · cases r with
      | nil => exact pick_vals rz
      | cons _ _ => exact .nil
  refine PE.imp (t := fun σ H Q => trL X.K G E L σ H fun zs H1 => spF X.K G.T n [] fn (pick is n zs) H1 Q E) ⟨fun pins s σ H Q I h => ?_⟩ fun σ H Q ⟨ρ, ok, h⟩ => ⟨ρ, ok, ?_⟩
  · refine wpAny_Call_Name_kw (ld_glob I hg hm ?_ hdb)
    refine PySem.W.callWith_KW0 (h₀ := X.base) I.ok.mod.kin hk hall (thn (hkw.run pos pins s σ H _ I h) fun ws s2 ⟨zs, H2, I2, rz, q2⟩ => ⟨I2.kIn, ?_⟩) hpl
    rw [hks]
    exact run_fnk (us := []) (vs := []) F hr kb hx I2 .nil rz q2
  · simp only [eCallKw] at h
    refine h.bindL.imp fun vs H1 ⟨ds, ρ1, e1, ok1, r1, h1⟩ => ?_
    split at h1
    · rename_i hc
      refine ⟨stL (pick is n ds), fun _ => [], argOk_stL (pick_rpl r1) hc.2, ok1.tabs, ?_⟩
      cases hf : fn (stL (pick is n ds)) with
      | bad => rw [hf] at h1; exact h1.elim
      | ok d ss' => rw [hf] at h1; exact fun v H2 e2 k t _ r => h1 v H2 e2 (ok1.called e2 k t) r
      | ex x ss' => rw [hf] at h1; exact fun dx H2 e2 k t _ r => h1 dx H2 e2 (ok1.called e2 k t) r
    · exact h1.elim
end

/-! ### sorted(set(rows)) -/
def bB : Int := 2 ^ 40
def SetS (ls L : List (List Int)) : Prop := L.Pairwise (fun a b => TS.code bB a < TS.code bB b) ∧ ∀ x, x ∈ L ↔ x ∈ ls
theorem asc_uniq {α : Type} (f : α → Int) : ∀ {L M : List α}, L.Pairwise (fun a b => f a < f b) → M.Pairwise (fun a b => f a < f b) → (∀ x, x ∈ L ↔ x ∈ M) → L = M
  | [], [], _, _, _ => rfl
  | [], m :: M, _, _, h => absurd ((h m).mpr List.mem_cons_self) (by simp)
  | l :: L, [], _, _, h => absurd ((h l).mp List.mem_cons_self) (by simp)
  | l :: L, m :: M, hL, hM, h => by
    rw [List.pairwise_cons] at hL hM
    have e : l = m := by
      rcases List.mem_cons.mp ((h l).mp List.mem_cons_self) with z | z
      · exact z
      · rcases List.mem_cons.mp ((h m).mpr List.mem_cons_self) with y | y
        · exact y.symm
        · have := hM.1 l z; have := hL.1 m y; omega
    subst e
    congr 1
    refine asc_uniq f hL.2 hM.2 fun x => ⟨fun hx => ?_, fun hx => ?_⟩
    · rcases List.mem_cons.mp ((h x).mp (List.mem_cons_of_mem _ hx)) with z | z
      · have := hL.1 x hx; subst z; omega
      · exact z
    · rcases List.mem_cons.mp ((h x).mpr (List.mem_cons_of_mem _ hx)) with z | z
      · have := hM.1 x hx; subst z; omega
      · exact z
open Classical in
noncomputable def sortSet (ls : List (List Int)) : List (List Int) := if h : ∃ L, SetS ls L then h.choose else []
theorem sortSet_eq {ls L : List (List Int)} (h : SetS ls L) : sortSet ls = L := by
  have e : ∃ L, SetS ls L := ⟨L, h⟩
  unfold sortSet
  rw [dif_pos e]
  obtain ⟨h1, h2⟩ := e.choose_spec
  exact asc_uniq (TS.code bB) h1 h.1 fun x => (h2 x).trans (h.2 x).symm
def rowD : D → Option (List Int)
  | .tup ds => intsD ds
  | _ => none
def rowsD : List D → Option (List (List Int))
  | [] => some []
  | d :: ds => match rowD d, rowsD ds with
    | some r, some rs => some (r :: rs)
    | _, _ => none
def tI (ns : List Int) : D := .tup (ns.map .int)
theorem rowD_inv {d : D} {r : List Int} (h : rowD d = some r) : d = tI r := by
  cases d <;> simp [rowD] at h
  unfold tI; rw [intsD_inv h]
theorem rowsD_inv : ∀ {ds : List D} {rs : List (List Int)}, rowsD ds = some rs → ds = rs.map tI
  | [], _, h => by cases h; rfl
  | d :: ds, rs, h => by
    simp only [rowsD] at h
    split at h
    · rename_i r rs' h1 h2
      cases h
      rw [rowD_inv h1, rowsD_inv h2]; rfl
    · cases h
theorem rowD_tI (ns : List Int) : rowD (tI ns) = some ns := intsD_map ns
theorem rowsD_map : ∀ rs : List (List Int), rowsD (rs.map tI) = some rs
  | [] => rfl
  | r :: rs => by simp only [List.map_cons, rowsD, rowD_tI, rowsD_map rs]
def SetRow (rs : List (List Int)) : Prop := Few rs ∧ ∀ r ∈ rs, 1 ≤ r.length ∧ r.length = (rs.headD []).length ∧ TS.Bd bB r
open Classical in
noncomputable def dSortSet : List D → Option D
  | [.lst ds] => (rowsD ds).bind fun rs => if SetRow rs then some (.lst ((sortSet rs).map tI)) else none
  | _ => none
theorem dSortSet_inv {ds : List D} {r : D} (h : dSortSet ds = some r) : ∃ rs, ds = [.lst (rs.map tI)] ∧ SetRow rs ∧ r = .lst ((sortSet rs).map tI) := by
  unfold dSortSet at h
  split at h
  · rename_i es
    cases hr : rowsD es with
    | none => rw [hr] at h; cases h
    | some rs =>
      rw [hr] at h
      simp only [Option.bind_some] at h
      split at h
      · rename_i hc; cases h; exact ⟨rs, by rw [rowsD_inv hr], hc, rfl⟩
      · cases h
  · cases h
theorem code_inj {B : Int} : ∀ {a b : List Int}, a.length = b.length → TS.Bd B a → TS.Bd B b → TS.code B a = TS.code B b → a = b
  | [], [], _, _, _, _ => rfl
  | x :: a, y :: b, hl, ha, hb, h => by
    have hl' : a.length = b.length := by simpa using hl
    have hxy : x = y := by
      rcases Int.lt_trichotomy x y with z | z | z
      · have := TS.code_lt hl' ha.tail hb.tail z; omega
      · exact z
      · have := TS.code_lt hl'.symm hb.tail ha.tail z; omega
    subst hxy
    congr 1
    refine code_inj hl' ha.tail hb.tail ?_
    have e : x * B ^ a.length + TS.code B a = x * B ^ b.length + TS.code B b := h
    rw [hl'] at e
    omega
  | [], _ :: _, hl, _, _, _ => by simp at hl
  | _ :: _, [], hl, _, _, _ => by simp at hl
section
variable {X : Cx} {G : GC} {E : XK} {a b c : Expr} {es : List Expr} {pos : Pos}
theorem rpl_rows {K : PySem.W.Frag} {H : Hp} : ∀ {xs : List V} {rs : List (List Int)}, RpL K H xs (rs.map tI) → ∃ ks : List (Addr × List Int), xs = ks.map (fun p => V.ref p.1) ∧ ks.map (·.2) = rs ∧ ∀ p ∈ ks, H p.1 = some (.tup (p.2.map V.int))
  | _, [], h => by cases h; exact ⟨[], rfl, rfl, fun p hp => nomatch hp⟩
  | _, r :: rs, h => by
    cases h with
    | cons h t =>
      obtain ⟨ks, e1, e2, e3⟩ := rpl_rows t
      have h' : Rp K H _ (.tup (r.map .int)) := h
      cases h' with
      | @tup p ys _ g1 g2 =>
        rw [g2.ints] at g1
        exact ⟨(p, r) :: ks, by rw [e1]; rfl, by rw [List.map_cons, e2], fun q hq => by
          rcases List.mem_cons.mp hq with z | z
          · rw [z]; exact g1
          · exact e3 q z⟩
theorem rpl_of_rows {K : PySem.W.Frag} {H : Hp} : ∀ {ks : List (Addr × List Int)}, (∀ p ∈ ks, H p.1 = some (.tup (p.2.map V.int))) → RpL K H (ks.map fun p => V.ref p.1) ((ks.map (·.2)).map tI)
  | [], _ => .nil
  | p :: ks, h => .cons (.tup (h p List.mem_cons_self) (.of_ints _)) (rpl_of_rows fun q hq => h q (List.mem_cons_of_mem _ hq))
/-- sorted(set(e)) -/
theorem xe_sortSet {l : Ev (List D)} {p p2 pos2 : Pos} (hc : X.calm = true) (hu : X.A.units + 64 < cLine) (hg : Gl X "sorted") (hm : X.mg "sorted" = none) (hg2 : Gl X "set") (hm2 : X.mg "set" = none) (ha : PA X [a] (trL X.K G E l))
    (he : starEach [a] X.env = (false, eval a X.env) :: starEach [] X.env := by rfl) (hpl : (backTo pos2 (starEach [] X.env)).any (·.1) = false := by rfl)
    (he2 : starEach [.Call (.Name "set" p2) [a] [] pos2] X.env = (false, eval (.Call (.Name "set" p2) [a] [] pos2) X.env) :: starEach [] X.env := by rfl) (hpl2 : (backTo pos (starEach [] X.env)).any (·.1) = false := by rfl) :
    PE X (.Call (.Name "sorted" p) [.Call (.Name "set" p2) [a] [] pos2] [] pos) (trE X.K G E (eCB dSortSet l)) :=
  PE.imp (pe_callB (CallR.fz (cr_sortedT hc)) hg hm (by decide +kernel) (pa_cons (pe_callTy (cr_setFew hc hu) hg2 hm2 (by decide +kernel) ha (by decide) (by decide) he hpl) pa_nil he2) (by decide) (by decide) he2 hpl2) fun σ H Q h => by
    obtain ⟨ρ, ok, h⟩ := cb_of h
    refine ⟨ρ, ok, h.imp fun xs H1 ⟨ds, d, hd, hg, q⟩ => ?_⟩
    obtain ⟨rs, rfl, hok, rfl⟩ := dSortSet_inv hg
    obtain ⟨hlen, hrow⟩ := hok
    obtain ⟨x, rfl, hx⟩ := one_inv hd
    cases hx with
    | @lst p o ys _ h1 h2 =>
      obtain ⟨ks, rfl, e2, e3⟩ := rpl_rows h2
      have inRs : ∀ q ∈ ks, q.2 ∈ rs := fun q hq => by rw [← e2]; exact List.mem_map_of_mem hq
      refine ⟨p, ks, rfl, .inl (.inr ⟨o, h1⟩), fun q hq => .of (e3 q hq), by rw [e2]; exact hlen, fun b L hb hsub hall => ?_⟩
      have s1 : Same H1 (upd H1 b (SetTO X.prog X.w b L)) := same_upd hb
      refine ⟨b, L, if rs = [] then 1 else (rs.headD []).length, bB, rfl, upd_same, fun q hq => .of (s1 _ _ (e3 q (hsub q hq))), ?_, fun q hq => ?_, fun L' p' perm nd h64 pw hp' => ?_⟩
      · by_cases hr : rs = []
        · rw [if_pos hr]; exact Nat.le_refl 1
        · rw [if_neg hr]
          cases rs with
          | nil => exact absurd rfl hr
          | cons r rs => exact (hrow r List.mem_cons_self).1
      · have hm := inRs q (hsub q hq)
        have hr : rs ≠ [] := fun z => by rw [z] at hm; cases hm
        rw [if_neg hr]
        exact ⟨(hrow _ hm).2.1, (hrow _ hm).2.2⟩
      · have mem : ∀ q ∈ L', q ∈ ks := fun q hq => hsub q (perm.mem_iff.mp hq)
        have S : SetS rs (L'.map (·.2)) := by
          refine ⟨?_, fun x => ⟨fun hx => ?_, fun hx => ?_⟩⟩
          · rw [List.pairwise_map]
            have nd' := List.pairwise_map.mp nd
            refine List.Pairwise.imp_of_mem ?_ (pw.and nd')
            intro q r hq hr ⟨z1, z2⟩
            have a1 := hrow _ (inRs q (mem q hq))
            have a2 := hrow _ (inRs r (mem r hr))
            rcases Int.lt_or_eq_of_le z1 with z | z
            · exact z
            · exact absurd (code_inj (by rw [a1.2.1, a2.2.1]) a1.2.2 a2.2.2 z) z2
          · obtain ⟨q, hq, rfl⟩ := List.mem_map.mp hx
            exact inRs q (mem q hq)
          · rw [← e2] at hx
            obtain ⟨q, hq, rfl⟩ := List.mem_map.mp hx
            obtain ⟨r, hr, e⟩ := List.mem_map.mp (hall q hq)
            exact List.mem_map.mpr ⟨r, perm.mem_iff.mpr hr, e⟩
        rw [sortSet_eq S] at q
        refine new_lst (H := upd H1 b (SetTO X.prog X.w b L)) (rpl_of_rows fun q hq => s1 _ _ (e3 q (mem q hq))) (fun v H' s r => q v H' (fun c o e => s c o (s1 c o e)) r) p' hp'
end
end PU
set_option maxHeartbeats 4000000
namespace PU
open PySem PySem.Spec PyProof.Rows L2
section
variable {X : Cx} {G : GC} {E : XK} {a b c : Expr} {es : List Expr} {pos : Pos} {st : Stmt} {sts : List Stmt}
theorem xe_gstr {x z : Str} (hg : Gl X x) (hm : ∃ t, X.mg x = some (.str z t)) (hd : (x == ("__debug__" : Str)) = false := by decide) : PE X (.Name x pos) (trE X.K G E (eK (.str z))) := by
  obtain ⟨t, hm⟩ := hm
  exact xe_glob (pe_glob (v := .str z) hg hm ⟨t, rfl⟩ hd) fun _ => .str z
theorem xe_gint {x : Str} {i : Int} (hg : Gl X x) (hm : ∃ t, X.mg x = some (.int i t)) (hd : (x == ("__debug__" : Str)) = false := by decide) : PE X (.Name x pos) (trE X.K G E (eK (.int i))) := by
  obtain ⟨t, hm⟩ := hm
  exact xe_glob (pe_glob (v := .int i) hg hm ⟨t, rfl⟩ hd) fun _ => .int i
/-- {} as a value -/
def eD0 : Ev D := fun ρ => .ok (.dct []) ρ
theorem xe_d0 : PE X (.Dict [] [] pos) (trE X.K G E eD0) :=
  PE.imp (PE.fz (pe_dnew (G := G))) fun σ H Q ⟨ρ, ok, h⟩ => ⟨ρ, ok, fun p H' e ok' => by
    refine ⟨fun b u e1 e2 e3 o => ?_, fun z => ?_⟩
    · cases e1
      rw [ok'.prAt] at e2
      cases e2
      obtain ⟨ok2, ex⟩ := ok'.regard (o' := .frz o (.dT [])) rfl (fun ps z => by cases z)
      exact h _ _ (e.trans ex) ok2.unpr (show Rp X.K _ (.ref p) (.dct ((([] : List (List Key)).map tkD).zip [])) from .dt upd_same rfl rfl .nil)
    · have := z p _ rfl ok'.prAt
      simp [isLD] at this⟩
/-- {k: v} of constants, as a value -/
theorem xe_d1 {k v : Expr} {i : Int} {d : V} {dd : D} (hk : PE X k (tC (.int i))) (hv : PE X v (tC d)) (hd : ∀ H, Rp X.K H d dd) : PE X (.Dict [some k] [v] pos) (trE X.K G E (eK (.dct [(.int i, dd)]))) :=
  PE.imp (PE.fz (pe_disp (pps_cons hk hv pps_nil) rfl rfl (fun z => nomatch z) (by show 1 ≤ 15; decide))) fun σ H Q ⟨ρ, ok, h⟩ p hp => by
    refine ⟨upd_same, [(.inl i, d)], rfl, by show 1 ≤ 15; decide, ?_⟩
    have okp := ok.guard (o := .dK []) hp
    have ex1 : Ext H (upd H p (.dK [])) := .of (same_upd hp)
    obtain ⟨ok1, e1⟩ := okp.regard (o' := .dK (mergeK [] [(.inl i, d)])) rfl (fun ps z => by cases z)
    refine ⟨fun b u e1' e2 e3 o => ?_, fun z => ?_⟩
    · cases e1'
      rw [upd_same] at e2
      cases e2
      obtain ⟨ok2, ex⟩ := ok1.regard (o' := .frz o (.dK (mergeK [] [(.inl i, d)]))) rfl (fun ps z => by cases z)
      refine h _ _ ((ex1.trans e1).trans ex) ok2.unpr (show Rp X.K _ (.ref p) (.dct ((([.inl i] : List Key).map keyD).zip [dd])) from .dk (kvs := [(.inl i, d)]) (xs := [d]) (by rw [upd_same]; rfl) rfl rfl (.cons (hd _) .nil))
    · have := z p _ rfl upd_same
      simp [isLD] at this
end
section
variable {P : Program} {w : World} {K : PySem.W.Frag} {mg : Str → Option Value} {base : Heap}
abbrev FnP (K : PySem.W.Frag) (x : Str) (st : Stmt) (f : Addr) (fd : FuncData) : Prop := FunD K x x (defArgs st) (defBody st) (defScope st) [] [] f fd
/-- a def that raises nothing -/
theorem defP {x : Str} {st : Stmt} {f : Addr} {fd : FuncData} {N ps : List Str} {k n : Nat} {T : List (Addr × Str)} {ow : List Nat} {B : Sv} (F : FnP K x st f fd) (S : FnScope N ps (defScope st)) (hn : ps.length = n) (hN : n ≤ N.length)
    (hB : ∀ (cdv : Value) (A : Around) (outer : List Env) (s : Shared) (H : Hp) (E : XK) (G : GC), Room k (A.deeper (envOfC x (defScope st) s.heap.objs.size f cdv)) → G.ow = ow → G.T = T →
      PSs (cxOf CX0 P w K mg base N x (defScope st) f cdv A outer s H E).nox (defBody st) (trS K G EF B)) :
    FnOk P w K mg base CX0 (k + 1) f fd ps (spF K T n ow (fun ss => noEx (runDef N.length B ss))) := by
  refine F.ok S (fun vs H Q E h => by rw [hn]; exact len_spF h) fun cdv A outer s H vs Q E hr h => ?_
  obtain ⟨ss, fp, a, t, h⟩ := h
  refine ⟨_, PSs.nox (hB cdv A outer s H E (gcOf T H ow vs fp) hr rfl rfl), run_end a t hN ?_⟩
  cases hR : runDef N.length B ss with
  | bad => simp only [hR, noEx] at h
  | ok d ss' => simp only [hR, noEx] at h; exact h
  | ex x ss' => simp only [hR, noEx] at h
/-- a def that may raise -/
theorem defPX {x : Str} {st : Stmt} {f : Addr} {fd : FuncData} {N ps : List Str} {k n : Nat} {T : List (Addr × Str)} {ow : List Nat} {B : Sv} (F : FnP K x st f fd) (S : FnScope N ps (defScope st)) (hn : ps.length = n) (hN : n ≤ N.length)
    (hB : ∀ (cdv : Value) (A : Around) (outer : List Env) (s : Shared) (H : Hp) (E : XK) (G : GC), Room k (A.deeper (envOfC x (defScope st) s.heap.objs.size f cdv)) → G.ow = ow → G.T = T →
      Takes (cxOf (L2.CX P w) P w K mg base N x (defScope st) f cdv A outer s H E) (fun cls d _ H => E cls d H) →
      PSs (cxOf (L2.CX P w) P w K mg base N x (defScope st) f cdv A outer s H E) (defBody st) (trS K G E B)) :
    FnOk P w K mg base (L2.CX P w) (k + 1) f fd ps (spF K T n ow (runDef N.length B)) := by
  refine F.ok S (fun vs H Q E h => by rw [hn]; exact len_spF h) fun cdv A outer s H vs Q E hr h => ?_
  obtain ⟨ss, fp, a, t, h⟩ := h
  exact ⟨_, hB cdv A outer s H E (gcOf T H ow vs fp) hr rfl rfl (takes_of rfl rfl rfl rfl), run_end a t hN h⟩
theorem defBegun {x : Str} {st : Stmt} {f : Addr} {fd : FuncData} {N ps : List Str} {k n : Nat} {T : List (Addr × Str)} {A1 : Sv} {i : Nat} {fc : Ev D} (F : FnP K x st f fd) (S : FnScope N ps (defScope st)) (hn : ps.length = n) (hN : n ≤ N.length)
    (hB : ∀ (cdv : Value) (A : Around) (outer : List Env) (s : Shared) (H : Hp) (E : XK) (G : GC), Room k (A.deeper (envOfC x (defScope st) s.heap.objs.size f cdv)) → G.ow = [] → G.T = T →
      PSs (cxOf CX0 P w K mg base N x (defScope st) f cdv A outer s H E).nox (defBody st) (fun D' => trS K G EF A1 { D' with nx := tRetDr K G i fc D' })) :
    FnOk P w K mg base CX0 (k + 1) f fd ps (spDr K T n (begunF N.length A1 i fc)) := by
  refine F.ok S (fun vs H Q E ⟨ds, r, hl, _⟩ => by rw [hn, r.length, hl]) fun cdv A outer s H vs Q E hr h => ?_
  obtain ⟨ds, r, hl, t, dr, hf, q⟩ := h
  have a := argOk_stL r hl
  refine ⟨_, PSs.nox (hB cdv A outer s H E (gcOf T H [] vs fun _ => []) hr rfl rfl), _, start_ok a t hN, ?_⟩
  unfold begunF at hf
  have hlen : (stL ds).length = ds.length := by simp [stL]
  rw [hlen]
  split at hf
  · rename_i ρ hA
    rw [hA]
    refine fun σ' H' e ok => ⟨ρ, ok, dr, hf, fun p g H2 e2 k2 t2 f1 f2 ne o2 => ?_⟩
    have f2' : FrT H g := by
      rcases f2 with z | z
      · exact z
      · exact nomatch (show g ∈ ([] : List Addr) from z)
    exact q p g H2 (e.trans e2) k2 t2 f1 f2' ne o2
  · cases hf
end
end PU
set_option maxHeartbeats 4000000
namespace PU
open PySem PySem.Spec PyProof.Rows L2
/-- a def of the top that keeps a promise, called by name -/
structure Fnc (P : Program) (w : World) (K : PySem.W.Frag) (mg : Str → Option Value) (base : Heap) (CX : CXT) (x : Str) (k : Nat) (ps : List Str) (sp : Sp) : Prop where
  ex : ∃ f fd, FnOk P w K mg base CX k f fd ps sp ∧ mg x = some (.ref f) ∧ PySem.W.keepIn K (.ref f) = true ∧ Binds K fd ps []
/-- .. by keywords ks, whose values stand at the places is -/
structure FncK (P : Program) (w : World) (K : PySem.W.Frag) (mg : Str → Option Value) (base : Heap) (CX : CXT) (x : Str) (k : Nat) (ps ks : List Str) (is : List Nat) (n : Nat) (sp : Sp) : Prop where
  ex : ∃ f fd, FnOk P w K mg base CX k f fd ps sp ∧ mg x = some (.ref f) ∧ PySem.W.keepIn K (.ref f) = true ∧ ∀ (s : Shared) (ws : List Value), PySem.W.Frag.In K s.heap → ws.length = n → BindsTo s fd ⟨[], ks.zip ws⟩ (ps.zip (pick is n ws))
section
variable {X : Cx} {G : GC} {E : XK} {a b c : Expr} {es : List Expr} {pos : Pos} {st : Stmt} {sts : List Stmt}
variable {CX : CXT} {k n : Nat} {ps : List Str} {x : Str} {p : Pos} {fn : Fn} {L : Ev (List D)}
theorem xe_callF (C : Fnc X.prog X.w X.K X.mg X.base CX x k ps (spF X.K G.T n [] fn)) (hr : Room k X.A) (hg : Gl X x) (hx : Passes CX X E) (ha : PA X (a :: es) (trL X.K G E L)) (hL : ∀ ρ ds ρ1, L ρ = .ok ds ρ1 → ds.length = n)
    (hdb : (x == ("__debug__" : Str)) = false := by decide) (he : starEach (a :: es) X.env = (false, eval a X.env) :: starEach es X.env := by rfl) (hpl : (backTo pos (starEach es X.env)).any (·.1) = false := by rfl) :
    PE X (.Call (.Name x p) (a :: es) [] pos) (trE X.K G E (eCall fn L)) := by
  obtain ⟨f, fd, F, m, kp, b⟩ := C.ex
  exact xe_call F hr hg m kp b hx ha hL hdb he hpl
theorem xe_callF1 {i : Nat} {y : Str} {py : Pos} (C : Fnc X.prog X.w X.K X.mg X.base CX x k ps (spF X.K G.T (n + 1) [0] fn)) (hr : Room k X.A) (hg : Gl X x) (hx : Passes CX X E) (hv : PE X (.Name y py) (tVar i)) (ha : PA X es (trL X.K G E L)) (hL : ∀ ρ ds ρ1, L ρ = .ok ds ρ1 → ds.length = n)
    (hdb : (x == ("__debug__" : Str)) = false := by decide) (he : starEach (.Name y py :: es) X.env = (false, eval (.Name y py) X.env) :: starEach es X.env := by rfl) (hpl : (backTo pos (starEach es X.env)).any (·.1) = false := by rfl) :
    PE X (.Call (.Name x p) (.Name y py :: es) [] pos) (trE X.K G E (eCall1 i fn L)) := by
  obtain ⟨f, fd, F, m, kp, b⟩ := C.ex
  exact xe_call1 F hr hg m kp b hx hv ha hL hdb he hpl
theorem xe_callFk {ks : List Str} {kws : List Keyword} {is : List Nat} (C : FncK X.prog X.w X.K X.mg X.base CX x k ps ks is n (spF X.K G.T n [] fn)) (hr : Room k X.A) (hg : Gl X x) (hps : ps.length = n) (hx : Passes CX X E)
    (hkw : PK X kws (trL X.K G E L)) (hall : (backToKw pos (keywordEach kws X.env)).all (·.1.isSome) = true := by rfl) (hks : (backToKw pos (keywordEach kws X.env)).filterMap (·.1) = ks := by rfl) (hn0 : 0 < n := by decide)
    (hdb : (x == ("__debug__" : Str)) = false := by decide) (hpl : ((backTo pos (starEach [] X.env)).any (·.1) || (backToKw pos (keywordEach kws X.env)).any (·.1.isNone)) = false := by rfl) :
    PE X (.Call (.Name x p) [] kws pos) (trE X.K G E (eCallKw is n fn L)) := by
  obtain ⟨f, fd, F, m, kp, b⟩ := C.ex
  exact xe_callKw F hr hg m kp b hps hx hkw hall hks hn0 hdb hpl
theorem xs_setDrF {spos : Pos} {i : Nat} {y : Str} {py : Pos} {fd : List D → Option DrS} (C : Fnc X.prog X.w X.K X.mg X.base CX x k ps (spDr X.K G.T n fd)) (hr : Room k X.A) (hg : Gl X x) (hx : Passes CX X E)
    (ha : PA X (a :: es) (trL X.K G E L)) (hL : ∀ ρ ds ρ1, L ρ = .ok ds ρ1 → ds.length = n) (hN : X.N.Nodup) (hi : X.N[i]? = some y) (hy : Loc X.env.scope y) (ho : i ∉ G.ow) (hdb : (x == ("__debug__" : Str)) = false := by decide) (he : starEach (a :: es) X.env = (false, eval a X.env) :: starEach es X.env := by rfl) (hpl : (backTo pos (starEach es X.env)).any (·.1) = false := by rfl)
    (hs : swapsWith (.Call (.Name x p) (a :: es) [] pos) (some (.Name y py)) spos.line X.env = pure false := by rfl) (hf : X.fn y = true ∨ X.env.scope.names.lookup y = some .local := by first | exact .inl rfl | exact .inr rfl | assumption) :
    PS X (.Assign [.Name y py] (.Call (.Name x p) (a :: es) [] pos) spos) (trS X.K G E (sSetDr i L fd)) := by
  obtain ⟨f, fd', F, m, kp, b⟩ := C.ex
  exact xs_setDr F hr hg m kp b hx ha hL hN hi hy ho hdb he hpl hs hf
theorem passX {E : XK} {X : Cx} (tk : Takes X (fun cls d _ H => E cls d H)) : Passes (L2.CX X.prog X.w) X E := passes_call tk fun _ _ _ _ h => h
theorem passEF {X : Cx} : Passes (L2.CX X.prog X.w) X EF := passes_call LamX.takes0 fun _ _ _ _ h => h
end
end PU
set_option maxHeartbeats 4000000
namespace PU
open PySem PySem.Spec PyProof.Rows L2
section
variable {X : Cx} {G : GC} {E : XK} {a b c : Expr} {es : List Expr} {pos : Pos} {st : Stmt} {sts : List Stmt}
theorem begun_seq {st st2 : Stmt} {A1 : Sv} {i : Nat} {f : Ev D} (h1 : PS X st (trS X.K G EF A1)) (h2 : PS X st2 (tRetDr X.K G i f)) : PSs X [st, st2] (fun D' => trS X.K G EF A1 { D' with nx := tRetDr X.K G i f D' }) := pss_cons h1 (pss_one h2)
/-- a if c else b as a test -/
def tIfF (t u v : Ev Bool) : Ev Bool := fun ρ => (t ρ).bind fun b ρ1 => if b = true then u ρ1 else v ρ1
theorem xt_if {t u v : Ev Bool} (hc : PT X c (trT X.K G E t)) (ha : PT X a (trT X.K G E u)) (hb : PT X b (trT X.K G E v)) : PT X (.IfExp c a b pos) (trT X.K G E (tIfF t u v)) := by
  refine ⟨fun pins s σ H Q I ⟨ρ, ok, h⟩ => ?_⟩
  refine isTrue_IfExp (thn (hc.run pins s σ H (fun k H1 => ∃ ρ1, StOk X.K G σ H1 ρ1 ∧ atT X.K G E (if k = true then u ρ1 else v ρ1) σ H1 Q) I ⟨ρ, ok, h.bindT.imp fun k H1 ⟨ρ1, _, ok1, h1⟩ => ⟨ρ1, ok1, h1⟩⟩) fun k s1 ⟨H1, I1, ρ1, ok1, h1⟩ => ?_)
  cases k with
  | true => exact ha.run pins s1 σ H1 Q I1 ⟨ρ1, ok1, h1⟩
  | false => exact hb.run pins s1 σ H1 Q I1 ⟨ρ1, ok1, h1⟩
end
end PU
set_option maxHeartbeats 4000000
namespace PU
open PySem PySem.Spec PyProof.Rows L2
section
variable {P : Program} {w : World} {K : PySem.W.Frag} {mg : Str → Option Value} {base : Heap}
/-- a def that holds lambdas: its code object is told -/
theorem defPC {x : Str} {st : Stmt} {f : Addr} {fd : FuncData} {N ps : List Str} {k n : Nat} {T : List (Addr × Str)} {ow : List Nat} {B : Sv} {cc : Addr} (F : FnP K x st f fd) (hcc : fd.code = .ref cc) (S : FnScope N ps (defScope st)) (hn : ps.length = n) (hN : n ≤ N.length)
    (hB : ∀ (A : Around) (outer : List Env) (s : Shared) (H : Hp) (E : XK) (G : GC), Room k (A.deeper (envOfC x (defScope st) s.heap.objs.size f (.ref cc))) → G.ow = ow → G.T = T →
      PSs (cxOf CX0 P w K mg base N x (defScope st) f (.ref cc) A outer s H E).nox (defBody st) (trS K G EF B)) :
    FnOk P w K mg base CX0 (k + 1) f fd ps (spF K T n ow (fun ss => noEx (runDef N.length B ss))) := by
  obtain ⟨oc, od, dV, kV, doc, pm, an, cdv, ct, osl, rfl, lk, hcd, _, _⟩ := F.ex
  obtain rfl : cdv = .ref cc := hcc
  refine fn_of lk hcd S (fun vs H Q E h => by rw [hn]; exact len_spF h) fun A outer s H vs Q E hr h => ?_
  obtain ⟨ss, fp, a, t, h⟩ := h
  refine ⟨_, PSs.nox (hB A outer s H E (gcOf T H ow vs fp) hr rfl rfl), run_end a t hN ?_⟩
  cases hR : runDef N.length B ss with
  | bad => simp only [hR, noEx] at h
  | ok d ss' => simp only [hR, noEx] at h; exact h
  | ex x ss' => simp only [hR, noEx] at h
end
section
variable {X : Cx} {G : GC} {E : XK} {a b c : Expr} {es : List Expr} {pos : Pos}
/-- the facts of the def that keeps a lambda's error -/
structure LamF (K : PySem.W.Frag) (mg : Str → Option Value) (x : Str) (st : Stmt) (CS : Addr) (cs : List Addr) : Prop where
  ex : ∃ g fd, FnP K x st g fd ∧ mg x = some (.ref g) ∧ L2.Binds K fd ["action"] []
  slip : mg "SlipError" = some (.ref CS)
  exm : ∀ C ∈ cs, PySem.W.exmOne K (.ref C) (.ref CS) = some true
/-- what is told of the def that makes the lambda -/
structure TabF (X : Cx) (G : GC) : Prop where
  ex : ∃ c P, LamX.TabB X.base X.mg c P ∧ X.env.code = .ref c ∧ (P, X.env.qual ++ "<lambda>") ∈ G.T ∧ ∀ p ∈ G.T, p.1 = P → p.2 = X.env.qual ++ "<lambda>"
theorem tabF_of {c P : Addr} {q : Str} (h1 : LamX.TabB X.base X.mg c P) (h2 : X.env.code = .ref c) (hq : X.env.qual = q) (h3 : (P, q ++ "<lambda>") ∈ G.T) (h4 : ∀ p ∈ G.T, p.1 = P → p.2 = q ++ "<lambda>") : TabF X G := by
  subst hq; exact ⟨c, P, h1, h2, h3, h4⟩
theorem xe_lamF {cs : List Addr} {CS : Addr} {x : Str} {st : Stmt} {k : Nat} {jn} {p1 p2 p3 p4 p5 p6 p7 p8 p9 p10 p11 p12 p13 p14 : Pos} {params : Arguments} {body : Expr} {scope : Scope} {f : Ev D} {p lpos : Pos} (F : LamF X.K X.mg x st CS cs) (TF : TabF X G) (hg : Gl X x)
    (hst : defBody st = [.Assign [.Name "found" p12] (.Constant .none jn p11) p13, .Try [.Expr (.Call (.Name "action" p1) [] [] p2) p6] [.ExceptHandler (some (.Name "SlipError" p7)) (some "error") [.Assign [.Name "found" p3] (.Name "error" p4) p5] p8] [] [] p9, .Return (some (.Name "found" p10)) p14])
    (Sg : FnScope ["action", "found", "error"] ["action"] (defScope st)) (hva : Vis (defScope st) "action") (hge : (defScope st).names.lookup ("SlipError" : Str) = some .globalImplicit) (hn : (defScope st).names.lookup ("error" : Str) = some .local) (hy : (defScope st).names.lookup ("found" : Str) = some .local)
    (hsw : ∀ env, swapsWith (.Name "error" p4) (some (.Name "found" p3)) p5.line env = pure false) (hsw2 : ∀ env, swapsWith (.Constant .none jn p11) (some (.Name "found" p12)) p13.line env = pure false) (hsw3 : ∀ env, swapsWith (.Call (.Name "action" p1) [] [] p2) none p6.line env = pure false)
    (hr : Room (k + 2) X.A) (L : LamX.LamS X.env.scope scope) (hdef : defaultsOf params X.env = ([], []))
    (hbind : ∀ (q : Str) (cl : List (Str × Addr)) (pm cv ctv : Value), bindArgs (PySem.W.kla_fn "<lambda>" q params body scope cl pm cv ctv) ⟨[], []⟩ = pure [])
    (hbody : ∀ (A : Around) (outer : List Env) (s : Shared) (H : Hp) (E' : XK) (f' c' : Addr), Room k (A.deeper (LamX.lamEnv X scope s.heap.objs.size f' c')) → PE (LamX.lamCx X A outer s H E' scope f' c') body (trE X.K G E' f))
    (hdb : (x == ("__debug__" : Str)) = false := by decide) :
    PE X (.Call (.Name x p) [.Lambda params body scope lpos] [] pos) (trE X.K G E (eCaught cs f)) := by
  obtain ⟨g, fd, FF, m, b⟩ := F.ex
  obtain ⟨c, P, TB, hcode, hm, hu⟩ := TF.ex
  have kp := FF.kp
  obtain ⟨oc, od, dV, kV, doc, pm, an, cdv, ct, osl, rfl, lk, hcd, _, _⟩ := FF.ex
  rw [hst] at lk b
  exact xe_lam hg m kp lk hcd b Sg hva hge F.slip (by decide) hn hy (by decide) (by decide) (by decide) (by decide) hsw hsw2 hsw3 F.exm TB hcode hm hu hr L hdef hbind hbody hdb
end
end PU
set_option maxHeartbeats 1000000
namespace PU
open PySem PySem.Spec PyProof.Rows L2
/-- the value alone -/
def Vl (r : Res D) (d : D) : Prop := ∃ ρ, r = .ok d ρ
theorem eCall_ok {f : Fn} {L : Ev (List D)} {ρ ρ1 : Ρ} {ds : List D} {d : D} (hL : L ρ = .ok ds ρ1) (h : Vl (f (stL ds)) d) : eCall f L ρ = .ok d ρ1 := by
  obtain ⟨ρ', e⟩ := h
  simp only [eCall, hL, Res.bind, e]
theorem restore_wipe (ρ : Ρ) : ∀ vs : List Nat, restore ρ vs (wipeP ρ vs) = ρ := by
  have key : ∀ (ws vs : List Nat) (τ : Ρ), τ.length = ρ.length → (∀ j, j < ρ.length → j ∉ ws → svAt τ j = svAt ρ j) → (∀ v ∈ ws, v ∈ vs) → restore ρ ws τ = ρ := by
    intro ws
    induction ws with
    | nil =>
      intro vs τ hl h _
      refine List.ext_getElem hl fun j h1 h2 => ?_
      have := h j h2 (by simp)
      have h3 : j < τ.length := h1
      show τ[j] = ρ[j]
      simpa [svAt, List.getD_eq_getElem?_getD, h3, h2] using this
    | cons v ws ih =>
      intro vs τ hl h hm
      show (restore ρ ws τ).set v (svAt ρ v) = ρ
      have hlen : (restore ρ ws τ).length = ρ.length := by
        have : ∀ ws : List Nat, (restore ρ ws τ).length = τ.length := fun ws => by
          induction ws with
          | nil => rfl
          | cons v ws ih => simp only [restore, List.length_set, ih]
        rw [this, hl]
      refine List.ext_getElem (by simp [hlen]) fun j h1 h2 => ?_
      rw [List.getElem_set]
      by_cases e : v = j
      · subst e
        simp [svAt, List.getD_eq_getElem?_getD, h2]
      · rw [if_neg e]
        have at_ : ∀ (ws : List Nat), svAt (restore ρ ws τ) j = if j ∈ ws then svAt ρ j else svAt τ j := by
          intro ws
          induction ws with
          | nil => simp [restore]
          | cons u ws ih2 =>
            show svAt ((restore ρ ws τ).set u (svAt ρ u)) j = _
            rw [svAt_set]
            have hl2 : (restore ρ ws τ).length = ρ.length := by
              have : ∀ ws : List Nat, (restore ρ ws τ).length = τ.length := fun ws => by
                induction ws with
                | nil => rfl
                | cons v ws ih => simp only [restore, List.length_set, ih]
              rw [this, hl]
            by_cases eu : u = j
            · subst eu
              simp [hl2, h2]
            · rw [if_neg fun z => eu z.1, ih2]
              simp [Ne.symm eu]
        have q := at_ ws
        have r : svAt (restore ρ ws τ) j = svAt ρ j := by
          rw [q]
          split
          · rfl
          · rename_i hj
            exact h j h2 (by simp [hj, Ne.symm e])
        have h3 : j < (restore ρ ws τ).length := by rw [hlen]; exact h2
        simpa [svAt, List.getD_eq_getElem?_getD, h3, h2] using r
  intro vs
  have wl : ∀ vs : List Nat, (wipeP ρ vs).length = ρ.length := fun vs => by
    induction vs with
    | nil => rfl
    | cons v vs ih => simp only [wipeP, List.length_set, ih]
  refine key vs vs _ (wl vs) (fun j hj hn => ?_) fun _ h => h
  have : ∀ vs : List Nat, j ∉ vs → svAt (wipeP ρ vs) j = svAt ρ j := by
    intro vs
    induction vs with
    | nil => intro _; rfl
    | cons v vs ih =>
      intro h
      rw [List.mem_cons, not_or] at h
      show svAt ((wipeP ρ vs).set v .un) j = _
      rw [svAt_set, if_neg fun z => h.1 z.1.symm]
      exact ih h.2
  exact this vs hn
/-- a comprehension whose parts change nothing -/
theorem lcL_pure {f : D → Ρ → Res (Option D)} {ρ : Ρ} {g : D → Option D} : ∀ (ds : List D) (acc : List D), (∀ d ∈ ds, f d ρ = .ok (g d) ρ) → acc.length + ds.length ≤ sizeLine → lcL f ds ρ acc = .ok (acc ++ ds.filterMap g) ρ
  | [], acc, _, _ => by simp [lcL]
  | d :: ds, acc, h, hz => by
    rw [List.length_cons] at hz
    simp only [lcL, h d List.mem_cons_self, Res.bind]
    cases hg : g d with
    | none =>
      simp only [List.filterMap_cons, hg]
      exact lcL_pure ds acc (fun e he => h e (List.mem_cons_of_mem _ he)) (by omega)
    | some e =>
      simp only [List.filterMap_cons, hg]
      rw [if_pos (by omega), lcL_pure ds (acc ++ [e]) (fun e he => h e (List.mem_cons_of_mem _ he)) (by rw [List.length_append, List.length_singleton]; omega)]
      simp
theorem nLc_pure {I : Ev (List D)} {T : D → Ρ → Option Ρ} {tt : Ev Bool} {te : Ev D} {vs : List Nat} {ρ ρ1 : Ρ} {ds : List D} {g : D → Option D} (hI : I ρ = .ok ds ρ1) (hf : stFree ρ1 vs = true) (hs : ∀ d ∈ ds, lcStep T tt te vs d (wipeP ρ1 vs) = .ok (g d) (wipeP ρ1 vs)) (hz : ds.length ≤ sizeLine) :
    nLc I T tt te vs ρ = .ok (ds.filterMap g) ρ1 := by
  simp only [nLc, hI, Res.bind, if_pos hf]
  rw [lcL_pure ds [] hs (by simpa using hz)]
  simp only [List.nil_append, restore_wipe]
/-- the same over a list that is made of another's items -/
theorem nLc_fm {α : Type} {I : Ev (List D)} {T : D → Ρ → Option Ρ} {tt : Ev Bool} {te : Ev D} {vs : List Nat} {ρ ρ1 : Ρ} (xs : List α) (f : α → D) (g : α → Option D) (hI : I ρ = .ok (xs.map f) ρ1) (hf : stFree ρ1 vs = true)
    (hs : ∀ x ∈ xs, lcStep T tt te vs (f x) (wipeP ρ1 vs) = .ok (g x) (wipeP ρ1 vs)) (hz : xs.length ≤ sizeLine) : nLc I T tt te vs ρ = .ok (xs.filterMap g) ρ1 := by
  simp only [nLc, hI, Res.bind, if_pos hf]
  have key : ∀ (xs : List α) (acc : List D), (∀ x ∈ xs, lcStep T tt te vs (f x) (wipeP ρ1 vs) = .ok (g x) (wipeP ρ1 vs)) → acc.length + xs.length ≤ sizeLine → lcL (lcStep T tt te vs) (xs.map f) (wipeP ρ1 vs) acc = .ok (acc ++ xs.filterMap g) (wipeP ρ1 vs) := by
    intro xs
    induction xs with
    | nil => intro acc _ _; simp [lcL]
    | cons x xs ih =>
      intro acc h hz
      rw [List.length_cons] at hz
      simp only [List.map_cons, lcL, h x List.mem_cons_self, Res.bind]
      cases hg : g x with
      | none =>
        simp only [List.filterMap_cons, hg]
        exact ih acc (fun e he => h e (List.mem_cons_of_mem _ he)) (by omega)
      | some e =>
        simp only [List.filterMap_cons, hg]
        rw [if_pos (by omega), ih (acc ++ [e]) (fun e he => h e (List.mem_cons_of_mem _ he)) (by rw [List.length_append, List.length_singleton]; omega)]
        simp
  rw [key xs [] hs (by simpa using hz)]
  simp only [List.nil_append, restore_wipe]
theorem nLc_map {α : Type} {I : Ev (List D)} {T : D → Ρ → Option Ρ} {tt : Ev Bool} {te : Ev D} {vs : List Nat} {ρ ρ1 : Ρ} (xs : List α) (f : α → D) (g : α → D) (hI : I ρ = .ok (xs.map f) ρ1) (hf : stFree ρ1 vs = true)
    (hs : ∀ x ∈ xs, lcStep T tt te vs (f x) (wipeP ρ1 vs) = .ok (some (g x)) (wipeP ρ1 vs)) (hz : xs.length ≤ sizeLine) : nLc I T tt te vs ρ = .ok (xs.map g) ρ1 := by
  rw [nLc_fm xs f (fun x => some (g x)) hI hf hs hz]
  congr 1
  induction xs with
  | nil => rfl
  | cons x xs ih => simp
theorem dAll_bls {α : Type} (xs : List α) (p : α → Bool) : dAll [.lst (xs.map fun x => .bl (p x))] = some (.bl (xs.all p)) := by
  have e : (xs.map fun x => D.bl (p x)) = (xs.map p).map .bl := by simp
  rw [e]
  simp only [dAll, blsD_map, Option.map_some]
  congr 2
  induction xs with
  | nil => rfl
  | cons x xs ih => simp
/-- a for loop that keeps an invariant and neither returns nor breaks -/
theorem forL_inv {α : Type} {T : D → Ρ → Option Ρ} {B : Sv} (f : α → D) (P : List α → Ρ → Prop) : ∀ (xs done : List α) (ρ : Ρ), P done ρ → (∀ (done : List α) (x : α) (ρ : Ρ), P done ρ → x ∈ xs → ∃ ρ1 ρ2, T (f x) ρ = some ρ1 ∧ (B ρ1 = .nx ρ2 ∨ B ρ1 = .ct ρ2) ∧ P (done ++ [x]) ρ2) → ∃ ρ', forL T B (xs.map f) ρ = .nx ρ' ∧ P (done ++ xs) ρ'
  | [], done, ρ, h, _ => ⟨ρ, rfl, by simpa using h⟩
  | x :: xs, done, ρ, h, hs => by
    obtain ⟨ρ1, ρ2, e1, e2, h2⟩ := hs done x ρ h List.mem_cons_self
    obtain ⟨ρ', e3, h3⟩ := forL_inv f P xs (done ++ [x]) ρ2 h2 fun d y r hp hy => hs d y r hp (List.mem_cons_of_mem _ hy)
    refine ⟨ρ', ?_, by simpa using h3⟩
    rw [List.map_cons]
    simp only [forL, e1]
    rcases e2 with e2 | e2 <;> rw [e2] <;> exact e3
end PU
set_option maxHeartbeats 1000000
namespace PU
open PySem PySem.Spec PyProof.Rows L2

/-! ### one step of meaning, by a lemma each -/
section
variable {f f1 f2 f3 : Ev D} {t u : Ev Bool} {l : Ev (List D)} {ρ ρ1 ρ2 ρ3 : Ρ} {d x y z : D} {ds : List D} {b : Bool} {A B : Sv}
theorem eV_ok {i : Nat} (h : svAt ρ i = .st d) : eV i ρ = .ok d ρ := by unfold eV; rw [h]
theorem eK_ok : eK d ρ = .ok d ρ := rfl
theorem eBin_ok {g : D → D → Option D} (h1 : f1 ρ = .ok x ρ1) (h2 : f2 ρ1 = .ok y ρ2) (h3 : g x y = some z) : eBin g f1 f2 ρ = .ok z ρ2 := by
  unfold eBin; rw [h1]; show (f2 ρ1).bind _ = _; rw [h2]; show lift (g x y) ρ2 = _; rw [h3]; rfl
theorem eUn_ok {g : D → Option D} (h1 : f ρ = .ok x ρ1) (h3 : g x = some z) : eUn g f ρ = .ok z ρ1 := by
  unfold eUn; rw [h1]; show lift (g x) ρ1 = _; rw [h3]; rfl
theorem eCB_ok {g : List D → Option D} (h1 : l ρ = .ok ds ρ1) (h3 : g ds = some z) : eCB g l ρ = .ok z ρ1 := by
  unfold eCB; rw [h1]; show lift (g ds) ρ1 = _; rw [h3]; rfl
theorem iCall_ok {g : List D → Option (List D)} {es : List D} (h1 : l ρ = .ok ds ρ1) (h3 : g ds = some es) : iCall g l ρ = .ok es ρ1 := by
  unfold iCall; rw [h1]; show lift (g ds) ρ1 = _; rw [h3]; rfl
theorem lCons_ok (h1 : f ρ = .ok x ρ1) (h2 : l ρ1 = .ok ds ρ2) : lCons f l ρ = .ok (x :: ds) ρ2 := by
  unfold lCons; rw [h1]; show (l ρ1).bind _ = _; rw [h2]; rfl
theorem lNil_ok : lNil ρ = .ok [] ρ := rfl
theorem l1_ok (h1 : f ρ = .ok x ρ1) : lCons f lNil ρ = .ok [x] ρ1 := lCons_ok h1 lNil_ok
theorem l2_ok (h1 : f1 ρ = .ok x ρ1) (h2 : f2 ρ1 = .ok y ρ2) : lCons f1 (lCons f2 lNil) ρ = .ok [x, y] ρ2 := lCons_ok h1 (l1_ok h2)
theorem szOk {n : Nat} (h : n ≤ 1000) : n ≤ sizeLine := by
  have : (1000 : Nat) ≤ sizeLine := by decide
  omega
theorem eTup_ok (h1 : l ρ = .ok ds ρ1) (h : ds.length ≤ 1000) : eTup l ρ = .ok (.tup ds) ρ1 := by
  have z := szOk h
  unfold eTup; rw [h1]; show (if ds.length ≤ sizeLine then _ else _) = _; rw [if_pos z]
theorem eLst_ok (h1 : l ρ = .ok ds ρ1) (h : ds.length ≤ 1000) : eLst l ρ = .ok (.lst ds) ρ1 := by
  have z := szOk h
  unfold eLst; rw [h1]; show (if ds.length ≤ sizeLine then _ else _) = _; rw [if_pos z]
theorem eFz_ok (h1 : l ρ = .ok ds ρ1) : eFz l ρ = .ok (.lst ds) ρ1 := by
  unfold eFz; rw [h1]; rfl
theorem poN_ok : poN ρ = .ok none ρ := rfl
theorem poS_ok {i : Int} (h : f ρ = .ok (.int i) ρ1) : poS f ρ = .ok (some i) ρ1 := by
  unfold poS; rw [h]; rfl
theorem eSl_ok {lo hi : Ev (Option Int)} {a c : Option Int} (h1 : f ρ = .ok x ρ1) (h2 : lo ρ1 = .ok a ρ2) (h3 : hi ρ2 = .ok c ρ3) (h4 : dSl x a c = some z) : eSl f lo hi ρ = .ok z ρ3 := by
  unfold eSl; rw [h1]; show (lo ρ1).bind _ = _; rw [h2]; show (hi ρ2).bind _ = _; rw [h3]; show lift (dSl x a c) ρ3 = _; rw [h4]; rfl
theorem tV_ok (h : f ρ = .ok (.bl b) ρ1) : tV f ρ = .ok b ρ1 := by
  unfold tV; rw [h]; rfl
theorem tNot_ok (h : t ρ = .ok b ρ1) : tNotF t ρ = .ok (!b) ρ1 := by
  unfold tNotF; rw [h]; rfl
theorem tAnd_t (h : t ρ = .ok true ρ1) : tAndF t u ρ = u ρ1 := by
  unfold tAndF; rw [h]; rfl
theorem tAnd_f (h : t ρ = .ok false ρ1) : tAndF t u ρ = .ok false ρ1 := by
  unfold tAndF; rw [h]; rfl
theorem tOr_t (h : t ρ = .ok true ρ1) : tOrF t u ρ = .ok true ρ1 := by
  unfold tOrF; rw [h]; rfl
theorem tOr_f (h : t ρ = .ok false ρ1) : tOrF t u ρ = u ρ1 := by
  unfold tOrF; rw [h]; rfl
theorem eIf_t (h : t ρ = .ok true ρ1) : eIf t f1 f2 ρ = f1 ρ1 := by
  unfold eIf; rw [h]; rfl
theorem eIf_f (h : t ρ = .ok false ρ1) : eIf t f1 f2 ρ = f2 ρ1 := by
  unfold eIf; rw [h]; rfl
theorem sSet_ok {i : Nat} (h : f ρ = .ok d ρ1) : sSet i f ρ = .nx (ρ1.set i (.st d)) := by
  unfold sSet; rw [h]; rfl
theorem sSeq_ok (h : A ρ = .nx ρ1) : sSeq A B ρ = B ρ1 := by
  unfold sSeq; rw [h]; rfl
theorem sSeq_rt (h : A ρ = .rt d ρ1) : sSeq A B ρ = .rt d ρ1 := by
  unfold sSeq; rw [h]; rfl
theorem sIf_t (h : t ρ = .ok true ρ1) : sIf t A B ρ = A ρ1 := by
  unfold sIf; rw [h]; rfl
theorem sIf_f (h : t ρ = .ok false ρ1) : sIf t A B ρ = B ρ1 := by
  unfold sIf; rw [h]; rfl
theorem sNop_ok : sNop ρ = .nx ρ := rfl
theorem sRet_ok (h : f ρ = .ok d ρ1) : sRet f ρ = .rt d ρ1 := by
  unfold sRet; rw [h]; rfl
theorem sExpr_ok (h : f ρ = .ok d ρ1) : sExpr f ρ = .nx ρ1 := by
  unfold sExpr; rw [h]; rfl
theorem sAsg_ok {T : D → Ρ → Option Ρ} (h : f ρ = .ok d ρ1) (h2 : T d ρ1 = some ρ2) : sAsg T f ρ = .nx ρ2 := by
  unfold sAsg; rw [h]; show (match T d ρ1 with | some ρ2 => _ | none => _) = _; rw [h2]
theorem sFor_ok {T : D → Ρ → Option Ρ} (h : l ρ = .ok ds ρ1) : sFor l T B ρ = forL T B ds ρ1 := by
  unfold sFor; rw [h]; rfl
theorem iAny_lst (h : f ρ = .ok (.lst ds) ρ1) : iAny f ρ = .ok ds ρ1 := by
  unfold iAny; rw [h]; rfl
theorem iAny_tup (h : f ρ = .ok (.tup ds) ρ1) : iAny f ρ = .ok ds ρ1 := by
  unfold iAny; rw [h]; rfl
theorem dAdd_lst {a b : List D} (h : a.length + b.length ≤ 1000) : dAdd (.lst a) (.lst b) = some (.lst (a ++ b)) := by
  have z := szOk h
  simp only [dAdd, z, if_true]
theorem dAdd_tup {a b : List D} (h : a.length + b.length ≤ 1000) : dAdd (.tup a) (.tup b) = some (.tup (a ++ b)) := by
  have z := szOk h
  simp only [dAdd, z, if_true]
/-- the value of a def's body -/
theorem runDef_rt {n : Nat} {ss : List SV} (h : B (ss ++ List.replicate (n - ss.length) .un) = .rt d ρ) : noEx (runDef n B ss) = .ok d ρ := by
  unfold runDef; rw [h]; rfl
end
end PU
set_option maxHeartbeats 4000000
namespace PU
open PySem PySem.Spec PyProof.Rows L2

/-! ### an own exception whose __init__ hands its value on and keeps it -/
abbrev veTail : List Value := [.type "ValueError", .type "Exception", .type "BaseException", .type "object"]
/-- super().__init__(y); self.y = y -/
def initBody (x y : Str) (p0 p1 p2 p3 p4 p5 p6 p7 p8 p9 : Pos) : List Stmt :=
  [.Expr (.Call (.Attribute (.Call (.Name "super" p0) [] [] p1) "__init__" p2) [.Name y p3] [] p4) p5,
   .Assign [.Attribute (.Name x p6) y p7] (.Name y p8) p9]
theorem he_of (y : Str) (env : Env) (p0 p1 p2 p3 p4 : Pos) (hl : (p2.endLine == p4.line) = true) : eval (.Call (.Attribute (.Call (.Name "super" p0) [] [] p1) "__init__" p2) [.Name y p3] [] p4) env = (do
      let ov ← attributeBase (.Call (.Name "super" p0) [] [] p1) "__init__" env (eval (.Call (.Name "super" p0) [] [] p1) env)
      standAt p2.atName
      let (f, first) ← holding [ov] (getMethod ov "__init__" (do return (← importBound (.Call (.Name "super" p0) [] [] p1) env).getD true))
      callWith p4 f first (backTo p4 (starEach [.Name y p3] env)) []) := by
  show (do
      let ov ← attributeBase (.Call (.Name "super" p0) [] [] p1) "__init__" env (eval (.Call (.Name "super" p0) [] [] p1) env)
      standAt p2.atName
      methodCall (.Call (.Name "super" p0) [] [] p1) "__init__" p2 p4 env ov 1 (backTo p4 (starEach [.Name y p3] env)) (backToKw p4 (keywordEach [] env))) = _
  have hp : methodCallPos true (.Call (.Name "super" p0) [] [] p1) env p2 p4 = pure p4 := by
    unfold methodCallPos
    rw [hl]
    rfl
  unfold methodCall
  rw [show methodCallForm 1 (backTo p4 (starEach [.Name y p3] env)) (backToKw p4 (keywordEach [] env)) = true from rfl, hp]
  rfl
structure SupC (P : Program) (K : PySem.W.Frag) (C : Addr) (y : Str) : Prop where
  oex : OexC K C
  no : PySem.W.findIn K (.ref C) y = some none
  cls : ∃ cd, PySem.W.clsIn K C = some cd
  sup : PySem.W.ks_superIn K C C "__init__" = some (some (.builtin "ValueError.__init__"))
  opq : PySem.W.nsIn K cStatics "thirdparty.any" = some none
  ve : PySem.W.subIn K (.ref C) (.type "ValueError") = some true
  me : PySem.W.mroIn K C (.ref C) = some true
  exi : PySem.W.excInitIn K C veTail "ValueError.__new__" = true
  ini : ∃ (fI cc cda : Addr) (x : Str) (p0 p1 p2 p3 p4 p5 p6 p7 p8 p9 : Pos) (oc : Value) (od : Option Addr) (osl : Array (Option Value)) (name qual : Str) (params : Arguments) (scope : Scope) (dV kV doc pm ct ccl ch : Value) (an cdd cld : Option Addr) (ccs csl : Array (Option Value)) (vs : Array Value) (file : Str) (tf : Tok) (ar : Arg) (as : List Arg),
    PySem.W.findIn K (.ref C) "__init__" = some (some (.ref fI)) ∧ PySem.W.typeIn K (.ref fI) = some (.type "function") ∧
    K.lookup fI = some ⟨oc, od, .func (PySem.W.ksFn name qual params (initBody x y p0 p1 p2 p3 p4 p5 p6 p7 p8 p9) scope dV kV doc pm an (.ref cda) ct cc), osl⟩ ∧
    PySem.W.codeIn K (.ref cda) qual = true ∧ K.lookup cda = some ⟨ccl, cdd, .fields vs, ccs⟩ ∧ vs[2]? = some (.str file tf) ∧ ((P.main.file : Str) == file) = true ∧ (P.main.scope.names.lookup ("super" : Str)).isSome = false ∧
    K.lookup cc = some ⟨ch, cld, .cell (some (.ref C)), csl⟩ ∧
    params.posonlyargs ++ params.args = ar :: as ∧ ar.arg = x ∧ x ≠ y ∧ (∀ u v : Value, bindArgs (PySem.W.ksFn name qual params (initBody x y p0 p1 p2 p3 p4 p5 p6 p7 p8 p9) scope dV kV doc pm an (.ref cda) ct cc) ⟨[u, v], []⟩ = pure [(x, u), (y, v)]) ∧
    scope.names.lookup ("super" : Str) = some .globalImplicit ∧ scope.names.lookup ("__class__" : Str) = some .free ∧ scope.names.lookup x = some .local ∧ scope.names.lookup y = some .local ∧ (∀ z ∈ scope.names, z.2 ≠ .cell) ∧
    scope.kind = .function ∧ scope.isCoroutine = false ∧ scope.isGenerator = false ∧ (x == ("__debug__" : Str)) = false ∧ (y == ("__debug__" : Str)) = false ∧ (p2.endLine == p4.line) = true
section
variable {P : Program} {w : World} {A : Around} {E : Value → Shared → Prop} {K : PySem.W.Frag} {h : Heap} {g : Array GenState} {d : Drawn} {t : Nat} {os : OsState}
theorem supMade {C : Addr} {y : Str} {v : Value} {mg mb : Str → Option Value} {Q : Value → Shared → Prop} (T : SupC P K C y) (X : K.In h) (hmg : h.Ns mainGlobals mg) (hms : mg "super" = none) (hmb : h.Ns builtinsNs mb) (hmv : mb "super" = some (.type "super")) (lim : h.NoLimit)
    (hr : Room 3 A)
    (q : ∀ h' tk dx t1, (∀ b o, h.get? b = some o → h'.get? b = some o) → h.objs.size ≤ dx → dx ≠ h.objs.size + 1 → h'.get? (h.objs.size + 1) = some { cls := .ref C, dict := some dx, data := .fields #[.ref t1, .none, .none, .none, .bool false, .none] } →
      h'.Ns1 dx (fun z => if z = y then some v else none) → Q (.ref (h.objs.size + 1)) ⟨h', g, d, tk, os⟩) :
    wpAny (model P w) A (call (.ref C) [v]) Q E ⟨h, g, d, t, os⟩ := by
  obtain ⟨fI, cc, cda, x, p0, p1, p2, p3, p4, p5, p6, p7, p8, p9, oc, od, osl, name, qual, params, scope, dV, kV, doc, pm, ct, ccl, ch, an, cdd, cld, ccs, csl, vs, file, tf, ar, as, i1, i2, i3, i4, i5, i6, i7, i8, i9, j1, j2, j3, j4, k1, k2, k3, k4, k5, k6, k7, k8, k9, k0, kl⟩ := T.ini
  obtain ⟨sk, sns, sg, sc, sm⟩ := scope
  dsimp only at k1 k2 k3 k4 k5 k6 k7 k8
  subst k6 k7 k8
  obtain ⟨nm, qn, N, bs, bm, sn, sub, ab, col, dd, c0, c1, c2, c3, c5, hC, hbm⟩ := T.oex.cls
  refine wpAny_call (PySem.HandSPX.call_own F.excBase_ValueError (fun Y => PySem.HandSPX.refsVE_contains Y bm hbm) (X _ _ hC) (PySem.W.looks_findIn X i1) (fun self => PySem.W.bind_fn X self i2) (by rw [sizeLine_eq]; exact Nat.succ_le_of_lt (by decide : 0 < 16777216)) ?_)
  have s2 : ((h.push (PySem.W.kdv_tup [v])).push (PySem.HandSPX.excO C h.objs.size)).objs.size = h.objs.size + 2 := by rw [Heap.size_push, Heap.size_push]
  have up : ∀ b o, h.get? b = some o → ((h.push (PySem.W.kdv_tup [v])).push (PySem.HandSPX.excO C h.objs.size)).get? b = some o := fun b o e => Heap.get?_push_of_some _ (Heap.get?_push_of_some _ e)
  have he : ((h.push (PySem.W.kdv_tup [v])).push (PySem.HandSPX.excO C h.objs.size)).get? (h.objs.size + 1) = some (PySem.HandSPX.excO C h.objs.size) := by heap_get
  refine ks_codeAny_call_defAt (fd := PySem.W.ksFn name qual params (initBody x y p0 p1 p2 p3 p4 p5 p6 p7 p8 p9) ⟨ScopeKind.function, sns, false, false, sm⟩ dV kV doc pm an (.ref cda) ct cc) (body := initBody x y p0 p1 p2 p3 p4 p5 p6 p7 p8 p9) (binds := [(x, .ref (h.objs.size + 1)), (y, v)]) ?_ (up _ _ (X _ _ i3)) rfl (lim.keeps up) (PySem.W.codeRec_of (X.keeps up) i4) rfl (.of_eq (j4 _ _)) k5 (fun z hz => ?_) (fun h0 ns0 kp0 => ?_)
  · exact (hr.make C [v] []).depth
  · rcases List.mem_cons.mp hz with rfl | hz
    · exact k3
    · rw [List.mem_singleton.mp hz]; exact k4
  have m0 : ∀ z, (([(x, Value.ref (h.objs.size + 1)), (y, v)] : List (Str × Value)).reverse.lookup z) = if z = y then some v else if z = x then some (.ref (h.objs.size + 1)) else none := fun z => by
    simp only [List.reverse_cons, List.reverse_nil, List.nil_append, List.singleton_append]
    by_cases e : z = y
    · subst e; simp [List.lookup]
    · have e1 : (z == y) = false := by simpa using e
      by_cases e2 : z = x
      · subst e2; simp [List.lookup, e, e1]
      · have e3 : (z == x) = false := by simpa using e2
        simp [List.lookup, e, e1, e2, e3]
  have m0' : (fun z => ([(x, Value.ref (h.objs.size + 1)), (y, v)] : List (Str × Value)).reverse.lookup z) = fun z => if z = y then some v else if z = x then some (.ref (h.objs.size + 1)) else none := funext m0
  rw [m0'] at ns0
  have F0 : Fr h ((h.push (PySem.W.kdv_tup [v])).push (PySem.HandSPX.excO C h.objs.size)).objs.size h0 (fun z => if z = y then some v else if z = x then some (.ref (h.objs.size + 1)) else none) := ⟨ns0, fun b o e => kp0 b o (up b o e), by rw [s2]; exact Nat.le_add_right _ _⟩
  have none_of : ∀ b, h.objs.size ≤ b → h.get? b = none := fun b hb => by
    cases z : h.get? b with
    | none => rfl
    | some o => exact absurd (Nat.lt_of_lt_of_le (Heap.lt_size z) hb) (Nat.lt_irrefl _)
  have N0 : News h ((h.push (PySem.W.kdv_tup [v])).push (PySem.HandSPX.excO C h.objs.size)).objs.size h0 [(h.objs.size + 1, PySem.W.excObj C h.objs.size none .none)] := fun z hz => by
    rw [List.mem_singleton.mp hz]
    exact ⟨kp0 _ _ he, by rw [s2]; exact Nat.ne_of_lt (Nat.lt_succ_self _), none_of _ (Nat.le_succ _)⟩
  have X0 := X.keeps F0.keep
  generalize hL : ((h.push (PySem.W.kdv_tup [v])).push (PySem.HandSPX.excO C h.objs.size)).objs.size = L at F0 N0 ns0 ⊢
  obtain ⟨cd, hcd⟩ := T.cls
  obtain ⟨oD, hD1, hD2⟩ : ∃ oD, h0.get? C = some oD ∧ oD.data = .cls cd := by
    have z := hcd
    unfold PySem.W.clsIn at z
    split at z
    · rename_i e
      cases z
      exact ⟨_, X0 _ _ e, rfl⟩
    · cases z
  have I0 : PySem.W.InstAt h0 (h.objs.size + 1) (PySem.W.excObj C h.objs.size none .none) C none := .of_exc0 N0 List.mem_cons_self
  unfold initBody
  -- super().__init__(y)
  refine ks_wpAt_execs_cons (ks_wpAt_Expr_any (ks_wpAt_MethodCall (he := he_of _ _ _ _ _ _ _ kl) (ks_wpAt_super_base (ar := ar) k1 k2 rfl rfl (X0 _ _ i3) rfl (by show (params.posonlyargs ++ params.args).head? = _; rw [j1]; rfl) rfl (X0 _ _ i5) rfl i6 i7 i8 ?_)))
  refine PySem.W.ks_loadName_global rfl k1 (Calls.loadGlobal_builtin (hmg.keeps F0.keep) hms (hmb.keeps F0.keep) hmv ⟨rfl, ?_⟩)
  refine wpAny_loadName_free rfl k2 rfl ⟨_, X0 _ _ i9, rfl⟩ ?_
  rw [j2]
  refine wpAny_loadName_local rfl k3 F0.ns (v := .ref (h.objs.size + 1)) (by rw [if_neg j3, if_pos rfl]) ?_
  refine ks_wpAny_isType_cls hD1 hD2 ⟨rfl, ?_⟩
  refine ks_wpAny_call_super hD1 hD2 I0.at_ I0.cls (fun c e => by cases e) (PySem.W.looks_mroIn X0 T.me) fun h1 e1 kp1 => ?_
  obtain ⟨F1, N1, _⟩ := PySem.W.ks_newsPush (s := ⟨h0, g, d, t + 2, os⟩) F0 N0 rfl e1 kp1
  have I1 : PySem.W.InstAt h1 (h.objs.size + 1) (PySem.W.excObj C h.objs.size none .none) C none := .of_exc0 N1 (List.mem_cons_of_mem _ List.mem_cons_self)
  have lt0 : h.objs.size + 1 < h0.objs.size := Heap.lt_size (kp0 _ _ he)
  refine PySem.W.kxs_method PySem.W.kxs_ValueError F1 X N1 List.mem_cons_self I1 T.opq T.sup T.ve (by decide) fun u h2 F2 N2 lt2 => ?_
  refine PySem.W.kxs_callWith1 N2 List.mem_cons_self (PyProof.Rows.args_cons (wpAny_Name (wpAny_loadName_local rfl k4 F2.ns (v := v) (if_pos rfl) (PyProof.Rows.args_nil ⟨PySem.W.kxs_at N2 List.mem_cons_self, ?_⟩)) k0))
  have neU : u ≠ h.objs.size + 1 := Nat.ne_of_gt (lt2 (h.objs.size + 1, _) (List.mem_cons_of_mem _ List.mem_cons_self))
  have neS : h0.objs.size ≠ h.objs.size + 1 := Nat.ne_of_gt lt0
  have hz1 : [v].length ≤ sizeLine := by rw [sizeLine_eq]; exact Nat.succ_le_of_lt (by decide : 0 < 16777216)
  have U : PySem.W.UpdF (h.objs.size + 1) (PySem.W.excObj C h.objs.size none .none) [(u, PySem.W.kxs_mw "ValueError.__init__" (h.objs.size + 1)), (h0.objs.size, PySem.W.ks_superObj C (h.objs.size + 1) C), (h.objs.size + 1, PySem.W.excObj C h.objs.size none .none)]
    (fun o => (u, PySem.W.kxs_mw "ValueError.__init__" (h.objs.size + 1)) :: (h0.objs.size, PySem.W.ks_superObj C (h.objs.size + 1) C) :: [(h.objs.size + 1, o)]) := .tail neU (.tail neS (.head fun _ z => nomatch z))
  refine PySem.W.kxs_call (h₀ := h) (L := L) (x := h.objs.size + 1) (t := h.objs.size) (dv := none) (c2 := .none) (FB := F.excBase_ValueError) F2 X N2 T.exi List.mem_cons_self U hz1 fun t1 h3 F3 N3 _ => ?_
  have X3 := X.keeps F3.keep
  have he3 : h3.get? (h.objs.size + 1) = some (PySem.W.excObj C t1 none .none) := (N3 _ (List.mem_cons_of_mem _ (List.mem_cons_of_mem _ (List.mem_cons_of_mem _ List.mem_cons_self)))).1
  -- self.y = y
  show PySem.wpAt _ _ _ (execs _ _) _ _ _
  refine ks_wpAt_execs_cons (ks_wpAt_Assign_Attr (wpAt_of_wpAny (wpAny_Name (wpAny_loadName_local rfl k4 F3.ns (v := v) (if_pos rfl) (wpAny_Name (wpAny_loadName_local rfl k3 F3.ns (v := .ref (h.objs.size + 1)) (by rw [if_neg j3, if_pos rfl]) ?_) k9)) k0)))
  have hcl : PySem.W.clsIn K C = some { name := nm, bases := bs, mro := .ref C :: bm, ns := N, qualname := qn, hasDict := true, slotNames := sn, subclasses := sub, abstract := ab, collection := col, hasDel := false } := by unfold PySem.W.clsIn; rw [hC] <;> rfl
  refine PySem.W.set_plain X3 (ox := PySem.W.excObj C t1 none .none) (od := none) ⟨he3, rfl, rfl, trivial⟩ T.oex.sa ?_
  refine PySem.HandSPX.exc_osa X3 he3 hcl (show PySem.HandSPX.refsVE (.ref C :: bm) = true from hbm) rfl T.no (fun h4 tk dx kp dn dne hx hn => ?_)
  show PySem.wpAt _ _ _ (execs [] _) _ _ _
  refine wpAt_of_wpAny (wpAny_execs_nil ?_)
  refine ⟨rfl, q h4 _ dx t1 (fun b o e => kp b o (fun z => ?_) (F3.keep b o e)) ?_ dne hx hn⟩
  · rw [z, none_of _ (Nat.le_succ _)] at e
    cases e
  · exact Nat.le_trans (Nat.le_trans (Nat.le_of_lt (Nat.lt_of_succ_lt lt0)) (Nat.le_of_lt (Heap.lt_size (N3 _ (List.mem_cons_of_mem _ (List.mem_cons_of_mem _ List.mem_cons_self))).1))) dn
end
section
variable {X : Cx} {G : GC} {E : XK} {a : Expr} {e : Expr} {pos : Pos}
theorem pmk_sup {x y : Str} {C : Addr} {te : TE} {p : Pos} (T : SupC X.prog X.K C y) (hr : Room 3 X.A) (hms : X.mg "super" = none) (hg : Gl X x) (hm : X.mg x = some (.ref C)) (ha : PE X e te) (hdb : (x == ("__debug__" : Str)) = false := by decide)
    (he : starEach [e] X.env = (false, eval e X.env) :: starEach [] X.env := by rfl) (hpl : (backTo pos (starEach [] X.env)).any (·.1) = false := by rfl) :
    PMk X (.Call (.Name x p) [e] [] pos) (fun σ H Q => tCons te tNil σ H fun vs H1 => ∃ v, vs = [v] ∧ ∀ d, H1 d = none → Q (.ref C) (some d) (upd H1 d (.xd [(y, v)]))) := by
  intro pins s σ H Q I h
  refine wpAny_Call_Name_kw (ld_glob I hg hm ?_ hdb)
  refine PySem.W.callWith_K (h₀ := X.base) I.ok.mod.kin T.oex.kC (thn ((pa_cons ha pa_nil he).run pos pins s σ H _ I h) fun us s1 ⟨vs, H1, I1, r1, v, ev, q1⟩ => ⟨I1.kIn, ?_⟩) he hpl
  subst ev
  obtain ⟨u, rfl, ru⟩ := vals1 r1
  obtain ⟨hp, g, d, tk, os⟩ := s1
  obtain ⟨mb, b1, b2⟩ := I1.mod.blt
  refine supMade T I1.kIn (I1.mod.glob.keeps I1.bk) hms (b1.keeps I1.bk) ((b2 _ (by decide)).trans (by decide +kernel)) (I1.mod.nolimit.keeps I1.bk) hr fun h' tk' dx t1 kp le ne hx hn => ?_
  obtain ⟨F, g1, g2⟩ := restrict h' fun b => decide (b ≠ hp.objs.size + 1)
  have gk : ∀ b, b ≠ hp.objs.size + 1 → F.get? b = h'.get? b := fun b hb => g1 b (decide_eq_true hb)
  have ge : F.get? (hp.objs.size + 1) = none := g2 _ (by simp)
  have old : ∀ b o, hp.get? b = some o → F.get? b = some o := fun b o z => (gk b (Nat.ne_of_lt (Nat.lt_succ_of_lt (Heap.lt_size z)))).trans (kp b o z)
  have J : Inv X pins σ (upd H1 dx (.xd [(y, v)])) ⟨F, g, d, tk', os⟩ := I1.laid (t' := tk') (a := dx) (o := .xd [(y, v)]) (h' := F) old le ⟨_, hn.at fun o z => (gk dx ne).trans z, fun f => ?_⟩
  · exact ⟨hp.objs.size + 1, _, _, ⟨F, g, d, tk', os⟩, _, .ref C, some dx, rfl, J, fun b o z => by
      by_cases hb : b = hp.objs.size + 1
      · rw [hb, ge] at z; cases z
      · exact (gk b hb).symm.trans z, ge, hx, ⟨rfl, rfl⟩, rfl, rfl, by rw [upd_ne (Ne.symm ne)]; exact I1.hok.fresh (Nat.le_succ _), rfl, J.bare, raises_own T.oex.exC T.oex.tyC, q1 dx (I1.hok.fresh le)⟩
  · by_cases z : f = y
    · subst z
      simp [List.lookup]
      exact ru
    · have z2 : (f == y) = false := by simpa using z
      simp [List.lookup, z, z2]
      exact trivial
/-- raise C(e), e kept as C's field y -/
def sRaiseI (C : Addr) (y : Str) (f : Ev D) : Sv := fun ρ => match f ρ with
  | .ok d ρ1 => .ex ⟨C, [(y, d)]⟩ ρ1
  | .ex x ρ1 => .ex x ρ1
  | .bad => .bad
theorem xs_raiseI {C : Addr} {x y : Str} {f : Ev D} {p pos2 : Pos} (hc : X.calm = true) (tk : Takes X (fun cls d _ H => E cls d H)) (T : SupC X.prog X.K C y) (hr : Room 3 X.A) (hms : X.mg "super" = none) (gC : X.mg x = some (.ref C)) (hg : Gl X x) (ha : PE X e (trE X.K G E f))
    (hdb : (x == ("__debug__" : Str)) = false := by decide) (he : starEach [e] X.env = (false, eval e X.env) :: starEach [] X.env := by rfl) (hpl : (backTo pos2 (starEach [] X.env)).any (·.1) = false := by rfl) :
    PS X (.Raise (some (.Call (.Name x p) [e] [] pos2)) none pos) (trS X.K G E (sRaiseI C y f)) :=
  PS.imp (L2.ps_raise hc tk (pmk_sup T hr hms hg gC ha hdb he hpl)) fun D' σ H ⟨ρ, ok, h⟩ => ⟨ρ, ok, by
    simp only [sRaiseI] at h
    cases hf : f ρ with
    | bad => rw [hf] at h; exact h.elim
    | ex x ρ1 =>
      rw [hf] at h
      exact h.e
    | ok d ρ1 =>
      rw [hf] at h
      refine fun v H1 e1 ok1 r1 => ⟨v, rfl, fun dx hdx => ?_⟩
      have s := same_upd (o := .xd [(y, v)]) hdx
      exact h (some dx) _ (e1.trans (.of s)) ⟨_, ok1.same s⟩ ⟨dx, [y], [v], [d], rfl, upd_same, rfl, .cons (r1.ext (.of s)) .nil, rfl⟩⟩
end
end PU
set_option maxHeartbeats 4000000
namespace PU.C
open PySem PySem.Spec PyProof.Rows L2 PU
noncomputable section
def top (i : Nat) : Stmt := PySem.Challenge.pw_leastslips_k65_edges_of_classes.main.body.getD i (.Pass ⟨0, 0, 0, 0⟩)
structure Gs (mg : Str → Option Value) : Prop where
  abs_ : mg "abs" = none
  all_ : mg "all" = none
  any_ : mg "any" = none
  bool_ : mg "bool" = none
  dict_ : mg "dict" = none
  enumerate_ : mg "enumerate" = none
  int_ : mg "int" = none
  isinstance_ : mg "isinstance" = none
  len_ : mg "len" = none
  list_ : mg "list" = none
  max_ : mg "max" = none
  min_ : mg "min" = none
  range_ : mg "range" = none
  reversed_ : mg "reversed" = none
  set_ : mg "set" = none
  sorted_ : mg "sorted" = none
  str_ : mg "str" = none
  sum_ : mg "sum" = none
  super_ : mg "super" = none
  tuple_ : mg "tuple" = none
  zip_ : mg "zip" = none
  LETTERS_ : ∃ t, mg "LETTERS" = some (.str "abcdefghijklmnopqrstuvwxyz" t)
  MOST_POINTS_ : ∃ t, mg "MOST_POINTS" = some (.int 8 t)
  MOST_ROWS_ : ∃ t, mg "MOST_ROWS" = some (.int 24 t)
structure Cls0 where
  SlipError : Addr
  BadNumber : Addr
  BadClass : Addr
  BadNumbers : Addr
def Cls0.caught (c : Cls0) : List Addr := [c.BadNumber, c.BadClass, c.BadNumbers]
abbrev s__law_caught : Stmt := top 35
theorem sc__law_caught : FnScope ["action", "found", "error"] ["action"] (defScope s__law_caught) := ⟨rfl, rfl, rfl, by decide +kernel, rfl, by decide +kernel, by decide +kernel⟩
structure ClsF (c : Cls0) (P : Program) (K : PySem.W.Frag) (mg : Str → Option Value) (base : Heap) (T : List (Addr × Str)) : Prop where
  m_SlipError : mg "SlipError" = some (.ref c.SlipError)
  ra_SlipError : RaC K c.SlipError
  is_SlipError : IsTab K c.SlipError [(c.SlipError, true)]
  m_BadNumber : mg "BadNumber" = some (.ref c.BadNumber)
  is_BadNumber : IsTab K c.BadNumber [(c.BadNumber, true)]
  m_BadClass : mg "BadClass" = some (.ref c.BadClass)
  ra_BadClass : RaC K c.BadClass
  is_BadClass : IsTab K c.BadClass [(c.BadClass, true)]
  m_BadNumbers : mg "BadNumbers" = some (.ref c.BadNumbers)
  ra_BadNumbers : RaC K c.BadNumbers
  is_BadNumbers : IsTab K c.BadNumbers [(c.BadNumbers, true)]
  su_BadNumber : SupC P K c.BadNumber "part"
  fld_part : ∀ C ∈ [c.BadNumber], IsC K C ∧ PySem.W.findIn K (.ref C) "part" = some none
  lam : LamF K mg "_law_caught" s__law_caught c.SlipError c.caught
theorem bo_abs : bootBuiltins "abs" = some (.builtin "abs") := by decide +kernel
theorem bo_all : bootBuiltins "all" = some (.builtin "all") := by decide +kernel
theorem bo_any : bootBuiltins "any" = some (.builtin "any") := by decide +kernel
theorem bo_bool : bootBuiltins "bool" = some (.type "bool") := by decide +kernel
theorem bo_dict : bootBuiltins "dict" = some (.type "dict") := by decide +kernel
theorem bo_enumerate : bootBuiltins "enumerate" = some (.type "enumerate") := by decide +kernel
theorem bo_int : bootBuiltins "int" = some (.type "int") := by decide +kernel
theorem bo_isinstance : bootBuiltins "isinstance" = some (.builtin "isinstance") := by decide +kernel
theorem bo_len : bootBuiltins "len" = some (.builtin "len") := by decide +kernel
theorem bo_list : bootBuiltins "list" = some (.type "list") := by decide +kernel
theorem bo_max : bootBuiltins "max" = some (.builtin "max") := by decide +kernel
theorem bo_min : bootBuiltins "min" = some (.builtin "min") := by decide +kernel
theorem bo_range : bootBuiltins "range" = some (.type "range") := by decide +kernel
theorem bo_reversed : bootBuiltins "reversed" = some (.type "reversed") := by decide +kernel
theorem bo_set : bootBuiltins "set" = some (.type "set") := by decide +kernel
theorem bo_sorted : bootBuiltins "sorted" = some (.builtin "sorted") := by decide +kernel
theorem bo_str : bootBuiltins "str" = some (.type "str") := by decide +kernel
theorem bo_sum : bootBuiltins "sum" = some (.builtin "sum") := by decide +kernel
theorem bo_super : bootBuiltins "super" = some (.type "super") := by decide +kernel
theorem bo_tuple : bootBuiltins "tuple" = some (.type "tuple") := by decide +kernel
theorem bo_zip : bootBuiltins "zip" = some (.type "zip") := by decide +kernel
section
variable {P : Program} {w : World} {K : PySem.W.Frag} {mg : Str → Option Value} {base : Heap} {T : List (Addr × Str)}
abbrev s_is_whole : Stmt := top 6
abbrev N_is_whole : List Str := ["value"]
theorem sc_is_whole : FnScope N_is_whole ["value"] (defScope s_is_whole) := ⟨rfl, rfl, rfl, by decide +kernel, rfl, by decide +kernel, by decide +kernel⟩
def B_is_whole : Sv := (sRet (eAnd (eUn (dIsi "int") (eV 0)) (eUn dNot (eUn (dIsi "bool") (eV 0)))))
def f_is_whole : Fn := fun ss => noEx (runDef 1 (B_is_whole) ss)
theorem ok_is_whole (g : Gs mg) {f : Addr} {fd : FuncData} (F : FnP K "is_whole" s_is_whole f fd) :
    FnOk P w K mg base CX0 1 f fd ["value"] (spF K T 1 [] f_is_whole) := by
  refine defP F sc_is_whole rfl (by decide) fun cdv A outer s H E G hr hw hT => ?_
  subst hT
  have hu := hr.units
  have hu1 := Nat.lt_of_le_of_lt (Nat.add_le_add_left (by decide : 1 ≤ 64) _) hr.units
  have nd := sc_is_whole.nd
  exact (xs_one (xs_ret (xe_and (xe_isi rfl g.isinstance_ (xe_var 0 (pv 0)) (pe_bltn (v := .ty "int") rfl g.int_ bo_int rfl)) (xe_one (xe_not (xe_isi rfl g.isinstance_ (xe_var 0 (pv 0)) (pe_bltn (v := .ty "bool") rfl g.bool_ bo_bool rfl)))))))
abbrev s_is_word : Stmt := top 9
abbrev N_is_word : List Str := ["value", "letter"]
theorem sc_is_word : FnScope N_is_word ["value"] (defScope s_is_word) := ⟨rfl, rfl, rfl, by decide +kernel, rfl, by decide +kernel, by decide +kernel⟩
def B_is_word : Sv := (sRet (eAnd (eUn (dIsi "str") (eV 0)) (eAnd (eChain dLe dLe (eK (.int 1)) (eCB dLen (lCons (eV 0) lNil)) (eK (.int 8))) (eCB dAll (lCons (eFz (nLc (iAny (eV 0)) (tgN 1) tYesF (eBin dIn (eV 1) (eK (.str "abcdefghijklmnopqrstuvwxyz"))) [1])) lNil)))))
def f_is_word : Fn := fun ss => noEx (runDef 2 (B_is_word) ss)
theorem ok_is_word (g : Gs mg) {f : Addr} {fd : FuncData} (F : FnP K "is_word" s_is_word f fd) :
    FnOk P w K mg base CX0 1 f fd ["value"] (spF K T 1 [] f_is_word) := by
  refine defP F sc_is_word rfl (by decide) fun cdv A outer s H E G hr hw hT => ?_
  subst hT
  have hu := hr.units
  have hu1 := Nat.lt_of_le_of_lt (Nat.add_le_add_left (by decide : 1 ≤ 64) _) hr.units
  have nd := sc_is_word.nd
  exact (xs_one (xs_ret (xe_and (xe_isi rfl g.isinstance_ (xe_var 0 (pv 0)) (pe_bltn (v := .ty "str") rfl g.str_ bo_str rfl)) (xe_and (xe_chain op_leD op_leD xe_int (xe_callB call_lenD rfl g.len_ bo_len (xl_cons (xe_var 0 (pv 0)) xl_nil)) xe_int) (xe_one (xe_callB (call_allD rfl) rfl g.all_ bo_all (xl_cons (xe_fz (xn_lc0 rfl nd (own := [("letter", 1)]) (g := (gName 1)) (T := (tgN 1)) (xi_any (xe_var 0 (pv 0))) (blkOk_by (own := [("letter", 1)]) (N := N_is_word) (sc := defScope s_is_word) (by decide +kernel)) (fun _ _ _ _ _ => (pg_name (i := 1) nd rfl (by first | exact Or.inl rfl | exact Or.inr rfl))) (tgk_name (by simp)) (by simp [GC.pr, hw]) (fun _ _ _ _ _ _ _ => (xe_cmp (op_inD hu) (xe_var 1 (pv 1)) (xe_gstr rfl g.LETTERS_) rfl)))) xl_nil)))))))
abbrev s_is_label : Stmt := top 13
abbrev N_is_label : List Str := ["value"]
theorem sc_is_label : FnScope N_is_label ["value"] (defScope s_is_label) := ⟨rfl, rfl, rfl, by decide +kernel, rfl, by decide +kernel, by decide +kernel⟩
def B_is_label : Sv := (sRet (eAnd (eCall f_is_whole (lCons (eV 0) lNil)) (eChain dLe dLe (eK (.int 0)) (eV 0) (eK (.int 1)))))
def f_is_label : Fn := fun ss => noEx (runDef 1 (B_is_label) ss)
theorem ok_is_label (g : Gs mg) (F_is_whole : Fnc P w K mg base CX0 "is_whole" 1 ["value"] (spF K T 1 [] f_is_whole)) {f : Addr} {fd : FuncData} (F : FnP K "is_label" s_is_label f fd) :
    FnOk P w K mg base CX0 2 f fd ["value"] (spF K T 1 [] f_is_label) := by
  refine defP F sc_is_label rfl (by decide) fun cdv A outer s H E G hr hw hT => ?_
  subst hT
  have hu := hr.units
  have hu1 := Nat.lt_of_le_of_lt (Nat.add_le_add_left (by decide : 1 ≤ 64) _) hr.units
  have nd := sc_is_label.nd
  exact (xs_one (xs_ret (xe_and (xe_callF F_is_whole (hr.mono (by decide)) rfl C8.pass0 (xl_cons (xe_var 0 (pv 0)) xl_nil) (lCons_len lNil_len)) (xe_one (xe_chain op_leD op_leD xe_int (xe_var 0 (pv 0)) xe_int)))))
abbrev s_are_points : Stmt := top 14
abbrev N_are_points : List Str := ["value", "one", "other", "point"]
theorem sc_are_points : FnScope N_are_points ["value"] (defScope s_are_points) := ⟨rfl, rfl, rfl, by decide +kernel, rfl, by decide +kernel, by decide +kernel⟩
def B_are_points : Sv := (sSeq (sIf (tOrF (tNotF (tV (eUn (dIsi "tuple") (eV 0)))) (tNotF (tV (eChain dLe dLe (eK (.int 1)) (eCB dLen (lCons (eV 0) lNil)) (eK (.int 8))))))
  (sRet (eK (.bl false)))
  sNop)
  (sSeq (sIf (tNotF (tV (eCB dAll (lCons (eFz (nLc (iAny (eV 0)) (tgN 3) tYesF (eCall f_is_word (lCons (eV 3) lNil)) [3])) lNil))))
  (sRet (eK (.bl false)))
  sNop)
  (sRet (eCB dAll (lCons (eFz (nLc (iCall dZip (lCons (eV 0) (lCons (eSl (eV 0) (poS (eK (.int 1))) poN) lNil))) (tgT [1, 2]) tYesF (eBin dLt (eV 1) (eV 2)) [1, 2])) lNil)))))
def f_are_points : Fn := fun ss => noEx (runDef 4 (B_are_points) ss)
theorem ok_are_points (g : Gs mg) (F_is_word : Fnc P w K mg base CX0 "is_word" 1 ["value"] (spF K T 1 [] f_is_word)) {f : Addr} {fd : FuncData} (F : FnP K "are_points" s_are_points f fd) :
    FnOk P w K mg base CX0 2 f fd ["value"] (spF K T 1 [] f_are_points) := by
  refine defP F sc_are_points rfl (by decide) fun cdv A outer s H E G hr hw hT => ?_
  subst hT
  have hu := hr.units
  have hu1 := Nat.lt_of_le_of_lt (Nat.add_le_add_left (by decide : 1 ≤ 64) _) hr.units
  have nd := sc_are_points.nd
  exact (xs_cons (xs_if (PW.pt (xw_or (xt_not (xt_val (xe_isi rfl g.isinstance_ (xe_var 0 (pv 0)) (pe_bltn (v := .ty "tuple") rfl g.tuple_ bo_tuple rfl)))) (xw_or1 (xt_not (xt_chain op_leD op_leD xe_int (xe_callB call_lenD rfl g.len_ bo_len (xl_cons (xe_var 0 (pv 0)) xl_nil)) (xe_gint rfl g.MOST_POINTS_))))))
    (xs_one (xs_ret xe_bl))
    xs_nil)
    (xs_cons (xs_if (xt_not (xt_val (xe_callB (call_allD rfl) rfl g.all_ bo_all (xl_cons (xe_fz (xn_lc0 rfl nd (own := [("point", 3)]) (g := (gName 3)) (T := (tgN 3)) (xi_any (xe_var 0 (pv 0))) (blkOk_by (own := [("point", 3)]) (N := N_are_points) (sc := defScope s_are_points) (by decide +kernel)) (fun _ _ _ _ _ => (pg_name (i := 3) nd rfl (by first | exact Or.inl rfl | exact Or.inr rfl))) (tgk_name (by simp)) (by simp [GC.pr, hw]) (fun _ _ _ _ _ _ _ => (xe_callF F_is_word (hr.mono (by decide)) rfl C8.pass0 (xl_cons (xe_var 3 (pv 3)) xl_nil) (lCons_len lNil_len))))) xl_nil))))
    (xs_one (xs_ret xe_bl))
    xs_nil)
    (xs_one (xs_ret (xe_callB (call_allD rfl) rfl g.all_ bo_all (xl_cons (xe_fz (xn_lc0 rfl nd (own := [("one", 1), ("other", 2)]) (g := (gTup K 2 (gAll [1, 2]))) (T := (tgT [1, 2])) (xi_zip rfl g.zip_ (xl_cons (xe_var 0 (pv 0)) (xl_cons (xe_sl (xe_var 0 (pv 0)) (xo_some xe_int) xo_none) xl_nil))) (blkOk_by (own := [("one", 1), ("other", 2)]) (N := N_are_points) (sc := defScope s_are_points) (by decide +kernel)) (fun _ _ _ _ _ => (pg_tup rfl (pgs_cons (pg_name (i := 1) nd rfl (by first | exact Or.inl rfl | exact Or.inr rfl)) (pgs_cons (pg_name (i := 2) nd rfl (by first | exact Or.inl rfl | exact Or.inr rfl)) pgs_nil)))) (tgk_tup (by simp)) (by simp [GC.pr, hw]) (fun _ _ _ _ _ _ _ => (xe_cmp (op_ltD hu) (xe_var 1 (pv 1)) (xe_var 2 (pv 2)) rfl)))) xl_nil))))))
abbrev s_is_class : Stmt := top 15
abbrev N_is_class : List Str := ["value", "row", "one", "other", "label"]
theorem sc_is_class : FnScope N_is_class ["value"] (defScope s_is_class) := ⟨rfl, rfl, rfl, by decide +kernel, rfl, by decide +kernel, by decide +kernel⟩
def B_is_class : Sv := (sSeq (sIf (tOrF (tNotF (tV (eUn (dIsi "tuple") (eV 0)))) (tOrF (tV (eBin dNe (eCB dLen (lCons (eV 0) lNil)) (eK (.int 3)))) (tOrF (tNotF (tV (eUn (dIsi "str") (eBin dIx (eV 0) (eK (.int 0)))))) (tV (eBin dNe (eBin dIx (eV 0) (eK (.int 0))) (eK (.str "class")))))))
  (sRet (eK (.bl false)))
  sNop)
  (sSeq (sIf (tOrF (tNotF (tV (eCall f_are_points (lCons (eBin dIx (eV 0) (eK (.int 1))) lNil)))) (tOrF (tNotF (tV (eUn (dIsi "tuple") (eBin dIx (eV 0) (eK (.int 2)))))) (tNotF (tV (eChain dLe dLe (eK (.int 1)) (eCB dLen (lCons (eBin dIx (eV 0) (eK (.int 2))) lNil)) (eK (.int 24)))))))
  (sRet (eK (.bl false)))
  sNop)
  (sSeq (sFor (iAny (eBin dIx (eV 0) (eK (.int 2)))) (tgN 1)
  (sIf (tOrF (tNotF (tV (eUn (dIsi "tuple") (eV 1)))) (tOrF (tV (eBin dNe (eCB dLen (lCons (eV 1) lNil)) (eCB dLen (lCons (eBin dIx (eV 0) (eK (.int 1))) lNil)))) (tNotF (tV (eCB dAll (lCons (eFz (nLc (iAny (eV 1)) (tgN 4) tYesF (eCall f_is_label (lCons (eV 4) lNil)) [4])) lNil))))))
  (sRet (eK (.bl false)))
  sNop))
  (sRet (eCB dAll (lCons (eFz (nLc (iCall dZip (lCons (eBin dIx (eV 0) (eK (.int 2))) (lCons (eSl (eBin dIx (eV 0) (eK (.int 2))) (poS (eK (.int 1))) poN) lNil))) (tgT [2, 3]) tYesF (eBin dLt (eV 2) (eV 3)) [2, 3])) lNil))))))
def f_is_class : Fn := fun ss => noEx (runDef 5 (B_is_class) ss)
theorem ok_is_class (g : Gs mg) (F_is_label : Fnc P w K mg base CX0 "is_label" 2 ["value"] (spF K T 1 [] f_is_label)) (F_are_points : Fnc P w K mg base CX0 "are_points" 2 ["value"] (spF K T 1 [] f_are_points)) {f : Addr} {fd : FuncData} (F : FnP K "is_class" s_is_class f fd) :
    FnOk P w K mg base CX0 3 f fd ["value"] (spF K T 1 [] f_is_class) := by
  refine defP F sc_is_class rfl (by decide) fun cdv A outer s H E G hr hw hT => ?_
  subst hT
  have hu := hr.units
  have hu1 := Nat.lt_of_le_of_lt (Nat.add_le_add_left (by decide : 1 ≤ 64) _) hr.units
  have nd := sc_is_class.nd
  exact (xs_cons (xs_if (PW.pt (xw_or (xt_not (xt_val (xe_isi rfl g.isinstance_ (xe_var 0 (pv 0)) (pe_bltn (v := .ty "tuple") rfl g.tuple_ bo_tuple rfl)))) (xw_or (xt_cmp (op_neD hu) (xe_callB call_lenD rfl g.len_ bo_len (xl_cons (xe_var 0 (pv 0)) xl_nil)) xe_int rfl) (xw_or (xt_not (xt_val (xe_isi rfl g.isinstance_ (xe_ix (xe_var 0 (pv 0)) xe_int) (pe_bltn (v := .ty "str") rfl g.str_ bo_str rfl)))) (xw_or1 (xt_cmp (op_neD hu) (xe_ix (xe_var 0 (pv 0)) xe_int) xe_str rfl))))))
    (xs_one (xs_ret xe_bl))
    xs_nil)
    (xs_cons (xs_if (PW.pt (xw_or (xt_not (xt_val (xe_callF F_are_points (hr.mono (by decide)) rfl C8.pass0 (xl_cons (xe_ix (xe_var 0 (pv 0)) xe_int) xl_nil) (lCons_len lNil_len)))) (xw_or (xt_not (xt_val (xe_isi rfl g.isinstance_ (xe_ix (xe_var 0 (pv 0)) xe_int) (pe_bltn (v := .ty "tuple") rfl g.tuple_ bo_tuple rfl)))) (xw_or1 (xt_not (xt_chain op_leD op_leD xe_int (xe_callB call_lenD rfl g.len_ bo_len (xl_cons (xe_ix (xe_var 0 (pv 0)) xe_int) xl_nil)) (xe_gint rfl g.MOST_ROWS_)))))))
    (xs_one (xs_ret xe_bl))
    xs_nil)
    (xs_cons (xs_for PassesOwn.never rfl (xi_any (xe_ix (xe_var 0 (pv 0)) xe_int)) (tgt_name (i := 1) (pg_name nd rfl (.inl rfl)) (by simp [GC.pr, hw]))
    (xs_one (xs_if (PW.pt (xw_or (xt_not (xt_val (xe_isi rfl g.isinstance_ (xe_var 1 (pv 1)) (pe_bltn (v := .ty "tuple") rfl g.tuple_ bo_tuple rfl)))) (xw_or (xt_cmp (op_neD hu) (xe_callB call_lenD rfl g.len_ bo_len (xl_cons (xe_var 1 (pv 1)) xl_nil)) (xe_callB call_lenD rfl g.len_ bo_len (xl_cons (xe_ix (xe_var 0 (pv 0)) xe_int) xl_nil)) rfl) (xw_or1 (xt_not (xt_val (xe_callB (call_allD rfl) rfl g.all_ bo_all (xl_cons (xe_fz (xn_lc0 rfl nd (own := [("label", 4)]) (g := (gName 4)) (T := (tgN 4)) (xi_any (xe_var 1 (pv 1))) (blkOk_by (own := [("label", 4)]) (N := N_is_class) (sc := defScope s_is_class) (by decide +kernel)) (fun _ _ _ _ _ => (pg_name (i := 4) nd rfl (by first | exact Or.inl rfl | exact Or.inr rfl))) (tgk_name (by simp)) (by simp [GC.pr, hw]) (fun _ _ _ _ _ _ _ => (xe_callF F_is_label (hr.mono (by decide)) rfl C8.pass0 (xl_cons (xe_var 4 (pv 4)) xl_nil) (lCons_len lNil_len))))) xl_nil))))))))
    (xs_one (xs_ret xe_bl))
    xs_nil)))
    (xs_one (xs_ret (xe_callB (call_allD rfl) rfl g.all_ bo_all (xl_cons (xe_fz (xn_lc0 rfl nd (own := [("one", 2), ("other", 3)]) (g := (gTup K 2 (gAll [2, 3]))) (T := (tgT [2, 3])) (xi_zip rfl g.zip_ (xl_cons (xe_ix (xe_var 0 (pv 0)) xe_int) (xl_cons (xe_sl (xe_ix (xe_var 0 (pv 0)) xe_int) (xo_some xe_int) xo_none) xl_nil))) (blkOk_by (own := [("one", 2), ("other", 3)]) (N := N_is_class) (sc := defScope s_is_class) (by decide +kernel)) (fun _ _ _ _ _ => (pg_tup rfl (pgs_cons (pg_name (i := 2) nd rfl (by first | exact Or.inl rfl | exact Or.inr rfl)) (pgs_cons (pg_name (i := 3) nd rfl (by first | exact Or.inl rfl | exact Or.inr rfl)) pgs_nil)))) (tgk_tup (by simp)) (by simp [GC.pr, hw]) (fun _ _ _ _ _ _ _ => (xe_cmp (op_ltD hu) (xe_var 2 (pv 2)) (xe_var 3 (pv 3)) rfl)))) xl_nil)))))))
abbrev s_need_class : Stmt := top 16
abbrev N_need_class : List Str := ["class_"]
theorem sc_need_class : FnScope N_need_class ["class_"] (defScope s_need_class) := ⟨rfl, rfl, rfl, by decide +kernel, rfl, by decide +kernel, by decide +kernel⟩
def B_need_class (c : Cls0) : Sv := (sIf (tNotF (tV (eCall f_is_class (lCons (eV 0) lNil))))
  (sRaise c.BadClass)
  sNop)
def f_need_class (c : Cls0) : Fn := fun ss => runDef 1 (B_need_class c) ss
theorem ok_need_class {c : Cls0} (cF : ClsF c P K mg base T) (g : Gs mg) (F_is_class : Fnc P w K mg base CX0 "is_class" 3 ["value"] (spF K T 1 [] f_is_class)) {f : Addr} {fd : FuncData} (F : FnP K "need_class" s_need_class f fd) :
    FnOk P w K mg base (L2.CX P w) 4 f fd ["class_"] (spF K T 1 [] (f_need_class c)) := by
  refine defPX F sc_need_class rfl (by decide) fun cdv A outer s H E G hr hw hT tk => ?_
  subst hT
  have hu := hr.units
  have hu1 := Nat.lt_of_le_of_lt (Nat.add_le_add_left (by decide : 1 ≤ 64) _) hr.units
  have nd := sc_need_class.nd
  exact (xs_one (xs_if (xt_not (xt_val (xe_callF F_is_class (hr.mono (by decide)) rfl C8.pass0 (xl_cons (xe_var 0 (pv 0)) xl_nil) (lCons_len lNil_len))))
    (xs_one (xs_raise rfl tk cF.ra_BadClass cF.m_BadClass rfl))
    xs_nil))
abbrev s_need_row : Stmt := top 18
abbrev N_need_row : List Str := ["class_", "number", "part"]
theorem sc_need_row : FnScope N_need_row ["class_", "number", "part"] (defScope s_need_row) := ⟨rfl, rfl, rfl, by decide +kernel, rfl, by decide +kernel, by decide +kernel⟩
def B_need_row (c : Cls0) : Sv := (sIf (tOrF (tNotF (tV (eCall f_is_whole (lCons (eV 1) lNil)))) (tNotF (tV (eChain dLe dLt (eK (.int 0)) (eV 1) (eCB dLen (lCons (eBin dIx (eV 0) (eK (.int 2))) lNil))))))
  (sRaiseI c.BadNumber "part" (eV 2))
  sNop)
def f_need_row (c : Cls0) : Fn := fun ss => runDef 3 (B_need_row c) ss
theorem ok_need_row {c : Cls0} (cF : ClsF c P K mg base T) (g : Gs mg) (F_is_whole : Fnc P w K mg base CX0 "is_whole" 1 ["value"] (spF K T 1 [] f_is_whole)) {f : Addr} {fd : FuncData} (F : FnP K "need_row" s_need_row f fd) :
    FnOk P w K mg base (L2.CX P w) 4 f fd ["class_", "number", "part"] (spF K T 3 [] (f_need_row c)) := by
  refine defPX F sc_need_row rfl (by decide) fun cdv A outer s H E G hr hw hT tk => ?_
  subst hT
  have hu := hr.units
  have hu1 := Nat.lt_of_le_of_lt (Nat.add_le_add_left (by decide : 1 ≤ 64) _) hr.units
  have nd := sc_need_row.nd
  exact (xs_one (xs_if (PW.pt (xw_or (xt_not (xt_val (xe_callF F_is_whole (hr.mono (by decide)) rfl C8.pass0 (xl_cons (xe_var 1 (pv 1)) xl_nil) (lCons_len lNil_len)))) (xw_or1 (xt_not (xt_chain op_leD (op_ltD hu) xe_int (xe_var 1 (pv 1)) (xe_callB call_lenD rfl g.len_ bo_len (xl_cons (xe_ix (xe_var 0 (pv 0)) xe_int) xl_nil)))))))
    (xs_one (xs_raiseI rfl tk cF.su_BadNumber (hr.mono (by decide)) g.super_ cF.m_BadNumber rfl (xe_var 2 (pv 2))))
    xs_nil))
abbrev s_unlike : Stmt := top 19
abbrev N_unlike : List Str := ["one", "other", "place"]
theorem sc_unlike : FnScope N_unlike ["one", "other"] (defScope s_unlike) := ⟨rfl, rfl, rfl, by decide +kernel, rfl, by decide +kernel, by decide +kernel⟩
def B_unlike : Sv := (sRet (eFz (nLc (iCall dRng1 (lCons (eCB dLen (lCons (eV 0) lNil)) lNil)) (tgN 2) (tV (eBin dNe (eBin dIx (eV 0) (eV 2)) (eBin dIx (eV 1) (eV 2)))) (eV 2) [2])))
def f_unlike : Fn := fun ss => noEx (runDef 3 (B_unlike) ss)
theorem ok_unlike (g : Gs mg) {f : Addr} {fd : FuncData} (F : FnP K "unlike" s_unlike f fd) :
    FnOk P w K mg base CX0 1 f fd ["one", "other"] (spF K T 2 [] f_unlike) := by
  refine defP F sc_unlike rfl (by decide) fun cdv A outer s H E G hr hw hT => ?_
  subst hT
  have hu := hr.units
  have hu1 := Nat.lt_of_le_of_lt (Nat.add_le_add_left (by decide : 1 ≤ 64) _) hr.units
  have nd := sc_unlike.nd
  exact (xs_one (xs_ret (xe_fz (xn_lc1 rfl nd (own := [("place", 2)]) (g := (gName 2)) (T := (tgN 2)) (xi_rng1 rfl g.range_ (xl_cons (xe_callB call_lenD rfl g.len_ bo_len (xl_cons (xe_var 0 (pv 0)) xl_nil)) xl_nil)) (blkOk_by (own := [("place", 2)]) (N := N_unlike) (sc := defScope s_unlike) (by decide +kernel)) (fun _ _ _ _ _ => (pg_name (i := 2) nd rfl (by first | exact Or.inl rfl | exact Or.inr rfl))) (tgk_name (by simp)) (by simp [GC.pr, hw]) (fun _ _ _ _ _ _ _ => (xt_cmp (op_neD hu) (xe_ix (xe_var 0 (pv 0)) (xe_var 2 (pv 2))) (xe_ix (xe_var 1 (pv 1)) (xe_var 2 (pv 2))) rfl)) (fun _ _ _ _ _ _ _ => (xe_var 2 (pv 2)))))))
abbrev s_edge_list : Stmt := top 21
abbrev N_edge_list : List Str := ["class_", "found", "rows", "one", "other", "places"]
theorem sc_edge_list : FnScope N_edge_list ["class_"] (defScope s_edge_list) := ⟨rfl, rfl, rfl, by decide +kernel, rfl, by decide +kernel, by decide +kernel⟩
def B_edge_list : Sv := (sSeq (sParN 1 2 (nLst lNil) (eBin dIx (eV 0) (eK (.int 2))))
  (sSeq (sFor (iCall dRng1 (lCons (eCB dLen (lCons (eV 2) lNil)) lNil)) (tgN 3)
  (sFor (iCall dRng2 (lCons (eBin dAdd (eV 3) (eK (.int 1))) (lCons (eCB dLen (lCons (eV 2) lNil)) lNil))) (tgN 4)
  (sSeq (sSet 5 (eCall f_unlike (lCons (eBin dIx (eV 2) (eV 3)) (lCons (eBin dIx (eV 2) (eV 4)) lNil))))
  (sIf (tV (eBin dEq (eCB dLen (lCons (eV 5) lNil)) (eK (.int 1))))
  (sExpr (eApp 1 (eTup (lCons (eV 3) (lCons (eV 4) (lCons (eBin dIx (eBin dIx (eV 0) (eK (.int 1))) (eBin dIx (eV 5) (eK (.int 0)))) lNil))))))
  sNop))))
  (sRet (eTake 1))))
def f_edge_list : Fn := fun ss => noEx (runDef 6 (B_edge_list) ss)
theorem ok_edge_list (g : Gs mg) (F_unlike : Fnc P w K mg base CX0 "unlike" 1 ["one", "other"] (spF K T 2 [] f_unlike)) {f : Addr} {fd : FuncData} (F : FnP K "edge_list" s_edge_list f fd) :
    FnOk P w K mg base CX0 2 f fd ["class_"] (spF K T 1 [] f_edge_list) := by
  refine defP F sc_edge_list rfl (by decide) fun cdv A outer s H E G hr hw hT => ?_
  subst hT
  have hu := hr.units
  have hu1 := Nat.lt_of_le_of_lt (Nat.add_le_add_left (by decide : 1 ≤ 64) _) hr.units
  have nd := sc_edge_list.nd
  exact (xs_cons (xs_parN (i := 1) (j := 2) rfl nd rfl rfl (by decide) rfl rfl (xn_lst xl_nil) (fun _ _ => (xe_ix (xe_var 0 (pv 0)) xe_int)) ⟨(by simp [GC.pr, hw]), (by simp [GC.pr, hw])⟩ rfl)
    (xs_cons (xs_for PassesOwn.never rfl (xi_rng1 rfl g.range_ (xl_cons (xe_callB call_lenD rfl g.len_ bo_len (xl_cons (xe_var 2 (pv 2)) xl_nil)) xl_nil)) (tgt_name (i := 3) (pg_name nd rfl (.inl rfl)) (by simp [GC.pr, hw]))
    (xs_one (xs_for PassesOwn.never rfl (xi_rng2 rfl g.range_ (xl_cons (xe_bin op_addD (xe_var 3 (pv 3)) xe_int) (xl_cons (xe_callB call_lenD rfl g.len_ bo_len (xl_cons (xe_var 2 (pv 2)) xl_nil)) xl_nil))) (tgt_name (i := 4) (pg_name nd rfl (.inl rfl)) (by simp [GC.pr, hw]))
    (xs_cons (xs_set (i := 5) nd rfl (.inl rfl) (xe_callF F_unlike (hr.mono (by decide)) rfl C8.pass0 (xl_cons (xe_ix (xe_var 2 (pv 2)) (xe_var 3 (pv 3))) (xl_cons (xe_ix (xe_var 2 (pv 2)) (xe_var 4 (pv 4))) xl_nil)) (lCons_len (lCons_len lNil_len))) (by simp [GC.pr, hw]))
    (xs_one (xs_if (xt_cmp (op_eqD hu) (xe_callB call_lenD rfl g.len_ bo_len (xl_cons (xe_var 5 (pv 5)) xl_nil)) xe_int rfl)
    (xs_one (xs_expr (xe_append (i := 1) (pv 1) (xe_tup (xl_cons (xe_var 3 (pv 3)) (xl_cons (xe_var 4 (pv 4)) (xl_cons (xe_ix (xe_ix (xe_var 0 (pv 0)) xe_int) (xe_ix (xe_var 5 (pv 5)) xe_int)) xl_nil)))))))
    xs_nil))))))
    (xs_one (xs_ret (xe_take (by simp [GC.pr, hw]) (pv 1))))))
abbrev s_pairs_of : Stmt := top 22
abbrev N_pairs_of : List Str := ["class_", "one", "other", "point"]
theorem sc_pairs_of : FnScope N_pairs_of ["class_"] (defScope s_pairs_of) := ⟨rfl, rfl, rfl, by decide +kernel, rfl, by decide +kernel, by decide +kernel⟩
def B_pairs_of : Sv := (sRet (eFz (nLc (iAny (eCall f_edge_list (lCons (eV 0) lNil))) (tgT [1, 2, 3]) tYesF (eTup (lCons (eV 1) (lCons (eV 2) lNil))) [1, 2, 3])))
def f_pairs_of : Fn := fun ss => noEx (runDef 4 (B_pairs_of) ss)
theorem ok_pairs_of (g : Gs mg) (F_edge_list : Fnc P w K mg base CX0 "edge_list" 2 ["class_"] (spF K T 1 [] f_edge_list)) {f : Addr} {fd : FuncData} (F : FnP K "pairs_of" s_pairs_of f fd) :
    FnOk P w K mg base CX0 3 f fd ["class_"] (spF K T 1 [] f_pairs_of) := by
  refine defP F sc_pairs_of rfl (by decide) fun cdv A outer s H E G hr hw hT => ?_
  subst hT
  have hu := hr.units
  have hu1 := Nat.lt_of_le_of_lt (Nat.add_le_add_left (by decide : 1 ≤ 64) _) hr.units
  have nd := sc_pairs_of.nd
  exact (xs_one (xs_ret (xe_fz (xn_lc0 rfl nd (own := [("one", 1), ("other", 2), ("point", 3)]) (g := (gTup K 3 (gAll [1, 2, 3]))) (T := (tgT [1, 2, 3])) (xi_any (xe_callF F_edge_list (hr.mono (by decide)) rfl C8.pass0 (xl_cons (xe_var 0 (pv 0)) xl_nil) (lCons_len lNil_len))) (blkOk_by (own := [("one", 1), ("other", 2), ("point", 3)]) (N := N_pairs_of) (sc := defScope s_pairs_of) (by decide +kernel)) (fun _ _ _ _ _ => (pg_tup rfl (pgs_cons (pg_name (i := 1) nd rfl (by first | exact Or.inl rfl | exact Or.inr rfl)) (pgs_cons (pg_name (i := 2) nd rfl (by first | exact Or.inl rfl | exact Or.inr rfl)) (pgs_cons (pg_name (i := 3) nd rfl (by first | exact Or.inl rfl | exact Or.inr rfl)) pgs_nil))))) (tgk_tup (by simp)) (by simp [GC.pr, hw]) (fun _ _ _ _ _ _ _ => (xe_tup (xl_cons (xe_var 1 (pv 1)) (xl_cons (xe_var 2 (pv 2)) xl_nil))))))))
abbrev s_within : Stmt := top 23
abbrev N_within : List Str := ["pairs", "numbers", "one", "other"]
theorem sc_within : FnScope N_within ["pairs", "numbers"] (defScope s_within) := ⟨rfl, rfl, rfl, by decide +kernel, rfl, by decide +kernel, by decide +kernel⟩
def B_within : Sv := (sRet (eCB dLen (lCons (eFz (nLc (iAny (eV 0)) (tgT [2, 3]) (tAndF (tV (eBin dIn (eV 2) (eV 1))) (tV (eBin dIn (eV 3) (eV 1)))) (eK (.int 1)) [2, 3])) lNil)))
def f_within : Fn := fun ss => noEx (runDef 4 (B_within) ss)
theorem ok_within (g : Gs mg) {f : Addr} {fd : FuncData} (F : FnP K "within" s_within f fd) :
    FnOk P w K mg base CX0 1 f fd ["pairs", "numbers"] (spF K T 2 [] f_within) := by
  refine defP F sc_within rfl (by decide) fun cdv A outer s H E G hr hw hT => ?_
  subst hT
  have hu := hr.units
  have hu1 := Nat.lt_of_le_of_lt (Nat.add_le_add_left (by decide : 1 ≤ 64) _) hr.units
  have nd := sc_within.nd
  exact (xs_one (xs_ret (xe_callB call_lenD rfl g.len_ bo_len (xl_cons (xe_fz (xn_lc1 rfl nd (own := [("one", 2), ("other", 3)]) (g := (gTup K 2 (gAll [2, 3]))) (T := (tgT [2, 3])) (xi_any (xe_var 0 (pv 0))) (blkOk_by (own := [("one", 2), ("other", 3)]) (N := N_within) (sc := defScope s_within) (by decide +kernel)) (fun _ _ _ _ _ => (pg_tup rfl (pgs_cons (pg_name (i := 2) nd rfl (by first | exact Or.inl rfl | exact Or.inr rfl)) (pgs_cons (pg_name (i := 3) nd rfl (by first | exact Or.inl rfl | exact Or.inr rfl)) pgs_nil)))) (tgk_tup (by simp)) (by simp [GC.pr, hw]) (fun _ _ _ _ _ _ _ => (PW.pt (xw_and (xt_cmp (op_inD hu) (xe_var 2 (pv 2)) (xe_var 1 (pv 1)) rfl) (xw_and1 (xt_cmp (op_inD hu) (xe_var 3 (pv 3)) (xe_var 1 (pv 1)) rfl))))) (fun _ _ _ _ _ _ _ => xe_int))) xl_nil))))
abbrev s_is_lot : Stmt := top 24
abbrev N_is_lot : List Str := ["class_", "value", "one", "other", "number"]
theorem sc_is_lot : FnScope N_is_lot ["class_", "value"] (defScope s_is_lot) := ⟨rfl, rfl, rfl, by decide +kernel, rfl, by decide +kernel, by decide +kernel⟩
def B_is_lot : Sv := (sSeq (sIf (tOrF (tNotF (tV (eUn (dIsi "tuple") (eV 1)))) (tOrF (tV (eBin dEq (eV 1) (eTup lNil))) (tNotF (tV (eCB dAll (lCons (eFz (nLc (iAny (eV 1)) (tgN 4) tYesF (eCall f_is_whole (lCons (eV 4) lNil)) [4])) lNil))))))
  (sRet (eK (.bl false)))
  sNop)
  (sSeq (sIf (tNotF (tV (eCB dAll (lCons (eFz (nLc (iAny (eV 1)) (tgN 4) tYesF (eChain dLe dLt (eK (.int 0)) (eV 4) (eCB dLen (lCons (eBin dIx (eV 0) (eK (.int 2))) lNil))) [4])) lNil))))
  (sRet (eK (.bl false)))
  sNop)
  (sRet (eCB dAll (lCons (eFz (nLc (iCall dZip (lCons (eV 1) (lCons (eSl (eV 1) (poS (eK (.int 1))) poN) lNil))) (tgT [2, 3]) tYesF (eBin dLt (eV 2) (eV 3)) [2, 3])) lNil)))))
def f_is_lot : Fn := fun ss => noEx (runDef 5 (B_is_lot) ss)
theorem ok_is_lot (g : Gs mg) (F_is_whole : Fnc P w K mg base CX0 "is_whole" 1 ["value"] (spF K T 1 [] f_is_whole)) {f : Addr} {fd : FuncData} (F : FnP K "is_lot" s_is_lot f fd) :
    FnOk P w K mg base CX0 2 f fd ["class_", "value"] (spF K T 2 [] f_is_lot) := by
  refine defP F sc_is_lot rfl (by decide) fun cdv A outer s H E G hr hw hT => ?_
  subst hT
  have hu := hr.units
  have hu1 := Nat.lt_of_le_of_lt (Nat.add_le_add_left (by decide : 1 ≤ 64) _) hr.units
  have nd := sc_is_lot.nd
  exact (xs_cons (xs_if (PW.pt (xw_or (xt_not (xt_val (xe_isi rfl g.isinstance_ (xe_var 1 (pv 1)) (pe_bltn (v := .ty "tuple") rfl g.tuple_ bo_tuple rfl)))) (xw_or (xt_cmp (op_eqD hu) (xe_var 1 (pv 1)) (xe_tup xl_nil) rfl) (xw_or1 (xt_not (xt_val (xe_callB (call_allD rfl) rfl g.all_ bo_all (xl_cons (xe_fz (xn_lc0 rfl nd (own := [("number", 4)]) (g := (gName 4)) (T := (tgN 4)) (xi_any (xe_var 1 (pv 1))) (blkOk_by (own := [("number", 4)]) (N := N_is_lot) (sc := defScope s_is_lot) (by decide +kernel)) (fun _ _ _ _ _ => (pg_name (i := 4) nd rfl (by first | exact Or.inl rfl | exact Or.inr rfl))) (tgk_name (by simp)) (by simp [GC.pr, hw]) (fun _ _ _ _ _ _ _ => (xe_callF F_is_whole (hr.mono (by decide)) rfl C8.pass0 (xl_cons (xe_var 4 (pv 4)) xl_nil) (lCons_len lNil_len))))) xl_nil))))))))
    (xs_one (xs_ret xe_bl))
    xs_nil)
    (xs_cons (xs_if (xt_not (xt_val (xe_callB (call_allD rfl) rfl g.all_ bo_all (xl_cons (xe_fz (xn_lc0 rfl nd (own := [("number", 4)]) (g := (gName 4)) (T := (tgN 4)) (xi_any (xe_var 1 (pv 1))) (blkOk_by (own := [("number", 4)]) (N := N_is_lot) (sc := defScope s_is_lot) (by decide +kernel)) (fun _ _ _ _ _ => (pg_name (i := 4) nd rfl (by first | exact Or.inl rfl | exact Or.inr rfl))) (tgk_name (by simp)) (by simp [GC.pr, hw]) (fun _ _ _ _ _ _ _ => (xe_chain op_leD (op_ltD hu) xe_int (xe_var 4 (pv 4)) (xe_callB call_lenD rfl g.len_ bo_len (xl_cons (xe_ix (xe_var 0 (pv 0)) xe_int) xl_nil)))))) xl_nil))))
    (xs_one (xs_ret xe_bl))
    xs_nil)
    (xs_one (xs_ret (xe_callB (call_allD rfl) rfl g.all_ bo_all (xl_cons (xe_fz (xn_lc0 rfl nd (own := [("one", 2), ("other", 3)]) (g := (gTup K 2 (gAll [2, 3]))) (T := (tgT [2, 3])) (xi_zip rfl g.zip_ (xl_cons (xe_var 1 (pv 1)) (xl_cons (xe_sl (xe_var 1 (pv 1)) (xo_some xe_int) xo_none) xl_nil))) (blkOk_by (own := [("one", 2), ("other", 3)]) (N := N_is_lot) (sc := defScope s_is_lot) (by decide +kernel)) (fun _ _ _ _ _ => (pg_tup rfl (pgs_cons (pg_name (i := 2) nd rfl (by first | exact Or.inl rfl | exact Or.inr rfl)) (pgs_cons (pg_name (i := 3) nd rfl (by first | exact Or.inl rfl | exact Or.inr rfl)) pgs_nil)))) (tgk_tup (by simp)) (by simp [GC.pr, hw]) (fun _ _ _ _ _ _ _ => (xe_cmp (op_ltD hu) (xe_var 2 (pv 2)) (xe_var 3 (pv 3)) rfl)))) xl_nil))))))
abbrev s_need_lot : Stmt := top 25
abbrev N_need_lot : List Str := ["class_", "numbers"]
theorem sc_need_lot : FnScope N_need_lot ["class_", "numbers"] (defScope s_need_lot) := ⟨rfl, rfl, rfl, by decide +kernel, rfl, by decide +kernel, by decide +kernel⟩
def B_need_lot (c : Cls0) : Sv := (sIf (tNotF (tV (eCall f_is_lot (lCons (eV 0) (lCons (eV 1) lNil)))))
  (sRaise c.BadNumbers)
  sNop)
def f_need_lot (c : Cls0) : Fn := fun ss => runDef 2 (B_need_lot c) ss
theorem ok_need_lot {c : Cls0} (cF : ClsF c P K mg base T) (g : Gs mg) (F_is_lot : Fnc P w K mg base CX0 "is_lot" 2 ["class_", "value"] (spF K T 2 [] f_is_lot)) {f : Addr} {fd : FuncData} (F : FnP K "need_lot" s_need_lot f fd) :
    FnOk P w K mg base (L2.CX P w) 3 f fd ["class_", "numbers"] (spF K T 2 [] (f_need_lot c)) := by
  refine defPX F sc_need_lot rfl (by decide) fun cdv A outer s H E G hr hw hT tk => ?_
  subst hT
  have hu := hr.units
  have hu1 := Nat.lt_of_le_of_lt (Nat.add_le_add_left (by decide : 1 ≤ 64) _) hr.units
  have nd := sc_need_lot.nd
  exact (xs_one (xs_if (xt_not (xt_val (xe_callF F_is_lot (hr.mono (by decide)) rfl C8.pass0 (xl_cons (xe_var 0 (pv 0)) (xl_cons (xe_var 1 (pv 1)) xl_nil)) (lCons_len (lCons_len lNil_len)))))
    (xs_one (xs_raise rfl tk cF.ra_BadNumbers cF.m_BadNumbers rfl))
    xs_nil))
abbrev s_edges : Stmt := top 26
abbrev N_edges : List Str := ["class_"]
theorem sc_edges : FnScope N_edges ["class_"] (defScope s_edges) := ⟨rfl, rfl, rfl, by decide +kernel, rfl, by decide +kernel, by decide +kernel⟩
def B_edges (c : Cls0) : Sv := (sSeq (sExpr (eCall (f_need_class c) (lCons (eV 0) lNil)))
  (sRet (eCB dTuple (lCons (eCall f_edge_list (lCons (eV 0) lNil)) lNil))))
def f_edges (c : Cls0) : Fn := fun ss => runDef 1 (B_edges c) ss
theorem ok_edges {c : Cls0} (cF : ClsF c P K mg base T) (g : Gs mg) (F_need_class : Fnc P w K mg base (L2.CX P w) "need_class" 4 ["class_"] (spF K T 1 [] (f_need_class c))) (F_edge_list : Fnc P w K mg base CX0 "edge_list" 2 ["class_"] (spF K T 1 [] f_edge_list)) {f : Addr} {fd : FuncData} (F : FnP K "edges" s_edges f fd) :
    FnOk P w K mg base (L2.CX P w) 5 f fd ["class_"] (spF K T 1 [] (f_edges c)) := by
  refine defPX F sc_edges rfl (by decide) fun cdv A outer s H E G hr hw hT tk => ?_
  subst hT
  have hu := hr.units
  have hu1 := Nat.lt_of_le_of_lt (Nat.add_le_add_left (by decide : 1 ≤ 64) _) hr.units
  have nd := sc_edges.nd
  exact (xs_cons (xs_expr (xe_callF F_need_class (hr.mono (by decide)) rfl (passX tk) (xl_cons (xe_var 0 (pv 0)) xl_nil) (lCons_len lNil_len)))
    (xs_one (xs_ret (xe_callTy call_tupleD rfl g.tuple_ bo_tuple (xl_cons (xe_callF F_edge_list (hr.mono (by decide)) rfl C8.pass0 (xl_cons (xe_var 0 (pv 0)) xl_nil) (lCons_len lNil_len)) xl_nil)))))
abbrev s_edges_at : Stmt := top 27
abbrev N_edges_at : List Str := ["class_", "number", "at", "pair"]
theorem sc_edges_at : FnScope N_edges_at ["class_", "number"] (defScope s_edges_at) := ⟨rfl, rfl, rfl, by decide +kernel, rfl, by decide +kernel, by decide +kernel⟩
def B_edges_at (c : Cls0) : Sv := (sSeq (sExpr (eCall (f_need_class c) (lCons (eV 0) lNil)))
  (sSeq (sExpr (eCall (f_need_row c) (lCons (eV 0) (lCons (eV 1) (lCons (eK (.str "number")) lNil)))))
  (sRet (eCB dTuple (lCons (eFz (nLc (iCall dEnum (lCons (eCall f_pairs_of (lCons (eV 0) lNil)) lNil)) (tgT [2, 3]) (tV (eBin dIn (eV 1) (eV 3))) (eV 2) [2, 3])) lNil)))))
def f_edges_at (c : Cls0) : Fn := fun ss => runDef 4 (B_edges_at c) ss
theorem ok_edges_at {c : Cls0} (cF : ClsF c P K mg base T) (g : Gs mg) (F_need_class : Fnc P w K mg base (L2.CX P w) "need_class" 4 ["class_"] (spF K T 1 [] (f_need_class c))) (F_need_row : Fnc P w K mg base (L2.CX P w) "need_row" 4 ["class_", "number", "part"] (spF K T 3 [] (f_need_row c))) (F_pairs_of : Fnc P w K mg base CX0 "pairs_of" 3 ["class_"] (spF K T 1 [] f_pairs_of)) {f : Addr} {fd : FuncData} (F : FnP K "edges_at" s_edges_at f fd) :
    FnOk P w K mg base (L2.CX P w) 5 f fd ["class_", "number"] (spF K T 2 [] (f_edges_at c)) := by
  refine defPX F sc_edges_at rfl (by decide) fun cdv A outer s H E G hr hw hT tk => ?_
  subst hT
  have hu := hr.units
  have hu1 := Nat.lt_of_le_of_lt (Nat.add_le_add_left (by decide : 1 ≤ 64) _) hr.units
  have nd := sc_edges_at.nd
  exact (xs_cons (xs_expr (xe_callF F_need_class (hr.mono (by decide)) rfl (passX tk) (xl_cons (xe_var 0 (pv 0)) xl_nil) (lCons_len lNil_len)))
    (xs_cons (xs_expr (xe_callF F_need_row (hr.mono (by decide)) rfl (passX tk) (xl_cons (xe_var 0 (pv 0)) (xl_cons (xe_var 1 (pv 1)) (xl_cons xe_str xl_nil))) (lCons_len (lCons_len (lCons_len lNil_len)))))
    (xs_one (xs_ret (xe_callTy call_tupleD rfl g.tuple_ bo_tuple (xl_cons (xe_fz (xn_lc1 rfl nd (own := [("at", 2), ("pair", 3)]) (g := (gTup K 2 (gAll [2, 3]))) (T := (tgT [2, 3])) (xi_enum rfl g.enumerate_ (xl_cons (xe_callF F_pairs_of (hr.mono (by decide)) rfl C8.pass0 (xl_cons (xe_var 0 (pv 0)) xl_nil) (lCons_len lNil_len)) xl_nil)) (blkOk_by (own := [("at", 2), ("pair", 3)]) (N := N_edges_at) (sc := defScope s_edges_at) (by decide +kernel)) (fun _ _ _ _ _ => (pg_tup rfl (pgs_cons (pg_name (i := 2) nd rfl (by first | exact Or.inl rfl | exact Or.inr rfl)) (pgs_cons (pg_name (i := 3) nd rfl (by first | exact Or.inl rfl | exact Or.inr rfl)) pgs_nil)))) (tgk_tup (by simp)) (by simp [GC.pr, hw]) (fun _ _ _ _ _ _ _ => (xt_cmp (op_inD hu) (xe_var 1 (pv 1)) (xe_var 3 (pv 3)) rfl)) (fun _ _ _ _ _ _ _ => (xe_var 2 (pv 2))))) xl_nil))))))
abbrev s_edges_within : Stmt := top 28
abbrev N_edges_within : List Str := ["class_", "numbers"]
theorem sc_edges_within : FnScope N_edges_within ["class_", "numbers"] (defScope s_edges_within) := ⟨rfl, rfl, rfl, by decide +kernel, rfl, by decide +kernel, by decide +kernel⟩
def B_edges_within (c : Cls0) : Sv := (sSeq (sExpr (eCall (f_need_class c) (lCons (eV 0) lNil)))
  (sSeq (sExpr (eCall (f_need_lot c) (lCons (eV 0) (lCons (eV 1) lNil))))
  (sRet (eCall f_within (lCons (eCall f_pairs_of (lCons (eV 0) lNil)) (lCons (eV 1) lNil))))))
def f_edges_within (c : Cls0) : Fn := fun ss => runDef 2 (B_edges_within c) ss
theorem ok_edges_within {c : Cls0} (cF : ClsF c P K mg base T) (g : Gs mg) (F_need_class : Fnc P w K mg base (L2.CX P w) "need_class" 4 ["class_"] (spF K T 1 [] (f_need_class c))) (F_pairs_of : Fnc P w K mg base CX0 "pairs_of" 3 ["class_"] (spF K T 1 [] f_pairs_of)) (F_within : Fnc P w K mg base CX0 "within" 1 ["pairs", "numbers"] (spF K T 2 [] f_within)) (F_need_lot : Fnc P w K mg base (L2.CX P w) "need_lot" 3 ["class_", "numbers"] (spF K T 2 [] (f_need_lot c))) {f : Addr} {fd : FuncData} (F : FnP K "edges_within" s_edges_within f fd) :
    FnOk P w K mg base (L2.CX P w) 5 f fd ["class_", "numbers"] (spF K T 2 [] (f_edges_within c)) := by
  refine defPX F sc_edges_within rfl (by decide) fun cdv A outer s H E G hr hw hT tk => ?_
  subst hT
  have hu := hr.units
  have hu1 := Nat.lt_of_le_of_lt (Nat.add_le_add_left (by decide : 1 ≤ 64) _) hr.units
  have nd := sc_edges_within.nd
  exact (xs_cons (xs_expr (xe_callF F_need_class (hr.mono (by decide)) rfl (passX tk) (xl_cons (xe_var 0 (pv 0)) xl_nil) (lCons_len lNil_len)))
    (xs_cons (xs_expr (xe_callF F_need_lot (hr.mono (by decide)) rfl (passX tk) (xl_cons (xe_var 0 (pv 0)) (xl_cons (xe_var 1 (pv 1)) xl_nil)) (lCons_len (lCons_len lNil_len))))
    (xs_one (xs_ret (xe_callF F_within (hr.mono (by decide)) rfl C8.pass0 (xl_cons (xe_callF F_pairs_of (hr.mono (by decide)) rfl C8.pass0 (xl_cons (xe_var 0 (pv 0)) xl_nil) (lCons_len lNil_len)) (xl_cons (xe_var 1 (pv 1)) xl_nil)) (lCons_len (lCons_len lNil_len)))))))
abbrev s__law_begun : Stmt := top 30
abbrev N__law_begun : List Str := ["script", "great", "cell"]
theorem sc__law_begun : FnScope N__law_begun ["script"] (defScope s__law_begun) := ⟨rfl, rfl, rfl, by decide +kernel, rfl, by decide +kernel, by decide +kernel⟩
def f__law_begun : List D → Option DrS := begunF 3 (sNew 1 (nLc (iAny (eV 0)) (tgN 2) (tV (eBin dGe (eCB dAbs (lCons (eV 2) lNil)) (eBin dPow (eK (.int 10)) (eK (.int 18))))) (eBin dSub (eCB dAbs (lCons (eV 2) lNil)) (eBin dPow (eK (.int 10)) (eK (.int 18)))) [2])) 1 (eFz (nLc (iAny (eV 0)) (tgN 2) tYesF (eCB dAbs (lCons (eV 2) lNil)) [2]))
theorem ok__law_begun (g : Gs mg) {f : Addr} {fd : FuncData} (F : FnP K "_law_begun" s__law_begun f fd) :
    FnOk P w K mg base CX0 1 f fd ["script"] (spDr K T 1 f__law_begun) := by
  refine defBegun F sc__law_begun rfl (by decide) fun cdv A outer s H E G hr hw hT => ?_
  subst hT
  have hu := hr.units
  have hu1 := Nat.lt_of_le_of_lt (Nat.add_le_add_left (by decide : 1 ≤ 64) _) hr.units
  have nd := sc__law_begun.nd
  exact (begun_seq (xs_newLc1 (i := 1) (own := [("cell", 2)]) (g := (gName 2)) (T := (tgN 2)) rfl nd rfl rfl (by simp [GC.pr, hw]) (sw_true rfl rfl rfl (by decide +kernel))  (xi_any (xe_var 0 (pv 0))) (blkOk_by (own := [("cell", 2)]) (N := N__law_begun) (sc := defScope s__law_begun) (by decide +kernel)) (fun _ _ _ _ _ => (pg_name (i := 2) nd rfl (by first | exact Or.inl rfl | exact Or.inr rfl))) (tgk_name (by simp)) (by simp [GC.pr, hw]) (fun _ _ _ _ _ _ _ => (xt_cmp op_geD (xe_callB call_absD rfl g.abs_ bo_abs (xl_cons (xe_var 2 (pv 2)) xl_nil)) (xe_bin op_powD xe_int xe_int) rfl)) (fun _ _ _ _ _ _ _ => (xe_bin op_subD (xe_callB call_absD rfl g.abs_ bo_abs (xl_cons (xe_var 2 (pv 2)) xl_nil)) (xe_bin op_powD xe_int xe_int)))) (xs_retDr (i := 1) (pv 1) (fun _ _ => (xe_fz (xn_lc0 rfl nd (own := [("cell", 2)]) (g := (gName 2)) (T := (tgN 2)) (xi_any (xe_var 0 (pv 0))) (blkOk_by (own := [("cell", 2)]) (N := N__law_begun) (sc := defScope s__law_begun) (by decide +kernel)) (fun _ _ _ _ _ => (pg_name (i := 2) nd rfl (by first | exact Or.inl rfl | exact Or.inr rfl))) (tgk_name (by simp)) (by simp [GC.pr, hw]) (fun _ _ _ _ _ _ _ => (xe_callB call_absD rfl g.abs_ bo_abs (xl_cons (xe_var 2 (pv 2)) xl_nil))))))))
abbrev s__law_blended : Stmt := top 31
abbrev N__law_blended : List Str := ["state", "turn", "found", "prime", "blend", "cell"]
theorem sc__law_blended : FnScope N__law_blended ["state"] (defScope s__law_blended) := ⟨rfl, rfl, rfl, by decide +kernel, rfl, by decide +kernel, by decide +kernel⟩
def B__law_blended : Sv := (sSeq (sPar 1 2 (lCons (eBin dAdd (eDrTurn 0) (eK (.int 1))) (lCons (eK (.int 0)) lNil)))
  (sSeq (sDrTurn 0 (eV 1))
  (sSeq (sFor (iAny (eLst (lCons (eK (.int 2147483579)) (lCons (eK (.int 2147483629)) (lCons (eK (.int 2147483563)) lNil))))) (tgN 3)
  (sSeq (sSet 4 (eBin dAdd (eBin dMulW (eK (.int 48271)) (eV 1)) (eBin dFdiv (eV 3) (eK (.int 53)))))
  (sSeq (sFor (iAny (eDrCells 0)) (tgN 5)
  (sSet 4 (eBin dMod (eCB dInt (lCons (eBin dAdd (eBin dAdd (eBin dMulW (eV 4) (eK (.int 69621))) (eV 5)) (eV 1)) lNil)) (eV 3))))
  (sSet 2 (eBin dAdd (eBin dMulW (eV 2) (eK (.int 2147483647))) (eBin dMod (eCB dInt (lCons (eBin dPow (eV 4) (eK (.int 5))) lNil)) (eV 3)))))))
  (sRet (eV 2)))))
def f__law_blended : Fn := fun ss => noEx (runDef 6 (B__law_blended) ss)
theorem ok__law_blended (g : Gs mg) {f : Addr} {fd : FuncData} (F : FnP K "_law_blended" s__law_blended f fd) :
    FnOk P w K mg base CX0 1 f fd ["state"] (spF K T 1 [0] f__law_blended) := by
  refine defP F sc__law_blended rfl (by decide) fun cdv A outer s H E G hr hw hT => ?_
  subst hT
  have hu := hr.units
  have hu1 := Nat.lt_of_le_of_lt (Nat.add_le_add_left (by decide : 1 ≤ 64) _) hr.units
  have nd := sc__law_blended.nd
  exact (xs_cons (xs_par (i := 1) (j := 2) rfl nd rfl rfl (by decide) rfl rfl (xl_cons (xe_bin op_addD (xe_drTurn (i := 0) hu1 (pv 0)) xe_int) (xl_cons xe_int xl_nil)) ⟨(by simp [GC.pr, hw]), (by simp [GC.pr, hw])⟩ rfl)
    (xs_cons (xs_drTurn (i := 0) hu1 (pv 0) (xe_var 1 (pv 1)))
    (xs_cons (xs_for PassesOwn.never rfl (xi_any (xe_lst (xl_cons xe_int (xl_cons xe_int (xl_cons xe_int xl_nil))))) (tgt_name (i := 3) (pg_name nd rfl (.inl rfl)) (by simp [GC.pr, hw]))
    (xs_cons (xs_set (i := 4) nd rfl (.inl rfl) (xe_bin op_addD (xe_bin op_mulD xe_int (xe_var 1 (pv 1))) (xe_bin op_fdivD (xe_var 3 (pv 3)) xe_int)) (by simp [GC.pr, hw]))
    (xs_cons (xs_for PassesOwn.never rfl (xi_any (xe_drCells (i := 0) hu1 (pv 0))) (tgt_name (i := 5) (pg_name nd rfl (.inl rfl)) (by simp [GC.pr, hw]))
    (xs_one (xs_set (i := 4) nd rfl (.inl rfl) (xe_bin op_modD (xe_callTy call_intD rfl g.int_ bo_int (xl_cons (xe_bin op_addD (xe_bin op_addD (xe_bin op_mulD (xe_var 4 (pv 4)) xe_int) (xe_var 5 (pv 5))) (xe_var 1 (pv 1))) xl_nil)) (xe_var 3 (pv 3))) (by simp [GC.pr, hw]))))
    (xs_one (xs_set (i := 2) nd rfl (.inl rfl) (xe_bin op_addD (xe_bin op_mulD (xe_var 2 (pv 2)) xe_int) (xe_bin op_modD (xe_callTy call_intD rfl g.int_ bo_int (xl_cons (xe_bin op_powD (xe_var 4 (pv 4)) xe_int) xl_nil)) (xe_var 3 (pv 3)))) (by simp [GC.pr, hw]))))))
    (xs_one (xs_ret (xe_var 2 (pv 2)))))))
abbrev s__law_draw : Stmt := top 32
abbrev N__law_draw : List Str := ["state", "room", "found"]
theorem sc__law_draw : FnScope N__law_draw ["state", "room"] (defScope s__law_draw) := ⟨rfl, rfl, rfl, by decide +kernel, rfl, by decide +kernel, by decide +kernel⟩
def B__law_draw : Sv := (sSeq (sIf (tV (eBin dEq (eDrRest 0) (eK (.int 0))))
  (sDrRest 0 (eIf (tV (eDrNe 0)) (eDrPop 0) (eCall1 0 f__law_blended lNil)))
  sNop)
  (sSeq (sSet 2 (eBin dMod (eCB dInt (lCons (eDrRest 0) lNil)) (eV 1)))
  (sSeq (sDrRest 0 (eBin dFdiv (eDrRest 0) (eV 1)))
  (sRet (eV 2)))))
def f__law_draw : Fn := fun ss => noEx (runDef 3 (B__law_draw) ss)
theorem ok__law_draw (g : Gs mg) (F__law_blended : Fnc P w K mg base CX0 "_law_blended" 1 ["state"] (spF K T 1 [0] f__law_blended)) {f : Addr} {fd : FuncData} (F : FnP K "_law_draw" s__law_draw f fd) :
    FnOk P w K mg base CX0 2 f fd ["state", "room"] (spF K T 2 [0] f__law_draw) := by
  refine defP F sc__law_draw rfl (by decide) fun cdv A outer s H E G hr hw hT => ?_
  subst hT
  have hu := hr.units
  have hu1 := Nat.lt_of_le_of_lt (Nat.add_le_add_left (by decide : 1 ≤ 64) _) hr.units
  have nd := sc__law_draw.nd
  exact (xs_cons (xs_if (xt_cmp (op_eqD hu) (xe_drRest (i := 0) hu1 (pv 0)) xe_int rfl)
    (xs_one (xs_drRest (i := 0) hu1 (pv 0) (xe_if (xt_drNe (i := 0) hu (pv 0)) (xe_drPop (i := 0) hu1 (pv 0)) (xe_callF1 (i := 0) F__law_blended (hr.mono (by decide)) rfl C8.pass0 (pv 0) xl_nil lNil_len))))
    xs_nil)
    (xs_cons (xs_set (i := 2) nd rfl (.inl rfl) (xe_bin op_modD (xe_callTy call_intD rfl g.int_ bo_int (xl_cons (xe_drRest (i := 0) hu1 (pv 0)) xl_nil)) (xe_var 1 (pv 1))) (by simp [GC.pr, hw]))
    (xs_cons (xs_drRest (i := 0) hu1 (pv 0) (xe_bin op_fdivD (xe_drRest (i := 0) hu1 (pv 0)) (xe_var 1 (pv 1))))
    (xs_one (xs_ret (xe_var 2 (pv 2)))))))
abbrev s__law_pick : Stmt := top 33
abbrev N__law_pick : List Str := ["state", "some"]
theorem sc__law_pick : FnScope N__law_pick ["state", "some"] (defScope s__law_pick) := ⟨rfl, rfl, rfl, by decide +kernel, rfl, by decide +kernel, by decide +kernel⟩
def B__law_pick : Sv := (sRet (eBin dIx (eV 1) (eCall1 0 f__law_draw (lCons (eCB dLen (lCons (eV 1) lNil)) lNil))))
def f__law_pick : Fn := fun ss => noEx (runDef 2 (B__law_pick) ss)
theorem ok__law_pick (g : Gs mg) (F__law_draw : Fnc P w K mg base CX0 "_law_draw" 2 ["state", "room"] (spF K T 2 [0] f__law_draw)) {f : Addr} {fd : FuncData} (F : FnP K "_law_pick" s__law_pick f fd) :
    FnOk P w K mg base CX0 3 f fd ["state", "some"] (spF K T 2 [0] f__law_pick) := by
  refine defP F sc__law_pick rfl (by decide) fun cdv A outer s H E G hr hw hT => ?_
  subst hT
  have hu := hr.units
  have hu1 := Nat.lt_of_le_of_lt (Nat.add_le_add_left (by decide : 1 ≤ 64) _) hr.units
  have nd := sc__law_pick.nd
  exact (xs_one (xs_ret (xe_ix (xe_var 1 (pv 1)) (xe_callF1 (i := 0) F__law_draw (hr.mono (by decide)) rfl C8.pass0 (pv 0) (xl_cons (xe_callB call_lenD rfl g.len_ bo_len (xl_cons (xe_var 1 (pv 1)) xl_nil)) xl_nil) (lCons_len lNil_len)))))
abbrev s__law_shuffled : Stmt := top 34
abbrev N__law_shuffled : List Str := ["state", "some", "left", "found"]
theorem sc__law_shuffled : FnScope N__law_shuffled ["state", "some"] (defScope s__law_shuffled) := ⟨rfl, rfl, rfl, by decide +kernel, rfl, by decide +kernel, by decide +kernel⟩
def B__law_shuffled : Sv := (sSeq (sParNN 2 3 (nList (eV 1)) (nLst lNil))
  (sSeq (sWhile (tV (eONe 2 (eLst lNil)))
  (sExpr (eApp 3 (ePopAt 2 (eCall1 0 f__law_draw (lCons (eOLen 2) lNil))))))
  (sRet (eTake 3))))
def f__law_shuffled : Fn := fun ss => noEx (runDef 4 (B__law_shuffled) ss)
theorem ok__law_shuffled (g : Gs mg) (F__law_draw : Fnc P w K mg base CX0 "_law_draw" 2 ["state", "room"] (spF K T 2 [0] f__law_draw)) {f : Addr} {fd : FuncData} (F : FnP K "_law_shuffled" s__law_shuffled f fd) :
    FnOk P w K mg base CX0 3 f fd ["state", "some"] (spF K T 2 [0] f__law_shuffled) := by
  refine defP F sc__law_shuffled rfl (by decide) fun cdv A outer s H E G hr hw hT => ?_
  subst hT
  have hu := hr.units
  have hu1 := Nat.lt_of_le_of_lt (Nat.add_le_add_left (by decide : 1 ≤ 64) _) hr.units
  have nd := sc__law_shuffled.nd
  exact (xs_cons (xs_parNN (i := 2) (j := 3) rfl nd rfl rfl (by decide) rfl rfl (xn_list rfl rfl g.list_ (xe_var 1 (pv 1))) (fun _ _ => (xn_lst xl_nil)) ⟨(by simp [GC.pr, hw]), (by simp [GC.pr, hw])⟩ rfl)
    (xs_cons (xs_while PassesOwn.never (xt_one_ne (i := 2) hu (pv 2) (xe_lst xl_nil) rfl)
    (xs_one (xs_expr (xe_append (i := 3) (pv 3) (xe_popAt (i := 2) (pv 2) (xe_callF1 (i := 0) F__law_draw (hr.mono (by decide)) rfl C8.pass0 (pv 0) (xl_cons (xe_olen (i := 2) rfl g.len_ (pv 2)) xl_nil) (lCons_len lNil_len)))))))
    (xs_one (xs_ret (xe_take (by simp [GC.pr, hw]) (pv 3))))))
abbrev s__law_is_truth : Stmt := top 36
abbrev N__law_is_truth : List Str := ["found", "due"]
theorem sc__law_is_truth : FnScope N__law_is_truth ["found", "due"] (defScope s__law_is_truth) := ⟨rfl, rfl, rfl, by decide +kernel, rfl, by decide +kernel, by decide +kernel⟩
def B__law_is_truth : Sv := (sRet (eIf (tV (eV 1)) (eBin dIs (eV 0) (eK (.bl true))) (eBin dIs (eV 0) (eK (.bl false)))))
def f__law_is_truth : Fn := fun ss => noEx (runDef 2 (B__law_is_truth) ss)
theorem ok__law_is_truth (g : Gs mg) {f : Addr} {fd : FuncData} (F : FnP K "_law_is_truth" s__law_is_truth f fd) :
    FnOk P w K mg base CX0 1 f fd ["found", "due"] (spF K T 2 [] f__law_is_truth) := by
  refine defP F sc__law_is_truth rfl (by decide) fun cdv A outer s H E G hr hw hT => ?_
  subst hT
  have hu := hr.units
  have hu1 := Nat.lt_of_le_of_lt (Nat.add_le_add_left (by decide : 1 ≤ 64) _) hr.units
  have nd := sc__law_is_truth.nd
  exact (xs_one (xs_ret (xe_if (xt_val (xe_var 1 (pv 1))) (xe_cmp op_isD (xe_var 0 (pv 0)) xe_bl rfl) (xe_cmp op_isD (xe_var 0 (pv 0)) xe_bl rfl))))
abbrev s__law_same : Stmt := top 37
abbrev N__law_same : List Str := ["found", "due", "waiting", "one", "other", "alike", "key", "left", "right"]
theorem sc__law_same : FnScope N__law_same ["found", "due"] (defScope s__law_same) := ⟨rfl, rfl, rfl, by decide +kernel, rfl, by decide +kernel, by decide +kernel⟩
def B__law_same : Sv := (sSeq (sNew 2 (nLst (lCons (eTup (lCons (eV 0) (lCons (eV 1) lNil))) lNil)))
  (sSeq (sWhile (tV (eONe 2 (eLst lNil)))
  (sSeq (sAsg (tgT [3, 4]) (ePop 2))
  (sIf (tOrF (tV (eBin dIs (eV 4) (eK .non))) (tV (eUn (dIsi "bool") (eV 4))))
  (sIf (tIfF (tV (eBin dIs (eV 4) (eK .non))) (tV (eBin dIsNot (eV 3) (eK .non))) (tNotF (tV (eCall f__law_is_truth (lCons (eV 3) (lCons (eV 4) lNil))))))
  (sRet (eK (.bl false)))
  sNop)
  (sIf (tV (eUn (dIsiT ["int", "str"]) (eV 4)))
  (sIf (tOrF (tV (eUn (dIsi "bool") (eV 3))) (tOrF (tV (eBin dNe (eUn (dIsi "int") (eV 3)) (eUn (dIsi "int") (eV 4)))) (tV (eBin dNe (eV 3) (eV 4)))))
  (sRet (eK (.bl false)))
  sNop)
  (sIf (tV (eUn (dIsi "dict") (eV 4)))
  (sSeq (sIf (tOrF (tNotF (tV (eUn (dIsi "dict") (eV 3)))) (tV (eBin dNe (eFz (nList (eV 3))) (eFz (nList (eV 4))))))
  (sRet (eK (.bl false)))
  sNop)
  (sSeq (sExpr (eExt 2 nBad))
  (sExpr (eExt 2 (nLc (iAny (eV 4)) (tgN 6) tYesF (eTup (lCons (eBin dIx (eV 3) (eV 6)) (lCons (eBin dIx (eV 4) (eV 6)) lNil))) [6])))))
  (sSeq (sSet 5 (eLst (lCons (eAnd (eUn (dIsi "tuple") (eV 3)) (eUn (dIsi "tuple") (eV 4))) (lCons (eAnd (eUn (dIsi "list") (eV 3)) (eUn (dIsi "list") (eV 4))) lNil))))
  (sSeq (sIf (tOrF (tV (eBin dNotIn (eK (.bl true)) (eV 5))) (tV (eBin dNe (eCB dLen (lCons (eV 3) lNil)) (eCB dLen (lCons (eV 4) lNil)))))
  (sRet (eK (.bl false)))
  sNop)
  (sExpr (eExt 2 (nLc (iCall dZip (lCons (eV 3) (lCons (eV 4) lNil))) (tgT [7, 8]) tYesF (eTup (lCons (eV 7) (lCons (eV 8) lNil))) [7, 8]))))))))))
  (sRet (eK (.bl true)))))
def f__law_same : Fn := fun ss => noEx (runDef 9 (B__law_same) ss)
theorem ok__law_same (g : Gs mg) (F__law_is_truth : Fnc P w K mg base CX0 "_law_is_truth" 1 ["found", "due"] (spF K T 2 [] f__law_is_truth)) {f : Addr} {fd : FuncData} (F : FnP K "_law_same" s__law_same f fd) :
    FnOk P w K mg base CX0 2 f fd ["found", "due"] (spF K T 2 [] f__law_same) := by
  refine defP F sc__law_same rfl (by decide) fun cdv A outer s H E G hr hw hT => ?_
  subst hT
  have hu := hr.units
  have hu1 := Nat.lt_of_le_of_lt (Nat.add_le_add_left (by decide : 1 ≤ 64) _) hr.units
  have nd := sc__law_same.nd
  exact (xs_cons (xs_new (i := 2) nd rfl (.inl rfl) (xn_lst (xl_cons (xe_tup (xl_cons (xe_var 0 (pv 0)) (xl_cons (xe_var 1 (pv 1)) xl_nil))) xl_nil)) (by simp [GC.pr, hw]))
    (xs_cons (xs_while PassesOwn.never (xt_one_ne (i := 2) hu (pv 2) (xe_lst xl_nil) rfl)
    (xs_cons (xs_asg (xe_pop (i := 2) (pv 2)) (tgt_tup (is := [3, 4]) (pg_tup rfl (pgs_cons (pg_name (i := 3) nd rfl (.inr rfl)) (pgs_cons (pg_name (i := 4) nd rfl (.inr rfl)) pgs_nil))) (by simp [GC.pr, hw])))
    (xs_one (xs_if (PW.pt (xw_or (xt_cmp op_isD (xe_var 4 (pv 4)) xe_non rfl) (xw_or1 (xt_val (xe_isi rfl g.isinstance_ (xe_var 4 (pv 4)) (pe_bltn (v := .ty "bool") rfl g.bool_ bo_bool rfl))))))
    (xs_one (xs_if (xt_if (xt_cmp op_isD (xe_var 4 (pv 4)) xe_non rfl) (xt_cmp op_isNotD (xe_var 3 (pv 3)) xe_non rfl) (xt_not (xt_val (xe_callF F__law_is_truth (hr.mono (by decide)) rfl C8.pass0 (xl_cons (xe_var 3 (pv 3)) (xl_cons (xe_var 4 (pv 4)) xl_nil)) (lCons_len (lCons_len lNil_len))))))
    (xs_one (xs_ret xe_bl))
    xs_nil))
    (xs_one (xs_if (xt_val (xe_isiT rfl g.isinstance_ (xe_var 4 (pv 4)) (pe_bltn (v := .ty "int") rfl g.int_ bo_int rfl) (pe_bltn (v := .ty "str") rfl g.str_ bo_str rfl)))
    (xs_one (xs_if (PW.pt (xw_or (xt_val (xe_isi rfl g.isinstance_ (xe_var 3 (pv 3)) (pe_bltn (v := .ty "bool") rfl g.bool_ bo_bool rfl))) (xw_or (xt_cmp (op_neD hu) (xe_isi rfl g.isinstance_ (xe_var 3 (pv 3)) (pe_bltn (v := .ty "int") rfl g.int_ bo_int rfl)) (xe_isi rfl g.isinstance_ (xe_var 4 (pv 4)) (pe_bltn (v := .ty "int") rfl g.int_ bo_int rfl)) rfl) (xw_or1 (xt_cmp (op_neD hu) (xe_var 3 (pv 3)) (xe_var 4 (pv 4)) rfl)))))
    (xs_one (xs_ret xe_bl))
    xs_nil))
    (xs_one (xs_if (xt_val (xe_isi rfl g.isinstance_ (xe_var 4 (pv 4)) (pe_bltn (v := .ty "dict") rfl g.dict_ bo_dict rfl)))
    (xs_cons (xs_if (PW.pt (xw_or (xt_not (xt_val (xe_isi rfl g.isinstance_ (xe_var 3 (pv 3)) (pe_bltn (v := .ty "dict") rfl g.dict_ bo_dict rfl)))) (xw_or1 (xt_cmp (op_neD hu) (xe_fz (xn_list rfl rfl g.list_ (xe_var 3 (pv 3)))) (xe_fz (xn_list rfl rfl g.list_ (xe_var 4 (pv 4)))) rfl))))
    (xs_one (xs_ret xe_bl))
    xs_nil)
    (xs_cons (xs_expr (xe_extend (i := 2) (pv 2) xn_bad))
    (xs_one (xs_expr (xe_extend (i := 2) (pv 2) (xn_lc0 rfl nd (own := [("key", 6)]) (g := (gName 6)) (T := (tgN 6)) (xi_any (xe_var 4 (pv 4))) (blkOk_by (own := [("key", 6)]) (N := N__law_same) (sc := defScope s__law_same) (by decide +kernel)) (fun _ _ _ _ _ => (pg_name (i := 6) nd rfl (by first | exact Or.inl rfl | exact Or.inr rfl))) (tgk_name (by simp)) (by simp [GC.pr, hw]) (fun _ _ _ _ _ _ _ => (xe_tup (xl_cons (xe_ix (xe_var 3 (pv 3)) (xe_var 6 (pv 6))) (xl_cons (xe_ix (xe_var 4 (pv 4)) (xe_var 6 (pv 6))) xl_nil))))))))))
    (xs_cons (xs_set (i := 5) nd rfl (.inl rfl) (xe_lst (xl_cons (xe_and (xe_isi rfl g.isinstance_ (xe_var 3 (pv 3)) (pe_bltn (v := .ty "tuple") rfl g.tuple_ bo_tuple rfl)) (xe_one (xe_isi rfl g.isinstance_ (xe_var 4 (pv 4)) (pe_bltn (v := .ty "tuple") rfl g.tuple_ bo_tuple rfl)))) (xl_cons (xe_and (xe_isi rfl g.isinstance_ (xe_var 3 (pv 3)) (pe_bltn (v := .ty "list") rfl g.list_ bo_list rfl)) (xe_one (xe_isi rfl g.isinstance_ (xe_var 4 (pv 4)) (pe_bltn (v := .ty "list") rfl g.list_ bo_list rfl)))) xl_nil))) (by simp [GC.pr, hw]))
    (xs_cons (xs_if (PW.pt (xw_or (xt_cmp (op_notInD hu) xe_bl (xe_var 5 (pv 5)) rfl) (xw_or1 (xt_cmp (op_neD hu) (xe_callB call_lenD rfl g.len_ bo_len (xl_cons (xe_var 3 (pv 3)) xl_nil)) (xe_callB call_lenD rfl g.len_ bo_len (xl_cons (xe_var 4 (pv 4)) xl_nil)) rfl))))
    (xs_one (xs_ret xe_bl))
    xs_nil)
    (xs_one (xs_expr (xe_extend (i := 2) (pv 2) (xn_lc0 rfl nd (own := [("left", 7), ("right", 8)]) (g := (gTup K 2 (gAll [7, 8]))) (T := (tgT [7, 8])) (xi_zip rfl g.zip_ (xl_cons (xe_var 3 (pv 3)) (xl_cons (xe_var 4 (pv 4)) xl_nil))) (blkOk_by (own := [("left", 7), ("right", 8)]) (N := N__law_same) (sc := defScope s__law_same) (by decide +kernel)) (fun _ _ _ _ _ => (pg_tup rfl (pgs_cons (pg_name (i := 7) nd rfl (by first | exact Or.inl rfl | exact Or.inr rfl)) (pgs_cons (pg_name (i := 8) nd rfl (by first | exact Or.inl rfl | exact Or.inr rfl)) pgs_nil)))) (tgk_tup (by simp)) (by simp [GC.pr, hw]) (fun _ _ _ _ _ _ _ => (xe_tup (xl_cons (xe_var 7 (pv 7)) (xl_cons (xe_var 8 (pv 8)) xl_nil))))))))))))))))))
    (xs_one (xs_ret xe_bl))))
abbrev s__law_words : Stmt := top 38
abbrev N__law_words : List Str := ["draws", "many", "found", "word", "lap"]
theorem sc__law_words : FnScope N__law_words ["draws", "many"] (defScope s__law_words) := ⟨rfl, rfl, rfl, by decide +kernel, rfl, by decide +kernel, by decide +kernel⟩
def B__law_words : Sv := (sSeq (sSet 2 (eLst lNil))
  (sSeq (sWhile (tV (eBin dLt (eCB dLen (lCons (eV 2) lNil)) (eV 1)))
  (sSeq (sSet 3 (eJoin (eK (.str "")) (eFz (nLc (iCall dRng1 (lCons (eBin dAdd (eK (.int 1)) (eCall1 0 f__law_draw (lCons (eK (.int 8)) lNil))) lNil)) (tgN 4) tYesF (eCall1 0 f__law_pick (lCons (eFz (nList (eK (.str "abcdefghijklmnopqrstuvwxyz")))) lNil)) [4]))))
  (sSet 2 (eBin dAdd (eV 2) (eIf (tV (eBin dNotIn (eV 3) (eV 2))) (eLst (lCons (eV 3) lNil)) (eIf (tAndF (tV (eBin dNotIn (eBin dAdd (eSl (eV 3) poN (poS (eK (.int 1)))) (eBin dMulW (eK (.str "q")) (eCB dLen (lCons (eV 2) lNil)))) (eV 2))) (tV (eBin dLt (eCB dLen (lCons (eV 2) lNil)) (eK (.int 8))))) (eLst (lCons (eBin dAdd (eSl (eV 3) poN (poS (eK (.int 1)))) (eBin dMulW (eK (.str "q")) (eCB dLen (lCons (eV 2) lNil)))) lNil)) (eLst lNil)))))))
  (sRet (eCB dSorted (lCons (eV 2) lNil)))))
def f__law_words : Fn := fun ss => noEx (runDef 5 (B__law_words) ss)
theorem ok__law_words (g : Gs mg) (F__law_draw : Fnc P w K mg base CX0 "_law_draw" 2 ["state", "room"] (spF K T 2 [0] f__law_draw)) (F__law_pick : Fnc P w K mg base CX0 "_law_pick" 3 ["state", "some"] (spF K T 2 [0] f__law_pick)) {f : Addr} {fd : FuncData} (F : FnP K "_law_words" s__law_words f fd) :
    FnOk P w K mg base CX0 4 f fd ["draws", "many"] (spF K T 2 [0] f__law_words) := by
  refine defP F sc__law_words rfl (by decide) fun cdv A outer s H E G hr hw hT => ?_
  subst hT
  have hu := hr.units
  have hu1 := Nat.lt_of_le_of_lt (Nat.add_le_add_left (by decide : 1 ≤ 64) _) hr.units
  have nd := sc__law_words.nd
  exact (xs_cons (xs_set (i := 2) nd rfl (.inl rfl) (xe_lst xl_nil) (by simp [GC.pr, hw]))
    (xs_cons (xs_while PassesOwn.never (xt_cmp (op_ltD hu) (xe_callB call_lenD rfl g.len_ bo_len (xl_cons (xe_var 2 (pv 2)) xl_nil)) (xe_var 1 (pv 1)) rfl)
    (xs_cons (xs_set (i := 3) nd rfl (.inl rfl) (xe_join xe_str (xe_fz (xn_lc0 rfl nd (own := [("lap", 4)]) (g := (gName 4)) (T := (tgN 4)) (xi_rng1 rfl g.range_ (xl_cons (xe_bin op_addD xe_int (xe_callF1 (i := 0) F__law_draw (hr.mono (by decide)) rfl C8.pass0 (pv 0) (xl_cons xe_int xl_nil) (lCons_len lNil_len))) xl_nil)) (blkOk_by (own := [("lap", 4)]) (N := N__law_words) (sc := defScope s__law_words) (by decide +kernel)) (fun _ _ _ _ _ => (pg_name (i := 4) nd rfl (by first | exact Or.inl rfl | exact Or.inr rfl))) (tgk_name (by simp)) (by simp [GC.pr, hw]) (fun _ _ _ _ _ _ _ => (xe_callF1 (i := 0) F__law_pick (hr.mono (by decide)) rfl C8.pass0 (pv 0) (xl_cons (xe_fz (xn_list rfl rfl g.list_ xe_str)) xl_nil) (lCons_len lNil_len)))))) (by simp [GC.pr, hw]))
    (xs_one (xs_set (i := 2) nd rfl (.inl rfl) (xe_bin op_addD (xe_var 2 (pv 2)) (xe_if (xt_cmp (op_notInD hu) (xe_var 3 (pv 3)) (xe_var 2 (pv 2)) rfl) (xe_lst (xl_cons (xe_var 3 (pv 3)) xl_nil)) (xe_if (PW.pt (xw_and (xt_cmp (op_notInD hu) (xe_bin op_addD (xe_sl (xe_var 3 (pv 3)) xo_none (xo_some xe_int)) (xe_bin op_mulD xe_str (xe_callB call_lenD rfl g.len_ bo_len (xl_cons (xe_var 2 (pv 2)) xl_nil)))) (xe_var 2 (pv 2)) rfl) (xw_and1 (xt_cmp (op_ltD hu) (xe_callB call_lenD rfl g.len_ bo_len (xl_cons (xe_var 2 (pv 2)) xl_nil)) xe_int rfl)))) (xe_lst (xl_cons (xe_bin op_addD (xe_sl (xe_var 3 (pv 3)) xo_none (xo_some xe_int)) (xe_bin op_mulD xe_str (xe_callB call_lenD rfl g.len_ bo_len (xl_cons (xe_var 2 (pv 2)) xl_nil)))) xl_nil)) (xe_lst xl_nil)))) (by simp [GC.pr, hw])))))
    (xs_one (xs_ret (xe_callB (call_sortedD hu) rfl g.sorted_ bo_sorted (xl_cons (xe_var 2 (pv 2)) xl_nil))))))
abbrev s__law_class : Stmt := top 39
abbrev N__law_class : List Str := ["draws", "points", "rows", "words", "many", "way", "found", "low", "base", "cube", "at", "lap", "cut", "one", "word", "row", "high"]
theorem sc__law_class : FnScope N__law_class ["draws", "points", "rows"] (defScope s__law_class) := ⟨rfl, rfl, rfl, by decide +kernel, rfl, by decide +kernel, by decide +kernel⟩
def B__law_class : Sv := (sSeq (sSet 3 (eCB dTuple (lCons (eCall1 0 f__law_words (lCons (eBin dAdd (eK (.int 1)) (eCall1 0 f__law_draw (lCons (eV 1) lNil))) lNil)) lNil)))
  (sSeq (sAsg (tgT [4, 5]) (eTup (lCons (eCB dLen (lCons (eV 3) lNil)) (lCons (eCall1 0 f__law_draw (lCons (eK (.int 7)) lNil)) lNil))))
  (sSeq (sSet 6 (eFz (nLc (iCall dRng1 (lCons (eBin dAdd (eK (.int 1)) (eCall1 0 f__law_draw (lCons (eV 2) lNil))) lNil)) (tgN 11) tYesF (eCB dTuple (lCons (eFz (nLc (iAny (eV 3)) (tgN 14) tYesF (eCall1 0 f__law_draw (lCons (eK (.int 2)) lNil)) [14])) lNil)) [11])))
  (sSeq (sIf (tV (eBin dEq (eV 5) (eK (.int 1))))
  (sSet 6 (eFz (nLc (iCall dRng1 (lCons (eBin dAdd (eV 4) (eK (.int 1))) lNil)) (tgN 12) tYesF (eCB dTuple (lCons (eFz (nLc (iCall dRng1 (lCons (eV 4) lNil)) (tgN 10) tYesF (eIf (tV (eBin dLt (eV 10) (eV 12))) (eK (.int 1)) (eK (.int 0))) [10])) lNil)) [12])))
  sNop)
  (sSeq (sIf (tV (eBin dEq (eV 5) (eK (.int 2))))
  (sSet 6 (eFz (nLc (iCall dRng1 (lCons (eBin dAdd (eV 4) (eK (.int 1))) lNil)) (tgN 13) tYesF (eCB dTuple (lCons (eFz (nLc (iCall dRng1 (lCons (eV 4) lNil)) (tgN 10) tYesF (eIf (tV (eBin dEq (eV 10) (eV 13))) (eK (.int 1)) (eK (.int 0))) [10])) lNil)) [13])))
  sNop)
  (sSeq (sIf (tV (eBin dEq (eV 5) (eK (.int 3))))
  (sSeq (sFor (iCall dRng1 (lCons (eBin dAdd (eV 4) (eK (.int 1))) lNil)) (tgN 7)
  (sSet 6 (eBin dAdd (eV 6) (eFz (nLc (iCall dRng1 (lCons (eBin dAdd (eV 7) (eK (.int 1))) lNil)) (tgN 16) tYesF (eCB dTuple (lCons (eFz (nLc (iCall dRng1 (lCons (eV 4) lNil)) (tgN 10) tYesF (eIf (tV (eChain dLe dLt (eV 16) (eV 10) (eV 7))) (eK (.int 1)) (eK (.int 0))) [10])) lNil)) [16])))))
  (sSet 6 (eSl (eV 6) (poS (eK (.int 1))) poN)))
  sNop)
  (sSeq (sIf (tV (eBin dEq (eV 5) (eK (.int 4))))
  (sSeq (sSet 8 (eBin dIx (eV 6) (eK (.int 0))))
  (sSet 6 (eBin dAdd (eV 6) (eFz (nLc (iCall dRng1 (lCons (eV 4) lNil)) (tgN 10) tYesF (eBin dAdd (eBin dAdd (eSl (eV 8) poN (poS (eV 10))) (eTup (lCons (eBin dSub (eK (.int 1)) (eBin dIx (eV 8) (eV 10))) lNil))) (eSl (eV 8) (poS (eBin dAdd (eV 10) (eK (.int 1)))) poN)) [10])))))
  sNop)
  (sSeq (sIf (tV (eBin dEq (eV 5) (eK (.int 5))))
  (sSeq (sSet 9 (eLst (lCons (eTup lNil) lNil)))
  (sSeq (sFor (iCall dRng1 (lCons (eCB dMin2 (lCons (eV 4) (lCons (eK (.int 4)) lNil))) lNil)) (tgN 10)
  (sSet 9 (eBin dAdd (eFz (nLc (iAny (eV 9)) (tgN 15) tYesF (eBin dAdd (eV 15) (eTup (lCons (eK (.int 0)) lNil))) [15])) (eFz (nLc (iAny (eV 9)) (tgN 15) tYesF (eBin dAdd (eV 15) (eTup (lCons (eK (.int 1)) lNil))) [15])))))
  (sSet 6 (eBin dAdd (eFz (nLc (iAny (eV 9)) (tgN 15) tYesF (eBin dAdd (eV 15) (eBin dMulW (eTup (lCons (eK (.int 0)) lNil)) (eBin dSub (eV 4) (eCB dLen (lCons (eV 15) lNil))))) [15])) (eSl (eV 6) poN (poS (eK (.int 2))))))))
  sNop)
  (sSeq (sSet 6 (eSl (eCall1 0 f__law_shuffled (lCons (eCB dSortSet (lCons (eV 6) lNil)) lNil)) poN (poS (eV 2))))
  (sRet (eTup (lCons (eK (.str "class")) (lCons (eV 3) (lCons (eCB dTuple (lCons (eCB dSorted (lCons (eV 6) lNil)) lNil)) lNil))))))))))))))
def f__law_class : Fn := fun ss => noEx (runDef 17 (B__law_class) ss)
theorem ok__law_class (g : Gs mg) (F__law_draw : Fnc P w K mg base CX0 "_law_draw" 2 ["state", "room"] (spF K T 2 [0] f__law_draw)) (F__law_shuffled : Fnc P w K mg base CX0 "_law_shuffled" 3 ["state", "some"] (spF K T 2 [0] f__law_shuffled)) (F__law_words : Fnc P w K mg base CX0 "_law_words" 4 ["draws", "many"] (spF K T 2 [0] f__law_words)) {f : Addr} {fd : FuncData} (F : FnP K "_law_class" s__law_class f fd) :
    FnOk P w K mg base CX0 5 f fd ["draws", "points", "rows"] (spF K T 3 [0] f__law_class) := by
  refine defP F sc__law_class rfl (by decide) fun cdv A outer s H E G hr hw hT => ?_
  subst hT
  have hu := hr.units
  have hu1 := Nat.lt_of_le_of_lt (Nat.add_le_add_left (by decide : 1 ≤ 64) _) hr.units
  have nd := sc__law_class.nd
  exact (xs_cons (xs_set (i := 3) nd rfl (.inr rfl) (xe_callTy call_tupleD rfl g.tuple_ bo_tuple (xl_cons (xe_callF1 (i := 0) F__law_words (hr.mono (by decide)) rfl C8.pass0 (pv 0) (xl_cons (xe_bin op_addD xe_int (xe_callF1 (i := 0) F__law_draw (hr.mono (by decide)) rfl C8.pass0 (pv 0) (xl_cons (xe_var 1 (pv 1)) xl_nil) (lCons_len lNil_len))) xl_nil) (lCons_len lNil_len)) xl_nil)) (by simp [GC.pr, hw]))
    (xs_cons (xs_asg (xe_tup (xl_cons (xe_callB call_lenD rfl g.len_ bo_len (xl_cons (xe_var 3 (pv 3)) xl_nil)) (xl_cons (xe_callF1 (i := 0) F__law_draw (hr.mono (by decide)) rfl C8.pass0 (pv 0) (xl_cons xe_int xl_nil) (lCons_len lNil_len)) xl_nil))) (tgt_tup (is := [4, 5]) (pg_tup rfl (pgs_cons (pg_name (i := 4) nd rfl (.inr rfl)) (pgs_cons (pg_name (i := 5) nd rfl (.inl rfl)) pgs_nil))) (by simp [GC.pr, hw])))
    (xs_cons (xs_setLc0 (i := 6) (own := [("lap", 11)]) (g := (gName 11)) (T := (tgN 11)) rfl nd rfl rfl (by simp [GC.pr, hw]) (sw_true rfl rfl rfl (by decide +kernel))  (xi_rng1 rfl g.range_ (xl_cons (xe_bin op_addD xe_int (xe_callF1 (i := 0) F__law_draw (hr.mono (by decide)) rfl C8.pass0 (pv 0) (xl_cons (xe_var 2 (pv 2)) xl_nil) (lCons_len lNil_len))) xl_nil)) (blkOk_by (own := [("lap", 11)]) (N := N__law_class) (sc := defScope s__law_class) (by decide +kernel)) (fun _ _ _ _ _ => (pg_name (i := 11) nd rfl (by first | exact Or.inl rfl | exact Or.inr rfl))) (tgk_name (by simp)) (by simp [GC.pr, hw]) (fun _ _ _ _ _ _ _ => (xe_callTy call_tupleD rfl g.tuple_ bo_tuple (xl_cons (xe_fz (xn_lc0 rfl nd (own := [("word", 14)]) (g := (gName 14)) (T := (tgN 14)) (xi_any (xe_var 3 (pv 3))) (blkOk_by (by first | kernel_rfl | rfl)) (fun _ _ _ _ _ => (pg_name (i := 14) nd rfl (by first | exact Or.inl rfl | exact Or.inr rfl))) (tgk_name (by simp)) (by simp [GC.pr, hw]) (fun _ _ _ _ _ _ _ => (xe_callF1 (i := 0) F__law_draw (hr.mono (by decide)) rfl C8.pass0 (pv 0) (xl_cons xe_int xl_nil) (lCons_len lNil_len))))) xl_nil))))
    (xs_cons (xs_if (xt_cmp (op_eqD hu) (xe_var 5 (pv 5)) xe_int rfl)
    (xs_one (xs_setLc0 (i := 6) (own := [("cut", 12)]) (g := (gName 12)) (T := (tgN 12)) rfl nd rfl rfl (by simp [GC.pr, hw]) (sw_true rfl rfl rfl (by decide +kernel))  (xi_rng1 rfl g.range_ (xl_cons (xe_bin op_addD (xe_var 4 (pv 4)) xe_int) xl_nil)) (blkOk_by (own := [("cut", 12)]) (N := N__law_class) (sc := defScope s__law_class) (by decide +kernel)) (fun _ _ _ _ _ => (pg_name (i := 12) nd rfl (by first | exact Or.inl rfl | exact Or.inr rfl))) (tgk_name (by simp)) (by simp [GC.pr, hw]) (fun _ _ _ _ _ _ _ => (xe_callTy call_tupleD rfl g.tuple_ bo_tuple (xl_cons (xe_fz (xn_lc0 rfl nd (own := [("at", 10)]) (g := (gName 10)) (T := (tgN 10)) (xi_rng1 rfl g.range_ (xl_cons (xe_var 4 (pv 4)) xl_nil)) (blkOk_by (by first | kernel_rfl | rfl)) (fun _ _ _ _ _ => (pg_name (i := 10) nd rfl (by first | exact Or.inl rfl | exact Or.inr rfl))) (tgk_name (by simp)) (by simp [GC.pr, hw]) (fun _ _ _ _ _ _ _ => (xe_if (xt_cmp (op_ltD hu) (xe_var 10 (pv 10)) (xe_var 12 (pv 12)) rfl) xe_int xe_int)))) xl_nil)))))
    xs_nil)
    (xs_cons (xs_if (xt_cmp (op_eqD hu) (xe_var 5 (pv 5)) xe_int rfl)
    (xs_one (xs_setLc0 (i := 6) (own := [("one", 13)]) (g := (gName 13)) (T := (tgN 13)) rfl nd rfl rfl (by simp [GC.pr, hw]) (sw_true rfl rfl rfl (by decide +kernel))  (xi_rng1 rfl g.range_ (xl_cons (xe_bin op_addD (xe_var 4 (pv 4)) xe_int) xl_nil)) (blkOk_by (own := [("one", 13)]) (N := N__law_class) (sc := defScope s__law_class) (by decide +kernel)) (fun _ _ _ _ _ => (pg_name (i := 13) nd rfl (by first | exact Or.inl rfl | exact Or.inr rfl))) (tgk_name (by simp)) (by simp [GC.pr, hw]) (fun _ _ _ _ _ _ _ => (xe_callTy call_tupleD rfl g.tuple_ bo_tuple (xl_cons (xe_fz (xn_lc0 rfl nd (own := [("at", 10)]) (g := (gName 10)) (T := (tgN 10)) (xi_rng1 rfl g.range_ (xl_cons (xe_var 4 (pv 4)) xl_nil)) (blkOk_by (by first | kernel_rfl | rfl)) (fun _ _ _ _ _ => (pg_name (i := 10) nd rfl (by first | exact Or.inl rfl | exact Or.inr rfl))) (tgk_name (by simp)) (by simp [GC.pr, hw]) (fun _ _ _ _ _ _ _ => (xe_if (xt_cmp (op_eqD hu) (xe_var 10 (pv 10)) (xe_var 13 (pv 13)) rfl) xe_int xe_int)))) xl_nil)))))
    xs_nil)
    (xs_cons (xs_if (xt_cmp (op_eqD hu) (xe_var 5 (pv 5)) xe_int rfl)
    (xs_cons (xs_for PassesOwn.never rfl (xi_rng1 rfl g.range_ (xl_cons (xe_bin op_addD (xe_var 4 (pv 4)) xe_int) xl_nil)) (tgt_name (i := 7) (pg_name nd rfl (.inr rfl)) (by simp [GC.pr, hw]))
    (xs_one (xs_set (i := 6) nd rfl (.inl rfl) (xe_bin op_addD (xe_var 6 (pv 6)) (xe_fz (xn_lc0 rfl nd (own := [("high", 16)]) (g := (gName 16)) (T := (tgN 16)) (xi_rng1 rfl g.range_ (xl_cons (xe_bin op_addD (xe_var 7 (pv 7)) xe_int) xl_nil)) (blkOk_by (own := [("high", 16)]) (N := N__law_class) (sc := defScope s__law_class) (by decide +kernel)) (fun _ _ _ _ _ => (pg_name (i := 16) nd rfl (by first | exact Or.inl rfl | exact Or.inr rfl))) (tgk_name (by simp)) (by simp [GC.pr, hw]) (fun _ _ _ _ _ _ _ => (xe_callTy call_tupleD rfl g.tuple_ bo_tuple (xl_cons (xe_fz (xn_lc0 rfl nd (own := [("at", 10)]) (g := (gName 10)) (T := (tgN 10)) (xi_rng1 rfl g.range_ (xl_cons (xe_var 4 (pv 4)) xl_nil)) (blkOk_by (by first | kernel_rfl | rfl)) (fun _ _ _ _ _ => (pg_name (i := 10) nd rfl (by first | exact Or.inl rfl | exact Or.inr rfl))) (tgk_name (by simp)) (by simp [GC.pr, hw]) (fun _ _ _ _ _ _ _ => (xe_if (xt_chain op_leD (op_ltD hu) (xe_var 16 (pv 16)) (xe_var 10 (pv 10)) (xe_var 7 (pv 7))) xe_int xe_int)))) xl_nil)))))) (by simp [GC.pr, hw]))))
    (xs_one (xs_set (i := 6) nd rfl (.inl rfl) (xe_sl (xe_var 6 (pv 6)) (xo_some xe_int) xo_none) (by simp [GC.pr, hw]))))
    xs_nil)
    (xs_cons (xs_if (xt_cmp (op_eqD hu) (xe_var 5 (pv 5)) xe_int rfl)
    (xs_cons (xs_set (i := 8) nd rfl (.inr rfl) (xe_ix (xe_var 6 (pv 6)) xe_int) (by simp [GC.pr, hw]))
    (xs_one (xs_set (i := 6) nd rfl (.inl rfl) (xe_bin op_addD (xe_var 6 (pv 6)) (xe_fz (xn_lc0 rfl nd (own := [("at", 10)]) (g := (gName 10)) (T := (tgN 10)) (xi_rng1 rfl g.range_ (xl_cons (xe_var 4 (pv 4)) xl_nil)) (blkOk_by (own := [("at", 10)]) (N := N__law_class) (sc := defScope s__law_class) (by decide +kernel)) (fun _ _ _ _ _ => (pg_name (i := 10) nd rfl (by first | exact Or.inl rfl | exact Or.inr rfl))) (tgk_name (by simp)) (by simp [GC.pr, hw]) (fun _ _ _ _ _ _ _ => (xe_bin op_addD (xe_bin op_addD (xe_sl (xe_var 8 (pv 8)) xo_none (xo_some (xe_var 10 (pv 10)))) (xe_tup (xl_cons (xe_bin op_subD xe_int (xe_ix (xe_var 8 (pv 8)) (xe_var 10 (pv 10)))) xl_nil))) (xe_sl (xe_var 8 (pv 8)) (xo_some (xe_bin op_addD (xe_var 10 (pv 10)) xe_int)) xo_none)))))) (by simp [GC.pr, hw]))))
    xs_nil)
    (xs_cons (xs_if (xt_cmp (op_eqD hu) (xe_var 5 (pv 5)) xe_int rfl)
    (xs_cons (xs_set (i := 9) nd rfl (.inl rfl) (xe_lst (xl_cons (xe_tup xl_nil) xl_nil)) (by simp [GC.pr, hw]))
    (xs_cons (xs_for PassesOwn.never rfl (xi_rng1 rfl g.range_ (xl_cons (xe_callB (call_min2D rfl) rfl g.min_ bo_min (xl_cons (xe_var 4 (pv 4)) (xl_cons xe_int xl_nil))) xl_nil)) (tgt_name (i := 10) (pg_name nd rfl (.inl rfl)) (by simp [GC.pr, hw]))
    (xs_one (xs_set (i := 9) nd rfl (.inl rfl) (xe_bin op_addD (xe_fz (xn_lc0 rfl nd (own := [("row", 15)]) (g := (gName 15)) (T := (tgN 15)) (xi_any (xe_var 9 (pv 9))) (blkOk_by (own := [("row", 15)]) (N := N__law_class) (sc := defScope s__law_class) (by decide +kernel)) (fun _ _ _ _ _ => (pg_name (i := 15) nd rfl (by first | exact Or.inl rfl | exact Or.inr rfl))) (tgk_name (by simp)) (by simp [GC.pr, hw]) (fun _ _ _ _ _ _ _ => (xe_bin op_addD (xe_var 15 (pv 15)) (xe_tup (xl_cons xe_int xl_nil)))))) (xe_fz (xn_lc0 rfl nd (own := [("row", 15)]) (g := (gName 15)) (T := (tgN 15)) (xi_any (xe_var 9 (pv 9))) (blkOk_by (own := [("row", 15)]) (N := N__law_class) (sc := defScope s__law_class) (by decide +kernel)) (fun _ _ _ _ _ => (pg_name (i := 15) nd rfl (by first | exact Or.inl rfl | exact Or.inr rfl))) (tgk_name (by simp)) (by simp [GC.pr, hw]) (fun _ _ _ _ _ _ _ => (xe_bin op_addD (xe_var 15 (pv 15)) (xe_tup (xl_cons xe_int xl_nil))))))) (by simp [GC.pr, hw]))))
    (xs_one (xs_set (i := 6) nd rfl (.inl rfl) (xe_bin op_addD (xe_fz (xn_lc0 rfl nd (own := [("row", 15)]) (g := (gName 15)) (T := (tgN 15)) (xi_any (xe_var 9 (pv 9))) (blkOk_by (own := [("row", 15)]) (N := N__law_class) (sc := defScope s__law_class) (by decide +kernel)) (fun _ _ _ _ _ => (pg_name (i := 15) nd rfl (by first | exact Or.inl rfl | exact Or.inr rfl))) (tgk_name (by simp)) (by simp [GC.pr, hw]) (fun _ _ _ _ _ _ _ => (xe_bin op_addD (xe_var 15 (pv 15)) (xe_bin op_mulD (xe_tup (xl_cons xe_int xl_nil)) (xe_bin op_subD (xe_var 4 (pv 4)) (xe_callB call_lenD rfl g.len_ bo_len (xl_cons (xe_var 15 (pv 15)) xl_nil)))))))) (xe_sl (xe_var 6 (pv 6)) xo_none (xo_some xe_int))) (by simp [GC.pr, hw])))))
    xs_nil)
    (xs_cons (xs_set (i := 6) nd rfl (.inl rfl) (xe_sl (xe_callF1 (i := 0) F__law_shuffled (hr.mono (by decide)) rfl C8.pass0 (pv 0) (xl_cons (xe_sortSet rfl hu rfl g.sorted_ rfl g.set_ (xl_cons (xe_var 6 (pv 6)) xl_nil)) xl_nil) (lCons_len lNil_len)) xo_none (xo_some (xe_var 2 (pv 2)))) (by simp [GC.pr, hw]))
    (xs_one (xs_ret (xe_tup (xl_cons xe_str (xl_cons (xe_var 3 (pv 3)) (xl_cons (xe_callTy call_tupleD rfl g.tuple_ bo_tuple (xl_cons (xe_callB (call_sortedD hu) rfl g.sorted_ bo_sorted (xl_cons (xe_var 6 (pv 6)) xl_nil)) xl_nil)) xl_nil)))))))))))))))
abbrev s__law_odd : Stmt := top 40
abbrev N__law_odd : List Str := ["draws", "some"]
theorem sc__law_odd : FnScope N__law_odd ["draws"] (defScope s__law_odd) := ⟨rfl, rfl, rfl, by decide +kernel, rfl, by decide +kernel, by decide +kernel⟩
def B__law_odd : Sv := (sSeq (sSet 1 (eLst (lCons (eK .non) (lCons (eK (.bl true)) (lCons (eK (.int 0)) (lCons (eK (.int 5)) (lCons (eK (.str "")) (lCons (eK (.str "class")) (lCons (eTup lNil) (lCons (eLst lNil) (lCons eD0 (lCons (eTup (lCons (eTup (lCons (eK (.int 0)) (lCons (eK (.int 1)) lNil))) (lCons (eTup (lCons (eK (.int 1)) (lCons (eK (.int 1)) lNil))) lNil))) (lCons (eTup (lCons (eK (.str "class")) lNil)) (lCons (eTup (lCons (eK (.str "class")) (lCons (eTup lNil) lNil))) (lCons (eTup (lCons (eK (.str "class")) (lCons (eTup lNil) (lCons (eTup lNil) lNil)))) lNil)))))))))))))))
  (sRet (eCall1 0 f__law_pick (lCons (eBin dAdd (eV 1) (eLst (lCons (eTup (lCons (eK (.str "class")) (lCons (eTup (lCons (eK (.str "a")) lNil)) (lCons (eTup lNil) lNil)))) (lCons (eTup (lCons (eK (.str "class")) (lCons (eTup (lCons (eK (.str "a")) lNil)) (lCons (eTup (lCons (eTup (lCons (eK (.int 0)) lNil)) (lCons (eTup (lCons (eK (.int 0)) lNil)) lNil))) lNil)))) (lCons (eTup (lCons (eK (.str "class")) (lCons (eTup (lCons (eK (.str "a")) lNil)) (lCons (eTup (lCons (eTup (lCons (eK (.int 1)) lNil)) (lCons (eTup (lCons (eK (.int 0)) lNil)) lNil))) lNil)))) (lCons (eTup (lCons (eK (.str "class")) (lCons (eTup (lCons (eK (.str "a")) lNil)) (lCons (eLst (lCons (eTup (lCons (eK (.int 0)) lNil)) lNil)) lNil)))) lNil)))))) lNil))))
def f__law_odd : Fn := fun ss => noEx (runDef 2 (B__law_odd) ss)
theorem ok__law_odd (g : Gs mg) (F__law_pick : Fnc P w K mg base CX0 "_law_pick" 3 ["state", "some"] (spF K T 2 [0] f__law_pick)) {f : Addr} {fd : FuncData} (F : FnP K "_law_odd" s__law_odd f fd) :
    FnOk P w K mg base CX0 4 f fd ["draws"] (spF K T 1 [0] f__law_odd) := by
  refine defP F sc__law_odd rfl (by decide) fun cdv A outer s H E G hr hw hT => ?_
  subst hT
  have hu := hr.units
  have hu1 := Nat.lt_of_le_of_lt (Nat.add_le_add_left (by decide : 1 ≤ 64) _) hr.units
  have nd := sc__law_odd.nd
  exact (xs_cons (xs_set (i := 1) nd rfl (.inl rfl) (xe_lst (xl_cons xe_non (xl_cons xe_bl (xl_cons xe_int (xl_cons xe_int (xl_cons xe_str (xl_cons xe_str (xl_cons (xe_tup xl_nil) (xl_cons (xe_lst xl_nil) (xl_cons xe_d0 (xl_cons (xe_tup (xl_cons (xe_tup (xl_cons xe_int (xl_cons xe_int xl_nil))) (xl_cons (xe_tup (xl_cons xe_int (xl_cons xe_int xl_nil))) xl_nil))) (xl_cons (xe_tup (xl_cons xe_str xl_nil)) (xl_cons (xe_tup (xl_cons xe_str (xl_cons (xe_tup xl_nil) xl_nil))) (xl_cons (xe_tup (xl_cons xe_str (xl_cons (xe_tup xl_nil) (xl_cons (xe_tup xl_nil) xl_nil)))) xl_nil)))))))))))))) (by simp [GC.pr, hw]))
    (xs_one (xs_ret (xe_callF1 (i := 0) F__law_pick (hr.mono (by decide)) rfl C8.pass0 (pv 0) (xl_cons (xe_bin op_addD (xe_var 1 (pv 1)) (xe_lst (xl_cons (xe_tup (xl_cons xe_str (xl_cons (xe_tup (xl_cons xe_str xl_nil)) (xl_cons (xe_tup xl_nil) xl_nil)))) (xl_cons (xe_tup (xl_cons xe_str (xl_cons (xe_tup (xl_cons xe_str xl_nil)) (xl_cons (xe_tup (xl_cons (xe_tup (xl_cons xe_int xl_nil)) (xl_cons (xe_tup (xl_cons xe_int xl_nil)) xl_nil))) xl_nil)))) (xl_cons (xe_tup (xl_cons xe_str (xl_cons (xe_tup (xl_cons xe_str xl_nil)) (xl_cons (xe_tup (xl_cons (xe_tup (xl_cons xe_int xl_nil)) (xl_cons (xe_tup (xl_cons xe_int xl_nil)) xl_nil))) xl_nil)))) (xl_cons (xe_tup (xl_cons xe_str (xl_cons (xe_tup (xl_cons xe_str xl_nil)) (xl_cons (xe_lst (xl_cons (xe_tup (xl_cons xe_int xl_nil)) xl_nil)) xl_nil)))) xl_nil)))))) xl_nil) (lCons_len lNil_len)))))
abbrev s__law_sh_labels : Stmt := top 41
abbrev N__law_sh_labels : List Str := ["many", "found", "lap", "labels"]
theorem sc__law_sh_labels : FnScope N__law_sh_labels ["many"] (defScope s__law_sh_labels) := ⟨rfl, rfl, rfl, by decide +kernel, rfl, by decide +kernel, by decide +kernel⟩
def B__law_sh_labels : Sv := (sSeq (sSet 1 (eLst (lCons (eTup lNil) lNil)))
  (sSeq (sFor (iCall dRng1 (lCons (eV 0) lNil)) (tgN 2)
  (sSet 1 (eBin dAdd (eFz (nLc (iAny (eV 1)) (tgN 3) tYesF (eBin dAdd (eV 3) (eTup (lCons (eK (.int 0)) lNil))) [3])) (eFz (nLc (iAny (eV 1)) (tgN 3) tYesF (eBin dAdd (eV 3) (eTup (lCons (eK (.int 1)) lNil))) [3])))))
  (sRet (eCB dSorted (lCons (eV 1) lNil)))))
def f__law_sh_labels : Fn := fun ss => noEx (runDef 4 (B__law_sh_labels) ss)
theorem ok__law_sh_labels (g : Gs mg) {f : Addr} {fd : FuncData} (F : FnP K "_law_sh_labels" s__law_sh_labels f fd) :
    FnOk P w K mg base CX0 1 f fd ["many"] (spF K T 1 [] f__law_sh_labels) := by
  refine defP F sc__law_sh_labels rfl (by decide) fun cdv A outer s H E G hr hw hT => ?_
  subst hT
  have hu := hr.units
  have hu1 := Nat.lt_of_le_of_lt (Nat.add_le_add_left (by decide : 1 ≤ 64) _) hr.units
  have nd := sc__law_sh_labels.nd
  exact (xs_cons (xs_set (i := 1) nd rfl (.inl rfl) (xe_lst (xl_cons (xe_tup xl_nil) xl_nil)) (by simp [GC.pr, hw]))
    (xs_cons (xs_for PassesOwn.never rfl (xi_rng1 rfl g.range_ (xl_cons (xe_var 0 (pv 0)) xl_nil)) (tgt_name (i := 2) (pg_name nd rfl (.inl rfl)) (by simp [GC.pr, hw]))
    (xs_one (xs_set (i := 1) nd rfl (.inl rfl) (xe_bin op_addD (xe_fz (xn_lc0 rfl nd (own := [("labels", 3)]) (g := (gName 3)) (T := (tgN 3)) (xi_any (xe_var 1 (pv 1))) (blkOk_by (own := [("labels", 3)]) (N := N__law_sh_labels) (sc := defScope s__law_sh_labels) (by decide +kernel)) (fun _ _ _ _ _ => (pg_name (i := 3) nd rfl (by first | exact Or.inl rfl | exact Or.inr rfl))) (tgk_name (by simp)) (by simp [GC.pr, hw]) (fun _ _ _ _ _ _ _ => (xe_bin op_addD (xe_var 3 (pv 3)) (xe_tup (xl_cons xe_int xl_nil)))))) (xe_fz (xn_lc0 rfl nd (own := [("labels", 3)]) (g := (gName 3)) (T := (tgN 3)) (xi_any (xe_var 1 (pv 1))) (blkOk_by (own := [("labels", 3)]) (N := N__law_sh_labels) (sc := defScope s__law_sh_labels) (by decide +kernel)) (fun _ _ _ _ _ => (pg_name (i := 3) nd rfl (by first | exact Or.inl rfl | exact Or.inr rfl))) (tgk_name (by simp)) (by simp [GC.pr, hw]) (fun _ _ _ _ _ _ _ => (xe_bin op_addD (xe_var 3 (pv 3)) (xe_tup (xl_cons xe_int xl_nil))))))) (by simp [GC.pr, hw]))))
    (xs_one (xs_ret (xe_callB (call_sortedD hu) rfl g.sorted_ bo_sorted (xl_cons (xe_var 1 (pv 1)) xl_nil))))))
abbrev s__law_sh_edges : Stmt := top 42
abbrev N__law_sh_edges : List Str := ["class_", "found", "one", "other", "apart", "at"]
theorem sc__law_sh_edges : FnScope N__law_sh_edges ["class_"] (defScope s__law_sh_edges) := ⟨rfl, rfl, rfl, by decide +kernel, rfl, by decide +kernel, by decide +kernel⟩
def B__law_sh_edges : Sv := (sSeq (sNew 1 (nLst lNil))
  (sSeq (sFor (iCall dRng1 (lCons (eCB dLen (lCons (eBin dIx (eV 0) (eK (.int 2))) lNil)) lNil)) (tgN 2)
  (sFor (iCall dRng2 (lCons (eBin dAdd (eV 2) (eK (.int 1))) (lCons (eCB dLen (lCons (eBin dIx (eV 0) (eK (.int 2))) lNil)) lNil))) (tgN 3)
  (sSeq (sSet 4 (eFz (nLc (iCall dRng1 (lCons (eCB dLen (lCons (eBin dIx (eV 0) (eK (.int 1))) lNil)) lNil)) (tgN 5) (tV (eBin dNe (eBin dIx (eBin dIx (eBin dIx (eV 0) (eK (.int 2))) (eV 2)) (eV 5)) (eBin dIx (eBin dIx (eBin dIx (eV 0) (eK (.int 2))) (eV 3)) (eV 5)))) (eV 5) [5])))
  (sIf (tV (eBin dEq (eCB dLen (lCons (eV 4) lNil)) (eK (.int 1))))
  (sExpr (eApp 1 (eTup (lCons (eV 2) (lCons (eV 3) (lCons (eBin dIx (eBin dIx (eV 0) (eK (.int 1))) (eBin dIx (eV 4) (eK (.int 0)))) lNil))))))
  sNop))))
  (sRet (eTake 1))))
def f__law_sh_edges : Fn := fun ss => noEx (runDef 6 (B__law_sh_edges) ss)
theorem ok__law_sh_edges (g : Gs mg) {f : Addr} {fd : FuncData} (F : FnP K "_law_sh_edges" s__law_sh_edges f fd) :
    FnOk P w K mg base CX0 1 f fd ["class_"] (spF K T 1 [] f__law_sh_edges) := by
  refine defP F sc__law_sh_edges rfl (by decide) fun cdv A outer s H E G hr hw hT => ?_
  subst hT
  have hu := hr.units
  have hu1 := Nat.lt_of_le_of_lt (Nat.add_le_add_left (by decide : 1 ≤ 64) _) hr.units
  have nd := sc__law_sh_edges.nd
  exact (xs_cons (xs_new (i := 1) nd rfl (.inl rfl) (xn_lst xl_nil) (by simp [GC.pr, hw]))
    (xs_cons (xs_for PassesOwn.never rfl (xi_rng1 rfl g.range_ (xl_cons (xe_callB call_lenD rfl g.len_ bo_len (xl_cons (xe_ix (xe_var 0 (pv 0)) xe_int) xl_nil)) xl_nil)) (tgt_name (i := 2) (pg_name nd rfl (.inr rfl)) (by simp [GC.pr, hw]))
    (xs_one (xs_for PassesOwn.never rfl (xi_rng2 rfl g.range_ (xl_cons (xe_bin op_addD (xe_var 2 (pv 2)) xe_int) (xl_cons (xe_callB call_lenD rfl g.len_ bo_len (xl_cons (xe_ix (xe_var 0 (pv 0)) xe_int) xl_nil)) xl_nil))) (tgt_name (i := 3) (pg_name nd rfl (.inr rfl)) (by simp [GC.pr, hw]))
    (xs_cons (xs_setLc1 (i := 4) (own := [("at", 5)]) (g := (gName 5)) (T := (tgN 5)) rfl nd rfl rfl (by simp [GC.pr, hw]) (sw_true rfl rfl rfl (by decide +kernel))  (xi_rng1 rfl g.range_ (xl_cons (xe_callB call_lenD rfl g.len_ bo_len (xl_cons (xe_ix (xe_var 0 (pv 0)) xe_int) xl_nil)) xl_nil)) (blkOk_by (own := [("at", 5)]) (N := N__law_sh_edges) (sc := defScope s__law_sh_edges) (by decide +kernel)) (fun _ _ _ _ _ => (pg_name (i := 5) nd rfl (by first | exact Or.inl rfl | exact Or.inr rfl))) (tgk_name (by simp)) (by simp [GC.pr, hw]) (fun _ _ _ _ _ _ _ => (xt_cmp (op_neD hu) (xe_ix (xe_ix (xe_ix (xe_var 0 (pv 0)) xe_int) (xe_var 2 (pv 2))) (xe_var 5 (pv 5))) (xe_ix (xe_ix (xe_ix (xe_var 0 (pv 0)) xe_int) (xe_var 3 (pv 3))) (xe_var 5 (pv 5))) rfl)) (fun _ _ _ _ _ _ _ => (xe_var 5 (pv 5))))
    (xs_one (xs_if (xt_cmp (op_eqD hu) (xe_callB call_lenD rfl g.len_ bo_len (xl_cons (xe_var 4 (pv 4)) xl_nil)) xe_int rfl)
    (xs_one (xs_expr (xe_append (i := 1) (pv 1) (xe_tup (xl_cons (xe_var 2 (pv 2)) (xl_cons (xe_var 3 (pv 3)) (xl_cons (xe_ix (xe_ix (xe_var 0 (pv 0)) xe_int) (xe_ix (xe_var 4 (pv 4)) xe_int)) xl_nil)))))))
    xs_nil))))))
    (xs_one (xs_ret (xe_take (by simp [GC.pr, hw]) (pv 1))))))
abbrev s__law_sh_closed : Stmt := top 43
abbrev N__law_sh_closed : List Str := ["draws", "points", "most", "words", "many", "rows", "lap", "top", "below", "label", "row", "turn", "found", "word", "flip"]
theorem sc__law_sh_closed : FnScope N__law_sh_closed ["draws", "points", "most"] (defScope s__law_sh_closed) := ⟨rfl, rfl, rfl, by decide +kernel, rfl, by decide +kernel, by decide +kernel⟩
def B__law_sh_closed : Sv := (sSeq (sSet 3 (eCB dTuple (lCons (eCall1 0 f__law_words (lCons (eBin dAdd (eK (.int 1)) (eCall1 0 f__law_draw (lCons (eV 1) lNil))) lNil)) lNil)))
  (sSeq (sParSD 4 5 (eCB dLen (lCons (eV 3) lNil)))
  (sSeq (sDPutO 5 (eBin dMulW (eTup (lCons (eK (.int 0)) lNil)) (eV 4)) (eK (.bl true)))
  (sSeq (sFor (iCall dRng1 (lCons (eBin dAdd (eK (.int 1)) (eCall1 0 f__law_draw (lCons (eK (.int 4)) lNil))) lNil)) (tgN 6)
  (sSeq (sPar 7 8 (lCons (eFz (nLc (iAny (eV 3)) (tgN 13) tYesF (eCall1 0 f__law_draw (lCons (eK (.int 2)) lNil)) [13])) (lCons (eLst (lCons (eTup lNil) lNil)) lNil)))
  (sSeq (sFor (iAny (eV 7)) (tgN 9)
  (sSet 8 (eBin dAdd (eFz (nLc (iAny (eV 8)) (tgN 10) tYesF (eBin dAdd (eV 10) (eTup (lCons (eK (.int 0)) lNil))) [10])) (eIf (tV (eBin dEq (eV 9) (eK (.int 1)))) (eFz (nLc (iAny (eV 8)) (tgN 10) tYesF (eBin dAdd (eV 10) (eTup (lCons (eK (.int 1)) lNil))) [10])) (eLst lNil)))))
  (sIf (tV (eBin dLe (eBin dAdd (eCB dLen (lCons (eV 8) lNil)) (eODLen 5)) (eV 2)))
  (sFor (iAny (eV 8)) (tgN 10)
  (sDPutO 5 (eV 10) (eK (.bl true))))
  sNop))))
  (sSeq (sSet 11 (eIf (tV (eBin dEq (eCall1 0 f__law_draw (lCons (eK (.int 2)) lNil)) (eK (.int 0)))) (eFz (nLc (iAny (eV 3)) (tgN 13) tYesF (eCall1 0 f__law_draw (lCons (eK (.int 2)) lNil)) [13])) (eBin dMulW (eLst (lCons (eK (.int 0)) lNil)) (eV 4))))
  (sSeq (sSet 12 (eFz (nLc (iAny (eTakeD 5)) (tgN 10) tYesF (eCB dTuple (lCons (eFz (nLc (iCall dZip (lCons (eV 10) (lCons (eV 11) lNil))) (tgT [9, 14]) tYesF (eIf (tV (eBin dEq (eV 14) (eK (.int 0)))) (eV 9) (eBin dSub (eK (.int 1)) (eV 9))) [9, 14])) lNil)) [10])))
  (sRet (eTup (lCons (eK (.str "class")) (lCons (eV 3) (lCons (eCB dTuple (lCons (eCB dSorted (lCons (eV 12) lNil)) lNil)) lNil)))))))))))
def f__law_sh_closed : Fn := fun ss => noEx (runDef 15 (B__law_sh_closed) ss)
theorem ok__law_sh_closed (g : Gs mg) (F__law_draw : Fnc P w K mg base CX0 "_law_draw" 2 ["state", "room"] (spF K T 2 [0] f__law_draw)) (F__law_words : Fnc P w K mg base CX0 "_law_words" 4 ["draws", "many"] (spF K T 2 [0] f__law_words)) {f : Addr} {fd : FuncData} (F : FnP K "_law_sh_closed" s__law_sh_closed f fd) :
    FnOk P w K mg base CX0 5 f fd ["draws", "points", "most"] (spF K T 3 [0] f__law_sh_closed) := by
  refine defP F sc__law_sh_closed rfl (by decide) fun cdv A outer s H E G hr hw hT => ?_
  subst hT
  have hu := hr.units
  have hu1 := Nat.lt_of_le_of_lt (Nat.add_le_add_left (by decide : 1 ≤ 64) _) hr.units
  have nd := sc__law_sh_closed.nd
  exact (xs_cons (xs_set (i := 3) nd rfl (.inl rfl) (xe_callTy call_tupleD rfl g.tuple_ bo_tuple (xl_cons (xe_callF1 (i := 0) F__law_words (hr.mono (by decide)) rfl C8.pass0 (pv 0) (xl_cons (xe_bin op_addD xe_int (xe_callF1 (i := 0) F__law_draw (hr.mono (by decide)) rfl C8.pass0 (pv 0) (xl_cons (xe_var 1 (pv 1)) xl_nil) (lCons_len lNil_len))) xl_nil) (lCons_len lNil_len)) xl_nil)) (by simp [GC.pr, hw]))
    (xs_cons (xs_parSD (i := 4) (j := 5) rfl nd rfl rfl (by decide) rfl rfl (xe_callB call_lenD rfl g.len_ bo_len (xl_cons (xe_var 3 (pv 3)) xl_nil)) ⟨(by simp [GC.pr, hw]), (by simp [GC.pr, hw])⟩ rfl)
    (xs_cons (xs_dput (i := 5) hu1 (pv 5) (xe_bin op_mulD (xe_tup (xl_cons xe_int xl_nil)) (xe_var 4 (pv 4))) xe_bl)
    (xs_cons (xs_for PassesOwn.never rfl (xi_rng1 rfl g.range_ (xl_cons (xe_bin op_addD xe_int (xe_callF1 (i := 0) F__law_draw (hr.mono (by decide)) rfl C8.pass0 (pv 0) (xl_cons xe_int xl_nil) (lCons_len lNil_len))) xl_nil)) (tgt_name (i := 6) (pg_name nd rfl (.inl rfl)) (by simp [GC.pr, hw]))
    (xs_cons (xs_par (i := 7) (j := 8) rfl nd rfl rfl (by decide) rfl rfl (xl_cons (xe_fz (xn_lc0 rfl nd (own := [("word", 13)]) (g := (gName 13)) (T := (tgN 13)) (xi_any (xe_var 3 (pv 3))) (blkOk_by (own := [("word", 13)]) (N := N__law_sh_closed) (sc := defScope s__law_sh_closed) (by decide +kernel)) (fun _ _ _ _ _ => (pg_name (i := 13) nd rfl (by first | exact Or.inl rfl | exact Or.inr rfl))) (tgk_name (by simp)) (by simp [GC.pr, hw]) (fun _ _ _ _ _ _ _ => (xe_callF1 (i := 0) F__law_draw (hr.mono (by decide)) rfl C8.pass0 (pv 0) (xl_cons xe_int xl_nil) (lCons_len lNil_len))))) (xl_cons (xe_lst (xl_cons (xe_tup xl_nil) xl_nil)) xl_nil)) ⟨(by simp [GC.pr, hw]), (by simp [GC.pr, hw])⟩ rfl)
    (xs_cons (xs_for PassesOwn.never rfl (xi_any (xe_var 7 (pv 7))) (tgt_name (i := 9) (pg_name nd rfl (.inl rfl)) (by simp [GC.pr, hw]))
    (xs_one (xs_set (i := 8) nd rfl (.inl rfl) (xe_bin op_addD (xe_fz (xn_lc0 rfl nd (own := [("row", 10)]) (g := (gName 10)) (T := (tgN 10)) (xi_any (xe_var 8 (pv 8))) (blkOk_by (own := [("row", 10)]) (N := N__law_sh_closed) (sc := defScope s__law_sh_closed) (by decide +kernel)) (fun _ _ _ _ _ => (pg_name (i := 10) nd rfl (by first | exact Or.inl rfl | exact Or.inr rfl))) (tgk_name (by simp)) (by simp [GC.pr, hw]) (fun _ _ _ _ _ _ _ => (xe_bin op_addD (xe_var 10 (pv 10)) (xe_tup (xl_cons xe_int xl_nil)))))) (xe_if (xt_cmp (op_eqD hu) (xe_var 9 (pv 9)) xe_int rfl) (xe_fz (xn_lc0 rfl nd (own := [("row", 10)]) (g := (gName 10)) (T := (tgN 10)) (xi_any (xe_var 8 (pv 8))) (blkOk_by (own := [("row", 10)]) (N := N__law_sh_closed) (sc := defScope s__law_sh_closed) (by decide +kernel)) (fun _ _ _ _ _ => (pg_name (i := 10) nd rfl (by first | exact Or.inl rfl | exact Or.inr rfl))) (tgk_name (by simp)) (by simp [GC.pr, hw]) (fun _ _ _ _ _ _ _ => (xe_bin op_addD (xe_var 10 (pv 10)) (xe_tup (xl_cons xe_int xl_nil)))))) (xe_lst xl_nil))) (by simp [GC.pr, hw]))))
    (xs_one (xs_if (xt_cmp op_leD (xe_bin op_addD (xe_callB call_lenD rfl g.len_ bo_len (xl_cons (xe_var 8 (pv 8)) xl_nil)) (xe_odlen (i := 5) rfl g.len_ (pv 5))) (xe_var 2 (pv 2)) rfl)
    (xs_one (xs_for PassesOwn.never rfl (xi_any (xe_var 8 (pv 8))) (tgt_name (i := 10) (pg_name nd rfl (.inl rfl)) (by simp [GC.pr, hw]))
    (xs_one (xs_dput (i := 5) hu1 (pv 5) (xe_var 10 (pv 10)) xe_bl))))
    xs_nil)))))
    (xs_cons (xs_set (i := 11) nd rfl (.inr rfl) (xe_if (xt_cmp (op_eqD hu) (xe_callF1 (i := 0) F__law_draw (hr.mono (by decide)) rfl C8.pass0 (pv 0) (xl_cons xe_int xl_nil) (lCons_len lNil_len)) xe_int rfl) (xe_fz (xn_lc0 rfl nd (own := [("word", 13)]) (g := (gName 13)) (T := (tgN 13)) (xi_any (xe_var 3 (pv 3))) (blkOk_by (own := [("word", 13)]) (N := N__law_sh_closed) (sc := defScope s__law_sh_closed) (by decide +kernel)) (fun _ _ _ _ _ => (pg_name (i := 13) nd rfl (by first | exact Or.inl rfl | exact Or.inr rfl))) (tgk_name (by simp)) (by simp [GC.pr, hw]) (fun _ _ _ _ _ _ _ => (xe_callF1 (i := 0) F__law_draw (hr.mono (by decide)) rfl C8.pass0 (pv 0) (xl_cons xe_int xl_nil) (lCons_len lNil_len))))) (xe_bin op_mulD (xe_lst (xl_cons xe_int xl_nil)) (xe_var 4 (pv 4)))) (by simp [GC.pr, hw]))
    (xs_cons (xs_setLc0 (i := 12) (own := [("row", 10)]) (g := (gName 10)) (T := (tgN 10)) rfl nd rfl rfl (by simp [GC.pr, hw]) (sw_true rfl rfl rfl (by decide +kernel))  (xi_any (xe_takeD (by simp [GC.pr, hw]) (pv 5))) (blkOk_by (own := [("row", 10)]) (N := N__law_sh_closed) (sc := defScope s__law_sh_closed) (by decide +kernel)) (fun _ _ _ _ _ => (pg_name (i := 10) nd rfl (by first | exact Or.inl rfl | exact Or.inr rfl))) (tgk_name (by simp)) (by simp [GC.pr, hw]) (fun _ _ _ _ _ _ _ => (xe_callTy call_tupleD rfl g.tuple_ bo_tuple (xl_cons (xe_fz (xn_lc0 rfl nd (own := [("label", 9), ("flip", 14)]) (g := (gTup K 2 (gAll [9, 14]))) (T := (tgT [9, 14])) (xi_zip rfl g.zip_ (xl_cons (xe_var 10 (pv 10)) (xl_cons (xe_var 11 (pv 11)) xl_nil))) (blkOk_by (by first | kernel_rfl | rfl)) (fun _ _ _ _ _ => (pg_tup rfl (pgs_cons (pg_name (i := 9) nd rfl (by first | exact Or.inl rfl | exact Or.inr rfl)) (pgs_cons (pg_name (i := 14) nd rfl (by first | exact Or.inl rfl | exact Or.inr rfl)) pgs_nil)))) (tgk_tup (by simp)) (by simp [GC.pr, hw]) (fun _ _ _ _ _ _ _ => (xe_if (xt_cmp (op_eqD hu) (xe_var 14 (pv 14)) xe_int rfl) (xe_var 9 (pv 9)) (xe_bin op_subD xe_int (xe_var 9 (pv 9))))))) xl_nil))))
    (xs_one (xs_ret (xe_tup (xl_cons xe_str (xl_cons (xe_var 3 (pv 3)) (xl_cons (xe_callTy call_tupleD rfl g.tuple_ bo_tuple (xl_cons (xe_callB (call_sortedD hu) rfl g.sorted_ bo_sorted (xl_cons (xe_var 12 (pv 12)) xl_nil)) xl_nil)) xl_nil))))))))))))
abbrev s__law_sh_class : Stmt := top 44
abbrev N__law_sh_class : List Str := ["draws", "points", "most", "way", "words", "size", "rows", "gone", "row"]
theorem sc__law_sh_class : FnScope N__law_sh_class ["draws", "points", "most"] (defScope s__law_sh_class) := ⟨rfl, rfl, rfl, by decide +kernel, rfl, by decide +kernel, by decide +kernel⟩
def B__law_sh_class : Sv := (sSeq (sSet 3 (eCall1 0 f__law_draw (lCons (eK (.int 8)) lNil)))
  (sSeq (sIf (tV (eBin dLt (eV 3) (eK (.int 3))))
  (sRet (eCall1 0 f__law_class (lCons (eV 1) (lCons (eV 2) lNil))))
  sNop)
  (sSeq (sIf (tV (eBin dLt (eV 3) (eK (.int 5))))
  (sRet (eCall1 0 f__law_sh_closed (lCons (eV 1) (lCons (eV 2) lNil))))
  sNop)
  (sSeq (sAsg (tgT [4, 5]) (eTup (lCons (eCB dTuple (lCons (eCall1 0 f__law_words (lCons (eBin dAdd (eK (.int 1)) (eCall1 0 f__law_draw (lCons (eCB dMin2 (lCons (eV 1) (lCons (eK (.int 5)) lNil))) lNil))) lNil)) lNil)) (lCons (eCall1 0 f__law_draw (lCons (eK (.int 4)) lNil)) lNil))))
  (sSeq (sSet 6 (eSl (eFz (nLc (iAny (eCall f__law_sh_labels (lCons (eCB dLen (lCons (eV 4) lNil)) lNil))) (tgN 8) (tV (eBin dLe (eCB dSum (lCons (eV 8) lNil)) (eV 5))) (eV 8) [8])) poN (poS (eV 2))))
  (sSeq (sIf (tAndF (tV (eBin dEq (eV 3) (eK (.int 6)))) (tV (eBin dGt (eCB dLen (lCons (eV 6) lNil)) (eK (.int 1)))))
  (sSeq (sSet 7 (eCall1 0 f__law_draw (lCons (eCB dLen (lCons (eV 6) lNil)) lNil)))
  (sSet 6 (eBin dAdd (eSl (eV 6) poN (poS (eV 7))) (eSl (eV 6) (poS (eBin dAdd (eV 7) (eK (.int 1)))) poN))))
  sNop)
  (sSeq (sIf (tV (eBin dEq (eV 3) (eK (.int 7))))
  (sSet 6 (eCB dSortSet (lCons (eBin dAdd (eFz (nLc (iAny (eV 6)) (tgN 8) (tV (eBin dGt (eCall1 0 f__law_draw (lCons (eK (.int 4)) lNil)) (eK (.int 0)))) (eV 8) [8])) (eLst (lCons (eBin dIx (eV 6) (eK (.int 0))) (lCons (eBin dIx (eV 6) (eUn dNeg (eK (.int 1)))) lNil)))) lNil)))
  sNop)
  (sRet (eTup (lCons (eK (.str "class")) (lCons (eV 4) (lCons (eCB dTuple (lCons (eV 6) lNil)) lNil))))))))))))
def f__law_sh_class : Fn := fun ss => noEx (runDef 9 (B__law_sh_class) ss)
theorem ok__law_sh_class (g : Gs mg) (F__law_draw : Fnc P w K mg base CX0 "_law_draw" 2 ["state", "room"] (spF K T 2 [0] f__law_draw)) (F__law_words : Fnc P w K mg base CX0 "_law_words" 4 ["draws", "many"] (spF K T 2 [0] f__law_words)) (F__law_class : Fnc P w K mg base CX0 "_law_class" 5 ["draws", "points", "rows"] (spF K T 3 [0] f__law_class)) (F__law_sh_labels : Fnc P w K mg base CX0 "_law_sh_labels" 1 ["many"] (spF K T 1 [] f__law_sh_labels)) (F__law_sh_closed : Fnc P w K mg base CX0 "_law_sh_closed" 5 ["draws", "points", "most"] (spF K T 3 [0] f__law_sh_closed)) {f : Addr} {fd : FuncData} (F : FnP K "_law_sh_class" s__law_sh_class f fd) :
    FnOk P w K mg base CX0 6 f fd ["draws", "points", "most"] (spF K T 3 [0] f__law_sh_class) := by
  refine defP F sc__law_sh_class rfl (by decide) fun cdv A outer s H E G hr hw hT => ?_
  subst hT
  have hu := hr.units
  have hu1 := Nat.lt_of_le_of_lt (Nat.add_le_add_left (by decide : 1 ≤ 64) _) hr.units
  have nd := sc__law_sh_class.nd
  exact (xs_cons (xs_set (i := 3) nd rfl (.inl rfl) (xe_callF1 (i := 0) F__law_draw (hr.mono (by decide)) rfl C8.pass0 (pv 0) (xl_cons xe_int xl_nil) (lCons_len lNil_len)) (by simp [GC.pr, hw]))
    (xs_cons (xs_if (xt_cmp (op_ltD hu) (xe_var 3 (pv 3)) xe_int rfl)
    (xs_one (xs_ret (xe_callF1 (i := 0) F__law_class (hr.mono (by decide)) rfl C8.pass0 (pv 0) (xl_cons (xe_var 1 (pv 1)) (xl_cons (xe_var 2 (pv 2)) xl_nil)) (lCons_len (lCons_len lNil_len)))))
    xs_nil)
    (xs_cons (xs_if (xt_cmp (op_ltD hu) (xe_var 3 (pv 3)) xe_int rfl)
    (xs_one (xs_ret (xe_callF1 (i := 0) F__law_sh_closed (hr.mono (by decide)) rfl C8.pass0 (pv 0) (xl_cons (xe_var 1 (pv 1)) (xl_cons (xe_var 2 (pv 2)) xl_nil)) (lCons_len (lCons_len lNil_len)))))
    xs_nil)
    (xs_cons (xs_asg (xe_tup (xl_cons (xe_callTy call_tupleD rfl g.tuple_ bo_tuple (xl_cons (xe_callF1 (i := 0) F__law_words (hr.mono (by decide)) rfl C8.pass0 (pv 0) (xl_cons (xe_bin op_addD xe_int (xe_callF1 (i := 0) F__law_draw (hr.mono (by decide)) rfl C8.pass0 (pv 0) (xl_cons (xe_callB (call_min2D rfl) rfl g.min_ bo_min (xl_cons (xe_var 1 (pv 1)) (xl_cons xe_int xl_nil))) xl_nil) (lCons_len lNil_len))) xl_nil) (lCons_len lNil_len)) xl_nil)) (xl_cons (xe_callF1 (i := 0) F__law_draw (hr.mono (by decide)) rfl C8.pass0 (pv 0) (xl_cons xe_int xl_nil) (lCons_len lNil_len)) xl_nil))) (tgt_tup (is := [4, 5]) (pg_tup rfl (pgs_cons (pg_name (i := 4) nd rfl (.inl rfl)) (pgs_cons (pg_name (i := 5) nd rfl (.inr rfl)) pgs_nil))) (by simp [GC.pr, hw])))
    (xs_cons (xs_set (i := 6) nd rfl (.inl rfl) (xe_sl (xe_fz (xn_lc1 rfl nd (own := [("row", 8)]) (g := (gName 8)) (T := (tgN 8)) (xi_any (xe_callF F__law_sh_labels (hr.mono (by decide)) rfl C8.pass0 (xl_cons (xe_callB call_lenD rfl g.len_ bo_len (xl_cons (xe_var 4 (pv 4)) xl_nil)) xl_nil) (lCons_len lNil_len))) (blkOk_by (own := [("row", 8)]) (N := N__law_sh_class) (sc := defScope s__law_sh_class) (by decide +kernel)) (fun _ _ _ _ _ => (pg_name (i := 8) nd rfl (by first | exact Or.inl rfl | exact Or.inr rfl))) (tgk_name (by simp)) (by simp [GC.pr, hw]) (fun _ _ _ _ _ _ _ => (xt_cmp op_leD (xe_callB (call_sumD rfl) rfl g.sum_ bo_sum (xl_cons (xe_var 8 (pv 8)) xl_nil)) (xe_var 5 (pv 5)) rfl)) (fun _ _ _ _ _ _ _ => (xe_var 8 (pv 8))))) xo_none (xo_some (xe_var 2 (pv 2)))) (by simp [GC.pr, hw]))
    (xs_cons (xs_if (PW.pt (xw_and (xt_cmp (op_eqD hu) (xe_var 3 (pv 3)) xe_int rfl) (xw_and1 (xt_cmp op_gtD (xe_callB call_lenD rfl g.len_ bo_len (xl_cons (xe_var 6 (pv 6)) xl_nil)) xe_int rfl))))
    (xs_cons (xs_set (i := 7) nd rfl (.inl rfl) (xe_callF1 (i := 0) F__law_draw (hr.mono (by decide)) rfl C8.pass0 (pv 0) (xl_cons (xe_callB call_lenD rfl g.len_ bo_len (xl_cons (xe_var 6 (pv 6)) xl_nil)) xl_nil) (lCons_len lNil_len)) (by simp [GC.pr, hw]))
    (xs_one (xs_set (i := 6) nd rfl (.inl rfl) (xe_bin op_addD (xe_sl (xe_var 6 (pv 6)) xo_none (xo_some (xe_var 7 (pv 7)))) (xe_sl (xe_var 6 (pv 6)) (xo_some (xe_bin op_addD (xe_var 7 (pv 7)) xe_int)) xo_none)) (by simp [GC.pr, hw]))))
    xs_nil)
    (xs_cons (xs_if (xt_cmp (op_eqD hu) (xe_var 3 (pv 3)) xe_int rfl)
    (xs_one (xs_set (i := 6) nd rfl (.inl rfl) (xe_sortSet rfl hu rfl g.sorted_ rfl g.set_ (xl_cons (xe_bin op_addD (xe_fz (xn_lc1 rfl nd (own := [("row", 8)]) (g := (gName 8)) (T := (tgN 8)) (xi_any (xe_var 6 (pv 6))) (blkOk_by (own := [("row", 8)]) (N := N__law_sh_class) (sc := defScope s__law_sh_class) (by decide +kernel)) (fun _ _ _ _ _ => (pg_name (i := 8) nd rfl (by first | exact Or.inl rfl | exact Or.inr rfl))) (tgk_name (by simp)) (by simp [GC.pr, hw]) (fun _ _ _ _ _ _ _ => (xt_cmp op_gtD (xe_callF1 (i := 0) F__law_draw (hr.mono (by decide)) rfl C8.pass0 (pv 0) (xl_cons xe_int xl_nil) (lCons_len lNil_len)) xe_int rfl)) (fun _ _ _ _ _ _ _ => (xe_var 8 (pv 8))))) (xe_lst (xl_cons (xe_ix (xe_var 6 (pv 6)) xe_int) (xl_cons (xe_ix (xe_var 6 (pv 6)) (xe_neg xe_int)) xl_nil)))) xl_nil)) (by simp [GC.pr, hw])))
    xs_nil)
    (xs_one (xs_ret (xe_tup (xl_cons xe_str (xl_cons (xe_var 4 (pv 4)) (xl_cons (xe_callTy call_tupleD rfl g.tuple_ bo_tuple (xl_cons (xe_var 6 (pv 6)) xl_nil)) xl_nil)))))))))))))
abbrev s__law_sh_no_number : Stmt := top 45
abbrev N__law_sh_no_number : List Str := ["draws", "many"]
theorem sc__law_sh_no_number : FnScope N__law_sh_no_number ["draws", "many"] (defScope s__law_sh_no_number) := ⟨rfl, rfl, rfl, by decide +kernel, rfl, by decide +kernel, by decide +kernel⟩
def B__law_sh_no_number : Sv := (sRet (eCall1 0 f__law_pick (lCons (eLst (lCons (eK .non) (lCons (eUn dNeg (eK (.int 1))) (lCons (eV 1) (lCons (eK (.bl true)) (lCons (eK (.str "0")) (lCons (eTup (lCons (eK (.int 0)) lNil)) (lCons (eBin dPow (eK (.int 10)) (eK (.int 18))) (lCons (eBin dSub (eK (.int 0)) (eV 1)) lNil))))))))) lNil)))
def f__law_sh_no_number : Fn := fun ss => noEx (runDef 2 (B__law_sh_no_number) ss)
theorem ok__law_sh_no_number (g : Gs mg) (F__law_pick : Fnc P w K mg base CX0 "_law_pick" 3 ["state", "some"] (spF K T 2 [0] f__law_pick)) {f : Addr} {fd : FuncData} (F : FnP K "_law_sh_no_number" s__law_sh_no_number f fd) :
    FnOk P w K mg base CX0 4 f fd ["draws", "many"] (spF K T 2 [0] f__law_sh_no_number) := by
  refine defP F sc__law_sh_no_number rfl (by decide) fun cdv A outer s H E G hr hw hT => ?_
  subst hT
  have hu := hr.units
  have hu1 := Nat.lt_of_le_of_lt (Nat.add_le_add_left (by decide : 1 ≤ 64) _) hr.units
  have nd := sc__law_sh_no_number.nd
  exact (xs_one (xs_ret (xe_callF1 (i := 0) F__law_pick (hr.mono (by decide)) rfl C8.pass0 (pv 0) (xl_cons (xe_lst (xl_cons xe_non (xl_cons (xe_neg xe_int) (xl_cons (xe_var 1 (pv 1)) (xl_cons xe_bl (xl_cons xe_str (xl_cons (xe_tup (xl_cons xe_int xl_nil)) (xl_cons (xe_bin op_powD xe_int xe_int) (xl_cons (xe_bin op_subD xe_int (xe_var 1 (pv 1))) xl_nil))))))))) xl_nil) (lCons_len lNil_len))))
abbrev s__law_lo_within : Stmt := top 46
abbrev N__law_lo_within : List Str := ["pairs", "lot", "pair"]
theorem sc__law_lo_within : FnScope N__law_lo_within ["pairs", "lot"] (defScope s__law_lo_within) := ⟨rfl, rfl, rfl, by decide +kernel, rfl, by decide +kernel, by decide +kernel⟩
def B__law_lo_within : Sv := (sRet (eCB dLen (lCons (eFz (nLc (iAny (eV 0)) (tgN 2) (tAndF (tV (eBin dIn (eBin dIx (eV 2) (eK (.int 0))) (eV 1))) (tV (eBin dIn (eBin dIx (eV 2) (eK (.int 1))) (eV 1)))) (eK (.int 1)) [2])) lNil)))
def f__law_lo_within : Fn := fun ss => noEx (runDef 3 (B__law_lo_within) ss)
theorem ok__law_lo_within (g : Gs mg) {f : Addr} {fd : FuncData} (F : FnP K "_law_lo_within" s__law_lo_within f fd) :
    FnOk P w K mg base CX0 1 f fd ["pairs", "lot"] (spF K T 2 [] f__law_lo_within) := by
  refine defP F sc__law_lo_within rfl (by decide) fun cdv A outer s H E G hr hw hT => ?_
  subst hT
  have hu := hr.units
  have hu1 := Nat.lt_of_le_of_lt (Nat.add_le_add_left (by decide : 1 ≤ 64) _) hr.units
  have nd := sc__law_lo_within.nd
  exact (xs_one (xs_ret (xe_callB call_lenD rfl g.len_ bo_len (xl_cons (xe_fz (xn_lc1 rfl nd (own := [("pair", 2)]) (g := (gName 2)) (T := (tgN 2)) (xi_any (xe_var 0 (pv 0))) (blkOk_by (own := [("pair", 2)]) (N := N__law_lo_within) (sc := defScope s__law_lo_within) (by decide +kernel)) (fun _ _ _ _ _ => (pg_name (i := 2) nd rfl (by first | exact Or.inl rfl | exact Or.inr rfl))) (tgk_name (by simp)) (by simp [GC.pr, hw]) (fun _ _ _ _ _ _ _ => (PW.pt (xw_and (xt_cmp (op_inD hu) (xe_ix (xe_var 2 (pv 2)) xe_int) (xe_var 1 (pv 1)) rfl) (xw_and1 (xt_cmp (op_inD hu) (xe_ix (xe_var 2 (pv 2)) xe_int) (xe_var 1 (pv 1)) rfl))))) (fun _ _ _ _ _ _ _ => xe_int))) xl_nil))))
end
end
end PU.C
set_option maxHeartbeats 1000000
namespace PU.C
open PySem PySem.Spec PyProof.Rows L2 PU
noncomputable section
section
variable {P : Program} {w : World} {K : PySem.W.Frag} {mg : Str → Option Value} {base : Heap} {T : List (Addr × Str)}
abbrev s__law_is_refused : Stmt := top 47
abbrev N__law_is_refused : List Str := ["draws", "class_", "odd", "many", "bad", "number", "errors", "error"]
theorem sc__law_is_refused : FnScope N__law_is_refused ["draws", "class_"] (defScope s__law_is_refused) := ⟨rfl, rfl, rfl, by decide +kernel, rfl, by decide +kernel, by decide +kernel⟩
def B__law_is_refused (c : Cls0) : Sv := (sSeq (sAsg (tgT [2, 3]) (eTup (lCons (eCall1 0 f__law_odd lNil) (lCons (eCB dLen (lCons (eBin dIx (eV 1) (eK (.int 2))) lNil)) lNil))))
  (sSeq (sSet 4 (eCall1 0 f__law_pick (lCons (eLst (lCons (eK .non) (lCons (eK (.int 5)) (lCons (eTup lNil) (lCons (eLst (lCons (eK (.int 0)) lNil)) (lCons (eTup (lCons (eV 3) lNil)) (lCons (eTup (lCons (eUn dNeg (eK (.int 1))) lNil)) (lCons (eTup (lCons (eK (.bl true)) lNil)) (lCons (eTup (lCons (eK (.int 0)) (lCons (eK (.int 0)) lNil))) (lCons (eTup (lCons (eK (.str "0")) lNil)) (lCons (eTup (lCons (eK .non) lNil)) (lCons (eTup (lCons (eBin dSub (eV 3) (eK (.int 1))) (lCons (eK (.int 0)) lNil))) (lCons (eK (.dct [(.int 0, .int 1)])) lNil))))))))))))) lNil)))
  (sSeq (sSet 5 (eCall1 0 f__law_sh_no_number (lCons (eV 3) lNil)))
  (sSeq (sSet 6 (eLst (lCons (eCaught c.caught (eCall (f_edges c) (lCons (eV 2) lNil))) (lCons (eCaught c.caught (eCall (f_edges_at c) (lCons (eV 2) (lCons (eV 5) lNil)))) (lCons (eCaught c.caught (eCall (f_edges_within c) (lCons (eV 2) (lCons (eV 4) lNil)))) lNil)))))
  (sSeq (sIf (tV (eBin dNe (eFz (nLc (iAny (eV 6)) (tgN 7) (tNotF (tV (eUn (dIsE [(c.BadClass, true)]) (eV 7)))) (eK (.int 1)) [7])) (eLst lNil)))
  (sRet (eK (.bl false)))
  sNop)
  (sSeq (sSet 7 (eCaught c.caught (eCall (f_edges_at c) (lCons (eV 1) (lCons (eV 5) lNil)))))
  (sSeq (sIf (tOrF (tNotF (tV (eUn (dIsE [(c.BadNumber, true)]) (eV 7)))) (tNotF (tV (eCall f__law_same (lCons (eUn (dFld [c.BadNumber] "part") (eV 7)) (lCons (eK (.str "number")) lNil))))))
  (sRet (eK (.bl false)))
  sNop)
  (sRet (eUn (dIsE [(c.BadNumbers, true)]) (eCaught c.caught (eCall (f_edges_within c) (lCons (eV 1) (lCons (eV 4) lNil)))))))))))))
def f__law_is_refused (c : Cls0) : Fn := fun ss => noEx (runDef 8 (B__law_is_refused c) ss)
theorem ok__law_is_refused {c : Cls0} (cF : ClsF c P K mg base T) (g : Gs mg) (F_edges : Fnc P w K mg base (L2.CX P w) "edges" 5 ["class_"] (spF K T 1 [] (f_edges c))) (F_edges_at : Fnc P w K mg base (L2.CX P w) "edges_at" 5 ["class_", "number"] (spF K T 2 [] (f_edges_at c))) (F_edges_within : Fnc P w K mg base (L2.CX P w) "edges_within" 5 ["class_", "numbers"] (spF K T 2 [] (f_edges_within c))) (F__law_pick : Fnc P w K mg base CX0 "_law_pick" 3 ["state", "some"] (spF K T 2 [0] f__law_pick)) (F__law_same : Fnc P w K mg base CX0 "_law_same" 2 ["found", "due"] (spF K T 2 [] f__law_same)) (F__law_odd : Fnc P w K mg base CX0 "_law_odd" 4 ["draws"] (spF K T 1 [0] f__law_odd)) (F__law_sh_no_number : Fnc P w K mg base CX0 "_law_sh_no_number" 4 ["draws", "many"] (spF K T 2 [0] f__law_sh_no_number)) {f cc Pt : Addr} {fd : FuncData} (hTB : LamX.TabB base mg cc Pt) (hmT : (Pt, (("_law_is_refused" : Str) ++ ".<locals>.") ++ "<lambda>") ∈ T) (huT : ∀ p ∈ T, p.1 = Pt → p.2 = (("_law_is_refused" : Str) ++ ".<locals>.") ++ "<lambda>") (F : FnP K "_law_is_refused" s__law_is_refused f fd) (hcc : fd.code = .ref cc) :
    FnOk P w K mg base CX0 8 f fd ["draws", "class_"] (spF K T 2 [0] (f__law_is_refused c)) := by
  refine defPC F hcc sc__law_is_refused rfl (by decide) fun A outer s H E G hr hw hT => ?_
  subst hT
  have TF : TabF (cxOf CX0 P w K mg base N__law_is_refused "_law_is_refused" (defScope s__law_is_refused) f (.ref cc) A outer s H E).nox G := tabF_of hTB rfl rfl hmT huT
  have hu := hr.units
  have hu1 := Nat.lt_of_le_of_lt (Nat.add_le_add_left (by decide : 1 ≤ 64) _) hr.units
  have nd := sc__law_is_refused.nd
  exact (xs_cons (xs_asg (xe_tup (xl_cons (xe_callF1 (i := 0) F__law_odd (hr.mono (by decide)) rfl C8.pass0 (pv 0) xl_nil lNil_len) (xl_cons (xe_callB call_lenD rfl g.len_ bo_len (xl_cons (xe_ix (xe_var 1 (pv 1)) xe_int) xl_nil)) xl_nil))) (tgt_tup (is := [2, 3]) (pg_tup rfl (pgs_cons (pg_name (i := 2) nd rfl (.inr rfl)) (pgs_cons (pg_name (i := 3) nd rfl (.inl rfl)) pgs_nil))) (by simp [GC.pr, hw])))
    (xs_cons (xs_set (i := 4) nd rfl (.inr rfl) (xe_callF1 (i := 0) F__law_pick (hr.mono (by decide)) rfl C8.pass0 (pv 0) (xl_cons (xe_lst (xl_cons xe_non (xl_cons xe_int (xl_cons (xe_tup xl_nil) (xl_cons (xe_lst (xl_cons xe_int xl_nil)) (xl_cons (xe_tup (xl_cons (xe_var 3 (pv 3)) xl_nil)) (xl_cons (xe_tup (xl_cons (xe_neg xe_int) xl_nil)) (xl_cons (xe_tup (xl_cons xe_bl xl_nil)) (xl_cons (xe_tup (xl_cons xe_int (xl_cons xe_int xl_nil))) (xl_cons (xe_tup (xl_cons xe_str xl_nil)) (xl_cons (xe_tup (xl_cons xe_non xl_nil)) (xl_cons (xe_tup (xl_cons (xe_bin op_subD (xe_var 3 (pv 3)) xe_int) (xl_cons xe_int xl_nil))) (xl_cons (xe_d1 pe_int pe_int (fun _ => .int 1)) xl_nil))))))))))))) xl_nil) (lCons_len lNil_len)) (by simp [GC.pr, hw]))
    (xs_cons (xs_set (i := 5) nd rfl (.inr rfl) (xe_callF1 (i := 0) F__law_sh_no_number (hr.mono (by decide)) rfl C8.pass0 (pv 0) (xl_cons (xe_var 3 (pv 3)) xl_nil) (lCons_len lNil_len)) (by simp [GC.pr, hw]))
    (xs_cons (xs_set (i := 6) nd rfl (.inl rfl) (xe_lst (xl_cons (xe_lamF (k := 5) (cs := c.caught) (CS := c.SlipError) cF.lam TF rfl rfl sc__law_caught (.inl rfl) rfl rfl rfl (fun _ => rfl) (fun _ => rfl) (fun _ => rfl) (hr.mono (by decide)) (LamX.lamS_by (sc := defScope s__law_is_refused) (by decide +kernel)) rfl (fun _ _ _ _ _ => rfl) (fun A outer s H E' f' c' hr => (xe_callF F_edges (hr.mono (by decide)) rfl (passX (takes_of rfl rfl rfl rfl)) (xl_cons (xe_var 2 (pv 2)) xl_nil) (lCons_len lNil_len)))) (xl_cons (xe_lamF (k := 5) (cs := c.caught) (CS := c.SlipError) cF.lam TF rfl rfl sc__law_caught (.inl rfl) rfl rfl rfl (fun _ => rfl) (fun _ => rfl) (fun _ => rfl) (hr.mono (by decide)) (LamX.lamS_by (sc := defScope s__law_is_refused) (by decide +kernel)) rfl (fun _ _ _ _ _ => rfl) (fun A outer s H E' f' c' hr => (xe_callF F_edges_at (hr.mono (by decide)) rfl (passX (takes_of rfl rfl rfl rfl)) (xl_cons (xe_var 2 (pv 2)) (xl_cons (xe_var 5 (pv 5)) xl_nil)) (lCons_len (lCons_len lNil_len))))) (xl_cons (xe_lamF (k := 5) (cs := c.caught) (CS := c.SlipError) cF.lam TF rfl rfl sc__law_caught (.inl rfl) rfl rfl rfl (fun _ => rfl) (fun _ => rfl) (fun _ => rfl) (hr.mono (by decide)) (LamX.lamS_by (sc := defScope s__law_is_refused) (by decide +kernel)) rfl (fun _ _ _ _ _ => rfl) (fun A outer s H E' f' c' hr => (xe_callF F_edges_within (hr.mono (by decide)) rfl (passX (takes_of rfl rfl rfl rfl)) (xl_cons (xe_var 2 (pv 2)) (xl_cons (xe_var 4 (pv 4)) xl_nil)) (lCons_len (lCons_len lNil_len))))) xl_nil)))) (by simp [GC.pr, hw]))
    (xs_cons (xs_if (xt_cmp (op_neD hu) (xe_fz (xn_lc1 rfl nd (own := [("error", 7)]) (g := (gName 7)) (T := (tgN 7)) (xi_any (xe_var 6 (pv 6))) (blkOk_by (own := [("error", 7)]) (N := N__law_is_refused) (sc := defScope s__law_is_refused) (by decide +kernel)) (fun _ _ _ _ _ => (pg_name (i := 7) nd rfl (by first | exact Or.inl rfl | exact Or.inr rfl))) (tgk_name (by simp)) (by simp [GC.pr, hw]) (fun _ _ _ _ _ _ _ => (xt_not (xt_val (xe_isE (cs := [(c.BadClass, true)]) cF.is_BadClass rfl g.isinstance_ (xe_var 7 (pv 7)) (pe_glob (v := .ref c.BadClass) rfl cF.m_BadClass rfl))))) (fun _ _ _ _ _ _ _ => xe_int))) (xe_lst xl_nil) rfl)
    (xs_one (xs_ret xe_bl))
    xs_nil)
    (xs_cons (xs_set (i := 7) nd rfl (.inl rfl) (xe_lamF (k := 5) (cs := c.caught) (CS := c.SlipError) cF.lam TF rfl rfl sc__law_caught (.inl rfl) rfl rfl rfl (fun _ => rfl) (fun _ => rfl) (fun _ => rfl) (hr.mono (by decide)) (LamX.lamS_by (sc := defScope s__law_is_refused) (by decide +kernel)) rfl (fun _ _ _ _ _ => rfl) (fun A outer s H E' f' c' hr => (xe_callF F_edges_at (hr.mono (by decide)) rfl (passX (takes_of rfl rfl rfl rfl)) (xl_cons (xe_var 1 (pv 1)) (xl_cons (xe_var 5 (pv 5)) xl_nil)) (lCons_len (lCons_len lNil_len))))) (by simp [GC.pr, hw]))
    (xs_cons (xs_if (PW.pt (xw_or (xt_not (xt_val (xe_isE (cs := [(c.BadNumber, true)]) cF.is_BadNumber rfl g.isinstance_ (xe_var 7 (pv 7)) (pe_glob (v := .ref c.BadNumber) rfl cF.m_BadNumber rfl)))) (xw_or1 (xt_not (xt_val (xe_callF F__law_same (hr.mono (by decide)) rfl C8.pass0 (xl_cons (xe_fld (cs := [c.BadNumber]) cF.fld_part (xe_var 7 (pv 7))) (xl_cons xe_str xl_nil)) (lCons_len (lCons_len lNil_len))))))))
    (xs_one (xs_ret xe_bl))
    xs_nil)
    (xs_one (xs_ret (xe_isE (cs := [(c.BadNumbers, true)]) cF.is_BadNumbers rfl g.isinstance_ (xe_lamF (k := 5) (cs := c.caught) (CS := c.SlipError) cF.lam TF rfl rfl sc__law_caught (.inl rfl) rfl rfl rfl (fun _ => rfl) (fun _ => rfl) (fun _ => rfl) (hr.mono (by decide)) (LamX.lamS_by (sc := defScope s__law_is_refused) (by decide +kernel)) rfl (fun _ _ _ _ _ => rfl) (fun A outer s H E' f' c' hr => (xe_callF F_edges_within (hr.mono (by decide)) rfl (passX (takes_of rfl rfl rfl rfl)) (xl_cons (xe_var 1 (pv 1)) (xl_cons (xe_var 4 (pv 4)) xl_nil)) (lCons_len (lCons_len lNil_len))))) (pe_glob (v := .ref c.BadNumbers) rfl cF.m_BadNumbers rfl)))))))))))

end
end
end PU.C
set_option maxHeartbeats 1000000
namespace PU.C
open PySem PySem.Spec PyProof.Rows L2 PU
noncomputable section
section
variable {P : Program} {w : World} {K : PySem.W.Frag} {mg : Str → Option Value} {base : Heap} {T : List (Addr × Str)}
abbrev s_law : Stmt := top 48
abbrev N_law : List Str := ["script", "draws", "turn", "class_", "pairs", "many", "number", "due", "lap", "lot", "at", "pair"]
theorem sc_law : FnScope N_law ["script"] (defScope s_law) := ⟨rfl, rfl, rfl, by decide +kernel, rfl, by decide +kernel, by decide +kernel⟩
def B_law (c : Cls0) : Sv := (sSeq (sSetDr 1 (lCons (eV 0) lNil) f__law_begun)
  (sSeq (sFor (iCall dRng1 (lCons (eBin dAdd (eK (.int 3)) (eCB dMin2 (lCons (eCB dLen (lCons (eV 0) lNil)) (lCons (eK (.int 5)) lNil)))) lNil)) (tgN 2)
  (sSeq (sSet 3 (eCall1 1 f__law_sh_class (lCons (eK (.int 8)) (lCons (eK (.int 24)) lNil))))
  (sSeq (sPar 4 5 (lCons (eCall f__law_sh_edges (lCons (eV 3) lNil)) (lCons (eCB dLen (lCons (eBin dIx (eV 3) (eK (.int 2))) lNil)) lNil)))
  (sSeq (sIf (tNotF (tV (eCall f__law_same (lCons (eLst (lCons (eCall (f_edges c) (lCons (eV 3) lNil)) (lCons (eCallKw [0] 1 (f_edges c) (lCons (eV 3) lNil)) lNil))) (lCons (eLst (lCons (eCB dTuple (lCons (eV 4) lNil)) (lCons (eCB dTuple (lCons (eV 4) lNil)) lNil))) lNil)))))
  (sRet (eK (.bl false)))
  sNop)
  (sSeq (sFor (iCall dRng1 (lCons (eV 5) lNil)) (tgN 6)
  (sSeq (sSet 7 (eCB dTuple (lCons (eFz (nLc (iCall dEnum (lCons (eV 4) lNil)) (tgT [10, 11]) (tV (eBin dIn (eV 6) (eSl (eV 11) poN (poS (eK (.int 2)))))) (eV 10) [10, 11])) lNil)))
  (sIf (tOrF (tNotF (tV (eCall f__law_same (lCons (eCall (f_edges_at c) (lCons (eV 3) (lCons (eV 6) lNil))) (lCons (eV 7) lNil))))) (tV (eBin dNe (eCallKw [1, 0] 2 (f_edges_at c) (lCons (eV 6) (lCons (eV 3) lNil))) (eV 7))))
  (sRet (eK (.bl false)))
  sNop)))
  (sSeq (sFor (iCall dRng1 (lCons (eK (.int 5)) lNil)) (tgN 8)
  (sSeq (sSet 9 (eCB dTuple (lCons (eFz (nLc (iCall dRng1 (lCons (eV 5) lNil)) (tgN 6) (tV (eBin dGt (eCall1 1 f__law_draw (lCons (eK (.int 3)) lNil)) (eK (.int 0)))) (eV 6) [6])) lNil)))
  (sSeq (sSet 9 (eIf (tV (eBin dNe (eV 9) (eTup lNil))) (eV 9) (eTup (lCons (eBin dSub (eV 5) (eK (.int 1))) lNil))))
  (sSeq (sSet 7 (eCall f__law_lo_within (lCons (eV 4) (lCons (eV 9) lNil))))
  (sIf (tNotF (tV (eCall f__law_same (lCons (eLst (lCons (eCall (f_edges_within c) (lCons (eV 3) (lCons (eV 9) lNil))) (lCons (eCallKw [1, 0] 2 (f_edges_within c) (lCons (eV 9) (lCons (eV 3) lNil))) lNil))) (lCons (eLst (lCons (eV 7) (lCons (eV 7) lNil))) lNil)))))
  (sRet (eK (.bl false)))
  sNop)))))
  (sIf (tNotF (tV (eCall1 1 (f__law_is_refused c) (lCons (eV 3) lNil))))
  (sRet (eK (.bl false)))
  sNop)))))))
  (sRet (eK (.bl true)))))
def f_law (c : Cls0) : Fn := fun ss => noEx (runDef 12 (B_law c) ss)
theorem ok_law {c : Cls0} (cF : ClsF c P K mg base T) (g : Gs mg) (F_edges : Fnc P w K mg base (L2.CX P w) "edges" 5 ["class_"] (spF K T 1 [] (f_edges c))) (F_edges_at : Fnc P w K mg base (L2.CX P w) "edges_at" 5 ["class_", "number"] (spF K T 2 [] (f_edges_at c))) (F_edges_within : Fnc P w K mg base (L2.CX P w) "edges_within" 5 ["class_", "numbers"] (spF K T 2 [] (f_edges_within c))) (F__law_begun : Fnc P w K mg base CX0 "_law_begun" 1 ["script"] (spDr K T 1 f__law_begun)) (F__law_draw : Fnc P w K mg base CX0 "_law_draw" 2 ["state", "room"] (spF K T 2 [0] f__law_draw)) (F__law_same : Fnc P w K mg base CX0 "_law_same" 2 ["found", "due"] (spF K T 2 [] f__law_same)) (F__law_sh_edges : Fnc P w K mg base CX0 "_law_sh_edges" 1 ["class_"] (spF K T 1 [] f__law_sh_edges)) (F__law_sh_class : Fnc P w K mg base CX0 "_law_sh_class" 6 ["draws", "points", "most"] (spF K T 3 [0] f__law_sh_class)) (F__law_lo_within : Fnc P w K mg base CX0 "_law_lo_within" 1 ["pairs", "lot"] (spF K T 2 [] f__law_lo_within)) (F__law_is_refused : Fnc P w K mg base CX0 "_law_is_refused" 8 ["draws", "class_"] (spF K T 2 [0] (f__law_is_refused c))) (F_edges_K_class_ : FncK P w K mg base (L2.CX P w) "edges" 5 ["class_"] ["class_"] [0] 1 (spF K T 1 [] (f_edges c))) (F_edges_at_K_number_class_ : FncK P w K mg base (L2.CX P w) "edges_at" 5 ["class_", "number"] ["number", "class_"] [1, 0] 2 (spF K T 2 [] (f_edges_at c))) (F_edges_within_K_numbers_class_ : FncK P w K mg base (L2.CX P w) "edges_within" 5 ["class_", "numbers"] ["numbers", "class_"] [1, 0] 2 (spF K T 2 [] (f_edges_within c))) {f : Addr} {fd : FuncData} (F : FnP K "law" s_law f fd) :
    FnOk P w K mg base CX0 9 f fd ["script"] (spF K T 1 [] (f_law c)) := by
  refine defP F sc_law rfl (by decide) fun cdv A outer s H E G hr hw hT => ?_
  subst hT
  have hu := hr.units
  have hu1 := Nat.lt_of_le_of_lt (Nat.add_le_add_left (by decide : 1 ≤ 64) _) hr.units
  have nd := sc_law.nd
  exact (xs_cons (xs_setDrF (i := 1) F__law_begun (hr.mono (by decide)) rfl C8.pass0 (xl_cons (xe_var 0 (pv 0)) xl_nil) (lCons_len lNil_len) nd rfl (.inr rfl) (by simp [GC.pr, hw]))
    (xs_cons (xs_for PassesOwn.never rfl (xi_rng1 rfl g.range_ (xl_cons (xe_bin op_addD xe_int (xe_callB (call_min2D rfl) rfl g.min_ bo_min (xl_cons (xe_callB call_lenD rfl g.len_ bo_len (xl_cons (xe_var 0 (pv 0)) xl_nil)) (xl_cons xe_int xl_nil)))) xl_nil)) (tgt_name (i := 2) (pg_name nd rfl (.inl rfl)) (by simp [GC.pr, hw]))
    (xs_cons (xs_set (i := 3) nd rfl (.inl rfl) (xe_callF1 (i := 1) F__law_sh_class (hr.mono (by decide)) rfl C8.pass0 (pv 1) (xl_cons xe_int (xl_cons xe_int xl_nil)) (lCons_len (lCons_len lNil_len))) (by simp [GC.pr, hw]))
    (xs_cons (xs_par (i := 4) (j := 5) rfl nd rfl rfl (by decide) rfl rfl (xl_cons (xe_callF F__law_sh_edges (hr.mono (by decide)) rfl C8.pass0 (xl_cons (xe_var 3 (pv 3)) xl_nil) (lCons_len lNil_len)) (xl_cons (xe_callB call_lenD rfl g.len_ bo_len (xl_cons (xe_ix (xe_var 3 (pv 3)) xe_int) xl_nil)) xl_nil)) ⟨(by simp [GC.pr, hw]), (by simp [GC.pr, hw])⟩ rfl)
    (xs_cons (xs_if (xt_not (xt_val (xe_callF F__law_same (hr.mono (by decide)) rfl C8.pass0 (xl_cons (xe_lst (xl_cons (xe_callF F_edges (hr.mono (by decide)) rfl passEF (xl_cons (xe_var 3 (pv 3)) xl_nil) (lCons_len lNil_len)) (xl_cons (xe_callFk F_edges_K_class_ (hr.mono (by decide)) rfl rfl passEF (xk_cons (xe_var 3 (pv 3)) xk_nil)) xl_nil))) (xl_cons (xe_lst (xl_cons (xe_callTy call_tupleD rfl g.tuple_ bo_tuple (xl_cons (xe_var 4 (pv 4)) xl_nil)) (xl_cons (xe_callTy call_tupleD rfl g.tuple_ bo_tuple (xl_cons (xe_var 4 (pv 4)) xl_nil)) xl_nil))) xl_nil)) (lCons_len (lCons_len lNil_len)))))
    (xs_one (xs_ret xe_bl))
    xs_nil)
    (xs_cons (xs_for PassesOwn.never rfl (xi_rng1 rfl g.range_ (xl_cons (xe_var 5 (pv 5)) xl_nil)) (tgt_name (i := 6) (pg_name nd rfl (.inr rfl)) (by simp [GC.pr, hw]))
    (xs_cons (xs_set (i := 7) nd rfl (.inl rfl) (xe_callTy call_tupleD rfl g.tuple_ bo_tuple (xl_cons (xe_fz (xn_lc1 rfl nd (own := [("at", 10), ("pair", 11)]) (g := (gTup K 2 (gAll [10, 11]))) (T := (tgT [10, 11])) (xi_enum rfl g.enumerate_ (xl_cons (xe_var 4 (pv 4)) xl_nil)) (blkOk_by (own := [("at", 10), ("pair", 11)]) (N := N_law) (sc := defScope s_law) (by decide +kernel)) (fun _ _ _ _ _ => (pg_tup rfl (pgs_cons (pg_name (i := 10) nd rfl (by first | exact Or.inl rfl | exact Or.inr rfl)) (pgs_cons (pg_name (i := 11) nd rfl (by first | exact Or.inl rfl | exact Or.inr rfl)) pgs_nil)))) (tgk_tup (by simp)) (by simp [GC.pr, hw]) (fun _ _ _ _ _ _ _ => (xt_cmp (op_inD hu) (xe_var 6 (pv 6)) (xe_sl (xe_var 11 (pv 11)) xo_none (xo_some xe_int)) rfl)) (fun _ _ _ _ _ _ _ => (xe_var 10 (pv 10))))) xl_nil)) (by simp [GC.pr, hw]))
    (xs_one (xs_if (PW.pt (xw_or (xt_not (xt_val (xe_callF F__law_same (hr.mono (by decide)) rfl C8.pass0 (xl_cons (xe_callF F_edges_at (hr.mono (by decide)) rfl passEF (xl_cons (xe_var 3 (pv 3)) (xl_cons (xe_var 6 (pv 6)) xl_nil)) (lCons_len (lCons_len lNil_len))) (xl_cons (xe_var 7 (pv 7)) xl_nil)) (lCons_len (lCons_len lNil_len))))) (xw_or1 (xt_cmp (op_neD hu) (xe_callFk F_edges_at_K_number_class_ (hr.mono (by decide)) rfl rfl passEF (xk_cons (xe_var 6 (pv 6)) (xk_cons (xe_var 3 (pv 3)) xk_nil))) (xe_var 7 (pv 7)) rfl))))
    (xs_one (xs_ret xe_bl))
    xs_nil))))
    (xs_cons (xs_for PassesOwn.never rfl (xi_rng1 rfl g.range_ (xl_cons xe_int xl_nil)) (tgt_name (i := 8) (pg_name nd rfl (.inl rfl)) (by simp [GC.pr, hw]))
    (xs_cons (xs_set (i := 9) nd rfl (.inl rfl) (xe_callTy call_tupleD rfl g.tuple_ bo_tuple (xl_cons (xe_fz (xn_lc1 rfl nd (own := [("number", 6)]) (g := (gName 6)) (T := (tgN 6)) (xi_rng1 rfl g.range_ (xl_cons (xe_var 5 (pv 5)) xl_nil)) (blkOk_by (own := [("number", 6)]) (N := N_law) (sc := defScope s_law) (by decide +kernel)) (fun _ _ _ _ _ => (pg_name (i := 6) nd rfl (by first | exact Or.inl rfl | exact Or.inr rfl))) (tgk_name (by simp)) (by simp [GC.pr, hw]) (fun _ _ _ _ _ _ _ => (xt_cmp op_gtD (xe_callF1 (i := 1) F__law_draw (hr.mono (by decide)) rfl C8.pass0 (pv 1) (xl_cons xe_int xl_nil) (lCons_len lNil_len)) xe_int rfl)) (fun _ _ _ _ _ _ _ => (xe_var 6 (pv 6))))) xl_nil)) (by simp [GC.pr, hw]))
    (xs_cons (xs_set (i := 9) nd rfl (.inl rfl) (xe_if (xt_cmp (op_neD hu) (xe_var 9 (pv 9)) (xe_tup xl_nil) rfl) (xe_var 9 (pv 9)) (xe_tup (xl_cons (xe_bin op_subD (xe_var 5 (pv 5)) xe_int) xl_nil))) (by simp [GC.pr, hw]))
    (xs_cons (xs_set (i := 7) nd rfl (.inl rfl) (xe_callF F__law_lo_within (hr.mono (by decide)) rfl C8.pass0 (xl_cons (xe_var 4 (pv 4)) (xl_cons (xe_var 9 (pv 9)) xl_nil)) (lCons_len (lCons_len lNil_len))) (by simp [GC.pr, hw]))
    (xs_one (xs_if (xt_not (xt_val (xe_callF F__law_same (hr.mono (by decide)) rfl C8.pass0 (xl_cons (xe_lst (xl_cons (xe_callF F_edges_within (hr.mono (by decide)) rfl passEF (xl_cons (xe_var 3 (pv 3)) (xl_cons (xe_var 9 (pv 9)) xl_nil)) (lCons_len (lCons_len lNil_len))) (xl_cons (xe_callFk F_edges_within_K_numbers_class_ (hr.mono (by decide)) rfl rfl passEF (xk_cons (xe_var 9 (pv 9)) (xk_cons (xe_var 3 (pv 3)) xk_nil))) xl_nil))) (xl_cons (xe_lst (xl_cons (xe_var 7 (pv 7)) (xl_cons (xe_var 7 (pv 7)) xl_nil))) xl_nil)) (lCons_len (lCons_len lNil_len)))))
    (xs_one (xs_ret xe_bl))
    xs_nil))))))
    (xs_one (xs_if (xt_not (xt_val (xe_callF1 (i := 1) F__law_is_refused (hr.mono (by decide)) rfl C8.pass0 (pv 1) (xl_cons (xe_var 3 (pv 3)) xl_nil) (lCons_len lNil_len))))
    (xs_one (xs_ret xe_bl))
    xs_nil))))))))
    (xs_one (xs_ret xe_bl))))
end
end
end PU.C
set_option maxHeartbeats 1000000
namespace PU.C
open PySem PySem.Spec PyProof.Rows L2 PU
def isInt : D → Bool
  | .int _ => true
  | _ => false
theorem P_is_whole (d : D) (h : tyN d ≠ none) : Vl (f_is_whole [.st d]) (.bl (isInt d)) := by
  cases d <;> first | exact absurd rfl h | exact ⟨_, rfl⟩
theorem P_is_label (d : D) (h : tyN d ≠ none) : Vl (f_is_label [.st d]) (.bl (match d with | .int i => decide (0 ≤ i) && decide (i ≤ 1) | _ => false)) := by
  have e : eCall f_is_whole (lCons (eV 0) lNil) [.st d] = .ok (.bl (isInt d)) [.st d] := eCall_ok (ds := [d]) rfl (P_is_whole d h)
  refine ⟨[.st d], ?_⟩
  cases d with
  | int i =>
    by_cases h1 : 0 ≤ i <;> simp [runDef, noEx, sRet, sExpr, sIf, sSet, sSeq, sNop, sAsg, sPar, sNew, SRes.bind, ofE, eAnd, eOr, eIf, eBin, eUn, eChain, eCB, eTup, eLst, eFz, nLst, eSl, poN, poS, eTake, eOLen, lNil, lCons, Res.bind, eK, eV, svAt, lift, toB, tV, tAndF, tOrF, tNotF, dNot, dNeg, iAny, iCall, dItemsA, dLen, f_is_label, B_is_label, e, isInt, dLe, dI2, h1]
  | _ => simp [runDef, noEx, sRet, sExpr, sIf, sSet, sSeq, sNop, sAsg, sPar, sNew, SRes.bind, ofE, eAnd, eOr, eIf, eBin, eUn, eChain, eCB, eTup, eLst, eFz, nLst, eSl, poN, poS, eTake, eOLen, lNil, lCons, Res.bind, eK, eV, svAt, lift, toB, tV, tAndF, tOrF, tNotF, dNot, dNeg, iAny, iCall, dItemsA, dLen, f_is_label, B_is_label, e, isInt]
/-- a word's letters -/
def ltr : Str := "abcdefghijklmnopqrstuvwxyz"
def okLtr (w : Str) : Bool := w.cps.toList.all fun c => inStr ⟨#[c]⟩ ltr
theorem P_is_word (w : Str) (h : w.length ≤ sizeLine) : Vl (f_is_word [.st (.str w)]) (.bl (decide (1 ≤ w.length) && decide (w.length ≤ 8) && okLtr w)) := by
  have c : nLc (iAny (eV 0)) (tgN 1) tYesF (eBin dIn (eV 1) (eK (.str "abcdefghijklmnopqrstuvwxyz"))) [1] [.st (.str w), .un] = .ok (w.cps.toList.map fun c => .bl (inStr ⟨#[c]⟩ ltr)) [.st (.str w), .un] :=
    nLc_map w.cps.toList (fun c => .str ⟨#[c]⟩) _ (by simp [runDef, noEx, sRet, sExpr, sIf, sSet, sSeq, sNop, sAsg, sPar, sNew, SRes.bind, ofE, eAnd, eOr, eIf, eBin, eUn, eChain, eCB, eTup, eLst, eFz, nLst, eSl, poN, poS, eTake, eOLen, lNil, lCons, Res.bind, eK, eV, svAt, lift, toB, tV, tAndF, tOrF, tNotF, dNot, dNeg, iAny, iCall, dItemsA, dLen, chD]) (by simp [stFree, SV.own, svAt]) (fun c hc => by simp [runDef, noEx, sRet, sExpr, sIf, sSet, sSeq, sNop, sAsg, sPar, sNew, SRes.bind, ofE, eAnd, eOr, eIf, eBin, eUn, eChain, eCB, eTup, eLst, eFz, nLst, eSl, poN, poS, eTake, eOLen, lNil, lCons, Res.bind, eK, eV, svAt, lift, toB, tV, tAndF, tOrF, tNotF, dNot, dNeg, iAny, iCall, dItemsA, dLen, lcStep, tgN, tYesF, wipeP, dIn, ltr]) (by simpa using (show w.cps.size ≤ sizeLine from h))
  refine ⟨[.st (.str w), .un], ?_⟩
  by_cases h1 : 1 ≤ (w.length : Int)
  · by_cases h2 : (w.length : Int) ≤ 8
    · have h1' : 1 ≤ w.length := by omega
      have h2' : w.length ≤ 8 := by omega
      simp [runDef, noEx, sRet, sExpr, sIf, sSet, sSeq, sNop, sAsg, sPar, sNew, SRes.bind, ofE, eAnd, eOr, eIf, eBin, eUn, eChain, eCB, eTup, eLst, eFz, nLst, eSl, poN, poS, eTake, eOLen, lNil, lCons, Res.bind, eK, eV, svAt, lift, toB, tV, tAndF, tOrF, tNotF, dNot, dNeg, iAny, iCall, dItemsA, dLen, f_is_word, B_is_word, dIsi, tyN, tyOk, isiB, h, dLe, dI2, h1, h2, h1', h2', c, dAll_bls, okLtr]
    · have h2' : ¬ w.length ≤ 8 := by omega
      simp [runDef, noEx, sRet, sExpr, sIf, sSet, sSeq, sNop, sAsg, sPar, sNew, SRes.bind, ofE, eAnd, eOr, eIf, eBin, eUn, eChain, eCB, eTup, eLst, eFz, nLst, eSl, poN, poS, eTake, eOLen, lNil, lCons, Res.bind, eK, eV, svAt, lift, toB, tV, tAndF, tOrF, tNotF, dNot, dNeg, iAny, iCall, dItemsA, dLen, f_is_word, B_is_word, dIsi, tyN, tyOk, isiB, h, dLe, dI2, h1, h2, h2']
  · have h1' : ¬ 1 ≤ w.length := by omega
    simp [runDef, noEx, sRet, sExpr, sIf, sSet, sSeq, sNop, sAsg, sPar, sNew, SRes.bind, ofE, eAnd, eOr, eIf, eBin, eUn, eChain, eCB, eTup, eLst, eFz, nLst, eSl, poN, poS, eTake, eOLen, lNil, lCons, Res.bind, eK, eV, svAt, lift, toB, tV, tAndF, tOrF, tNotF, dNot, dNeg, iAny, iCall, dItemsA, dLen, f_is_word, B_is_word, dIsi, tyN, tyOk, isiB, h, dLe, dI2, h1, h1']
end PU.C
set_option maxHeartbeats 1000000
namespace PU.C
open PySem PySem.Spec PyProof.Rows L2 PU
theorem cutD_tail {α : Type} (xs : List α) : cutD xs (some 1) none = xs.tail := by
  unfold cutD
  have e : HT.sIx xs.length 0 (some 1) = min 1 xs.length := HT.sIx_nat xs.length 0 1
  rw [e, HT.sIx_none]
  cases xs with
  | nil => rfl
  | cons x xs => simp
structure WOk (ws : List Str) : Prop where
  len1 : 1 ≤ ws.length
  len8 : ws.length ≤ 8
  word : ∀ w ∈ ws, 1 ≤ w.length ∧ w.length ≤ 8 ∧ okLtr w = true ∧ PyData.strOk w = true
  asc : ∀ p ∈ ws.zip (ws.tail), dlt (.str p.1) (.str p.2) = true
theorem zip_drop_map {α : Type} (f : α → D) (xs : List α) : zipD (xs.map f) ((xs.map f).tail) = (xs.zip (xs.tail)).map fun p => .tup [f p.1, f p.2] := by
  unfold zipD
  rw [← List.map_tail, List.zip_map, List.map_map]
  rfl
theorem dLt_str {a b : Str} (h1 : PyData.strOk a = true) (h2 : PyData.strOk b = true) : dLt (.str a) (.str b) = some (.bl (dlt (.str a) (.str b))) := by
  have e : dltOk (.str a) (.str b) = true := by
    simp [dltOk, okd, h1, h2, isNon, D.py, PySem.W.alike]
  show (if dltOk (.str a) (.str b) then some (D.bl (dlt (.str a) (.str b))) else none) = _
  rw [if_pos e]
theorem mem_zip_drop {α : Type} {xs : List α} {p : α × α} (h : p ∈ xs.zip (xs.tail)) : p.1 ∈ xs ∧ p.2 ∈ xs := ⟨(List.of_mem_zip h).1, List.mem_of_mem_tail (List.of_mem_zip h).2⟩
theorem P_are_points {ws : List Str} (h : WOk ws) : Vl (f_are_points [.st (.tup (ws.map .str))]) (.bl true) := by
  have hz : ∀ w ∈ ws, w.length ≤ sizeLine := fun w hw => Nat.le_trans (h.word w hw).2.1 (by decide)
  have hl : ws.length ≤ sizeLine := Nat.le_trans h.len8 (by decide)
  have c1 : nLc (iAny (eV 0)) (tgN 3) tYesF (eCall f_is_word (lCons (eV 3) lNil)) [3] [.st (.tup (ws.map .str)), .un, .un, .un] = .ok (ws.map fun w => .bl (decide (1 ≤ w.length) && decide (w.length ≤ 8) && okLtr w)) [.st (.tup (ws.map .str)), .un, .un, .un] :=
    nLc_map ws .str _ (by simp [runDef, noEx, sRet, sExpr, sIf, sSet, sSeq, sNop, sAsg, sPar, sNew, SRes.bind, ofE, eAnd, eOr, eIf, eBin, eUn, eChain, eCB, eTup, eLst, eFz, nLst, eSl, poN, poS, eTake, eOLen, lNil, lCons, Res.bind, eK, eV, svAt, lift, toB, tV, tAndF, tOrF, tNotF, dNot, dNeg, iAny, iCall, dItemsA, dLen]) (by simp [stFree, SV.own, svAt]) (fun w hw => by
      have e : eCall f_is_word (lCons (eV 3) lNil) [.st (.tup (ws.map .str)), .un, .un, .st (.str w)] = .ok (.bl (decide (1 ≤ w.length) && decide (w.length ≤ 8) && okLtr w)) [.st (.tup (ws.map .str)), .un, .un, .st (.str w)] := eCall_ok (ds := [.str w]) rfl (P_is_word w (hz w hw))
      simp [runDef, noEx, sRet, sExpr, sIf, sSet, sSeq, sNop, sAsg, sPar, sNew, SRes.bind, ofE, eAnd, eOr, eIf, eBin, eUn, eChain, eCB, eTup, eLst, eFz, nLst, eSl, poN, poS, eTake, eOLen, lNil, lCons, Res.bind, eK, eV, svAt, lift, toB, tV, tAndF, tOrF, tNotF, dNot, dNeg, iAny, iCall, dItemsA, dLen, lcStep, tgN, tYesF, wipeP, e]) hl
  have c2 : nLc (iCall dZip (lCons (eV 0) (lCons (eSl (eV 0) (poS (eK (.int 1))) poN) lNil))) (tgT [1, 2]) tYesF (eBin dLt (eV 1) (eV 2)) [1, 2] [.st (.tup (ws.map .str)), .un, .un, .un] = .ok ((ws.zip (ws.tail)).map fun p => .bl (dlt (.str p.1) (.str p.2))) [.st (.tup (ws.map .str)), .un, .un, .un] :=
    nLc_map (ws.zip (ws.tail)) (fun p => .tup [.str p.1, .str p.2]) _ (by simp [runDef, noEx, sRet, sExpr, sIf, sSet, sSeq, sNop, sAsg, sPar, sNew, SRes.bind, ofE, eAnd, eOr, eIf, eBin, eUn, eChain, eCB, eTup, eLst, eFz, nLst, eSl, poN, poS, eTake, eOLen, lNil, lCons, Res.bind, eK, eV, svAt, lift, toB, tV, tAndF, tOrF, tNotF, dNot, dNeg, iAny, iCall, dItemsA, dLen, dSl, dZip, cutD_tail, zip_drop_map]) (by simp [stFree, SV.own, svAt]) (fun p hp => by
      obtain ⟨m1, m2⟩ := mem_zip_drop hp
      simp [runDef, noEx, sRet, sExpr, sIf, sSet, sSeq, sNop, sAsg, sPar, sNew, SRes.bind, ofE, eAnd, eOr, eIf, eBin, eUn, eChain, eCB, eTup, eLst, eFz, nLst, eSl, poN, poS, eTake, eOLen, lNil, lCons, Res.bind, eK, eV, svAt, lift, toB, tV, tAndF, tOrF, tNotF, dNot, dNeg, iAny, iCall, dItemsA, dLen, lcStep, tgT, setAll, tYesF, wipeP, dLt_str (h.word _ m1).2.2.2 (h.word _ m2).2.2.2]) (by rw [List.length_zip]; omega)
  refine ⟨[.st (.tup (ws.map .str)), .un, .un, .un], ?_⟩
  have a1 : (1 : Int) ≤ ws.length := by have := h.len1; omega
  have a2 : (ws.length : Int) ≤ 8 := by have := h.len8; omega
  have b1 : (ws.all fun w => decide (1 ≤ w.length) && decide (w.length ≤ 8) && okLtr w) = true := by
    rw [List.all_eq_true]; intro w hw
    obtain ⟨x1, x2, x3, _⟩ := h.word w hw
    simp [x1, x2, x3]
  simp [runDef, noEx, sRet, sExpr, sIf, sSet, sSeq, sNop, sAsg, sPar, sNew, SRes.bind, ofE, eAnd, eOr, eIf, eBin, eUn, eChain, eCB, eTup, eLst, eFz, nLst, eSl, poN, poS, eTake, eOLen, lNil, lCons, Res.bind, eK, eV, svAt, lift, toB, tV, tAndF, tOrF, tNotF, dNot, dNeg, iAny, iCall, dItemsA, dLen, f_are_points, B_are_points, dIsi, tyN, tyOk, isiB, dLe, dI2, a1, a2, c1, c2, dAll_bls, b1]
  exact fun a b hm => h.asc (a, b) hm
end PU.C
set_option maxHeartbeats 1000000
namespace PU.C
open PySem PySem.Spec PyProof.Rows L2 PU
theorem pyL_ints : ∀ ns : List Int, D.pyL (ns.map .int) = ns.map PyData.int
  | [] => rfl
  | n :: ns => by simp only [List.map_cons, D.pyL, D.py, pyL_ints ns]
theorem alike_ints : ∀ a b : List Int, PySem.W.alikeAll (a.map PyData.int) (b.map PyData.int) = true
  | [], _ => by simp [PySem.W.alikeAll]
  | _ :: _, [] => by simp [PySem.W.alikeAll]
  | x :: a, y :: b => by simp [PySem.W.alikeAll, PySem.W.alike, alike_ints a b]
theorem okd_ints (n : Nat) (ns : List Int) : okd (n + 1) (tI ns) = true := by
  show (ns.map D.int).all (okd n) = true
  rw [List.all_eq_true]; intro d hd
  obtain ⟨k, _, rfl⟩ := List.mem_map.mp hd
  cases n <;> rfl
theorem dLt_tI (a b : List Int) : dLt (tI a) (tI b) = some (.bl (dlt (tI a) (tI b))) := by
  have e : dltOk (tI a) (tI b) = true := by
    have h1 := okd_ints 59 a
    have h2 := okd_ints 59 b
    have h3 : PySem.W.alike (tI a).py (tI b).py = true := by
      show PySem.W.alike (.tuple (D.pyL (a.map .int))) (.tuple (D.pyL (b.map .int))) = true
      rw [pyL_ints, pyL_ints]
      simp [PySem.W.alike, alike_ints]
    unfold dltOk
    rw [h1, h2, h3]; rfl
  show (if dltOk (tI a) (tI b) then some (D.bl (dlt (tI a) (tI b))) else none) = _
  rw [if_pos e]
theorem atI3 {a b c : D} : L2.atI [a, b, c] (0 : Int) = some a ∧ L2.atI [a, b, c] (1 : Int) = some b ∧ L2.atI [a, b, c] (2 : Int) = some c := ⟨rfl, rfl, rfl⟩
structure COk (ws : List Str) (rs : List (List Int)) : Prop where
  w : WOk ws
  len1 : 1 ≤ rs.length
  len24 : rs.length ≤ 24
  row : ∀ r ∈ rs, r.length = ws.length ∧ ∀ x ∈ r, x = 0 ∨ x = 1
  asc : ∀ p ∈ rs.zip rs.tail, dlt (tI p.1) (tI p.2) = true
def cls (ws : List Str) (rs : List (List Int)) : D := .tup [.str "class", .tup (ws.map .str), .tup (rs.map tI)]
def bin (x : Int) : Bool := decide (0 ≤ x) && decide (x ≤ 1)
theorem isNeInt (a b : Int) : dNe (.int a) (.int b) = some (.bl (!decide (a = b))) := by
  simp [dNe, okd, deq, D.py, PyData.eqv]
  by_cases h : a = b <;> simp [h]
def rowTest : Sv := (sIf (tOrF (tNotF (tV (eUn (dIsi "tuple") (eV 1)))) (tOrF (tV (eBin dNe (eCB dLen (lCons (eV 1) lNil)) (eCB dLen (lCons (eBin dIx (eV 0) (eK (.int 1))) lNil)))) (tNotF (tV (eCB dAll (lCons (eFz (nLc (iAny (eV 1)) (tgN 4) tYesF (eCall f_is_label (lCons (eV 4) lNil)) [4])) lNil))))))
  (sRet (eK (.bl false)))
  sNop)
theorem P_rowTest {ws : List Str} {rs : List (List Int)} (hw : ws.length ≤ sizeLine) (r : List Int) (h1 : r.length = ws.length) (h2 : ∀ x ∈ r, x = 0 ∨ x = 1) : rowTest [.st (cls ws rs), .st (tI r), .un, .un, .un] = .nx [.st (cls ws rs), .st (tI r), .un, .un, .un] := by
  have hrl : r.length ≤ sizeLine := by rw [h1]; exact hw
  have c1 : nLc (iAny (eV 1)) (tgN 4) tYesF (eCall f_is_label (lCons (eV 4) lNil)) [4] [.st (cls ws rs), .st (tI r), .un, .un, .un] = .ok (r.map fun x => .bl (bin x)) [.st (cls ws rs), .st (tI r), .un, .un, .un] :=
    nLc_map r .int _ (by simp [runDef, noEx, sRet, sExpr, sIf, sSet, sSeq, sNop, sAsg, sPar, sNew, SRes.bind, ofE, eAnd, eOr, eIf, eBin, eUn, eChain, eCB, eTup, eLst, eFz, nLst, eSl, poN, poS, eTake, eOLen, lNil, lCons, Res.bind, eK, eV, svAt, lift, toB, tV, tAndF, tOrF, tNotF, dNot, dNeg, iAny, iCall, dItemsA, dLen, tI]) (by simp [stFree, SV.own, svAt]) (fun x hx => by
      have e : eCall f_is_label (lCons (eV 4) lNil) [.st (cls ws rs), .st (tI r), .un, .un, .st (.int x)] = .ok (.bl (bin x)) [.st (cls ws rs), .st (tI r), .un, .un, .st (.int x)] := eCall_ok (ds := [.int x]) rfl (P_is_label (.int x) (by simp [tyN]))
      simp [runDef, noEx, sRet, sExpr, sIf, sSet, sSeq, sNop, sAsg, sPar, sNew, SRes.bind, ofE, eAnd, eOr, eIf, eBin, eUn, eChain, eCB, eTup, eLst, eFz, nLst, eSl, poN, poS, eTake, eOLen, lNil, lCons, Res.bind, eK, eV, svAt, lift, toB, tV, tAndF, tOrF, tNotF, dNot, dNeg, iAny, iCall, dItemsA, dLen, lcStep, tgN, tYesF, wipeP, e]) hrl
  have b1 : r.all bin = true := by
    rw [List.all_eq_true]; intro x hx
    rcases h2 x hx with z | z <;> subst z <;> rfl
  have b2 := dAll_bls r bin
  rw [b1] at b2
  have e0 : (tV (eUn (dIsi "tuple") (eV 1))) [.st (cls ws rs), .st (tI r), .un, .un, .un] = .ok true [.st (cls ws rs), .st (tI r), .un, .un, .un] := by simp [runDef, noEx, sRet, sExpr, sIf, sSet, sSeq, sNop, sAsg, sPar, sNew, SRes.bind, ofE, eAnd, eOr, eIf, eBin, eUn, eChain, eCB, eTup, eLst, eFz, nLst, eSl, poN, poS, eTake, eOLen, lNil, lCons, Res.bind, eK, eV, svAt, lift, toB, tV, tAndF, tOrF, tNotF, dNot, dNeg, iAny, iCall, dItemsA, dLen, dIsi, tI, tyN, tyOk, isiB]
  have e1 : (tV (eBin dNe (eCB dLen (lCons (eV 1) lNil)) (eCB dLen (lCons (eBin dIx (eV 0) (eK (.int 1))) lNil)))) [.st (cls ws rs), .st (tI r), .un, .un, .un] = .ok false [.st (cls ws rs), .st (tI r), .un, .un, .un] := by
    simp [runDef, noEx, sRet, sExpr, sIf, sSet, sSeq, sNop, sAsg, sPar, sNew, SRes.bind, ofE, eAnd, eOr, eIf, eBin, eUn, eChain, eCB, eTup, eLst, eFz, nLst, eSl, poN, poS, eTake, eOLen, lNil, lCons, Res.bind, eK, eV, svAt, lift, toB, tV, tAndF, tOrF, tNotF, dNot, dNeg, iAny, iCall, dItemsA, dLen, cls, tI, dIx, atI3, isNeInt, h1]
  have e2 : (tV (eCB dAll (lCons (eFz (nLc (iAny (eV 1)) (tgN 4) tYesF (eCall f_is_label (lCons (eV 4) lNil)) [4])) lNil))) [.st (cls ws rs), .st (tI r), .un, .un, .un] = .ok true [.st (cls ws rs), .st (tI r), .un, .un, .un] := by
    simp only [tV, eCB, lCons, lNil, eFz, c1, Res.bind, b2, lift, toB]
  simp only [rowTest, sIf, tOrF, tNotF, e0, e1, e2, Res.bind, ofE, sNop]
  rfl
theorem P_is_class {ws : List Str} {rs : List (List Int)} (h : COk ws rs) : Vl (f_is_class [.st (cls ws rs)]) (.bl true) := by
  have hl : rs.length ≤ sizeLine := Nat.le_trans h.len24 (by decide)
  have hwl : ws.length ≤ sizeLine := Nat.le_trans h.w.len8 (by decide)
  have ap : ∀ ρ : Ρ, svAt ρ 0 = .st (cls ws rs) → eCall f_are_points (lCons (eBin dIx (eV 0) (eK (.int 1))) lNil) ρ = .ok (.bl true) ρ := fun ρ e => eCall_ok (ds := [.tup (ws.map .str)]) (by simp [lCons, lNil, eBin, eV, eK, e, Res.bind, cls, dIx, lift, atI3]) (P_are_points h.w)
  have key : ∀ (done : List (List Int)) (r : List Int) (ρ : Ρ), (∃ s, ρ = [.st (cls ws rs), s, .un, .un, .un]) → r ∈ rs → ∃ ρ1 ρ2, tgN 1 (tI r) ρ = some ρ1 ∧ (rowTest ρ1 = .nx ρ2 ∨ rowTest ρ1 = .ct ρ2) ∧ ∃ s, ρ2 = [.st (cls ws rs), s, .un, .un, .un] := by
    rintro done r _ ⟨s, rfl⟩ hr
    obtain ⟨h1, h2⟩ := h.row r hr
    exact ⟨[.st (cls ws rs), .st (tI r), .un, .un, .un], _, rfl, .inl (P_rowTest hwl r h1 h2), _, rfl⟩
  obtain ⟨ρ', e, s, rfl⟩ := forL_inv (T := tgN 1) (B := rowTest) tI (fun _ ρ => ∃ s, ρ = [.st (cls ws rs), s, .un, .un, .un]) rs [] [.st (cls ws rs), .un, .un, .un, .un] ⟨_, rfl⟩ key
  have c2 : nLc (iCall dZip (lCons (eBin dIx (eV 0) (eK (.int 2))) (lCons (eSl (eBin dIx (eV 0) (eK (.int 2))) (poS (eK (.int 1))) poN) lNil))) (tgT [2, 3]) tYesF (eBin dLt (eV 2) (eV 3)) [2, 3] [.st (cls ws rs), s, .un, .un, .un] = .ok ((rs.zip rs.tail).map fun p => .bl (dlt (tI p.1) (tI p.2))) [.st (cls ws rs), s, .un, .un, .un] :=
    nLc_map (rs.zip rs.tail) (fun p => .tup [tI p.1, tI p.2]) _ (by simp [runDef, noEx, sRet, sExpr, sIf, sSet, sSeq, sNop, sAsg, sPar, sNew, SRes.bind, ofE, eAnd, eOr, eIf, eBin, eUn, eChain, eCB, eTup, eLst, eFz, nLst, eSl, poN, poS, eTake, eOLen, lNil, lCons, Res.bind, eK, eV, svAt, lift, toB, tV, tAndF, tOrF, tNotF, dNot, dNeg, iAny, iCall, dItemsA, dLen, cls, dIx, atI3, dSl, dZip, cutD_tail, zip_drop_map]) (by simp [stFree, SV.own, svAt]) (fun p hp => by
      simp [runDef, noEx, sRet, sExpr, sIf, sSet, sSeq, sNop, sAsg, sPar, sNew, SRes.bind, ofE, eAnd, eOr, eIf, eBin, eUn, eChain, eCB, eTup, eLst, eFz, nLst, eSl, poN, poS, eTake, eOLen, lNil, lCons, Res.bind, eK, eV, svAt, lift, toB, tV, tAndF, tOrF, tNotF, dNot, dNeg, iAny, iCall, dItemsA, dLen, lcStep, tgT, setAll, tYesF, wipeP, dLt_tI]) (by rw [List.length_zip]; omega)
  have a1 : (1 : Int) ≤ rs.length := by have := h.len1; omega
  have a2 : (rs.length : Int) ≤ 24 := by have := h.len24; omega
  have b2 := dAll_bls (rs.zip rs.tail) fun p => dlt (tI p.1) (tI p.2)
  rw [List.all_eq_true.mpr h.asc] at b2
  have r1 : sIf (tOrF (tNotF (tV (eUn (dIsi "tuple") (eV 0)))) (tOrF (tV (eBin dNe (eCB dLen (lCons (eV 0) lNil)) (eK (.int 3)))) (tOrF (tNotF (tV (eUn (dIsi "str") (eBin dIx (eV 0) (eK (.int 0)))))) (tV (eBin dNe (eBin dIx (eV 0) (eK (.int 0))) (eK (.str "class"))))))) (sRet (eK (.bl false))) sNop [.st (cls ws rs), .un, .un, .un, .un] = .nx [.st (cls ws rs), .un, .un, .un, .un] := by
    have z0 : PyData.strOk "class" = true := by decide +kernel
    have z : dNe (.str "class") (.str "class") = some (.bl false) := by simp [dNe, okd, deq, D.py, PyData.eqv, z0]
    simp [runDef, noEx, sRet, sExpr, sIf, sSet, sSeq, sNop, sAsg, sPar, sNew, SRes.bind, ofE, eAnd, eOr, eIf, eBin, eUn, eChain, eCB, eTup, eLst, eFz, nLst, eSl, poN, poS, eTake, eOLen, lNil, lCons, Res.bind, eK, eV, svAt, lift, toB, tV, tAndF, tOrF, tNotF, dNot, dNeg, iAny, iCall, dItemsA, dLen, cls, dIsi, tyN, tyOk, isiB, isNeInt, dIx, atI3, z]
  have r2 : sIf (tOrF (tNotF (tV (eCall f_are_points (lCons (eBin dIx (eV 0) (eK (.int 1))) lNil)))) (tOrF (tNotF (tV (eUn (dIsi "tuple") (eBin dIx (eV 0) (eK (.int 2)))))) (tNotF (tV (eChain dLe dLe (eK (.int 1)) (eCB dLen (lCons (eBin dIx (eV 0) (eK (.int 2))) lNil)) (eK (.int 24))))))) (sRet (eK (.bl false))) sNop [.st (cls ws rs), .un, .un, .un, .un] = .nx [.st (cls ws rs), .un, .un, .un, .un] := by
    have z := ap [.st (cls ws rs), .un, .un, .un, .un] rfl
    have z1 : (tV (eCall f_are_points (lCons (eBin dIx (eV 0) (eK (.int 1))) lNil))) [.st (cls ws rs), .un, .un, .un, .un] = .ok true [.st (cls ws rs), .un, .un, .un, .un] := by simp only [tV, z, Res.bind, toB, lift]
    have z2 : (tV (eUn (dIsi "tuple") (eBin dIx (eV 0) (eK (.int 2))))) [.st (cls ws rs), .un, .un, .un, .un] = .ok true [.st (cls ws rs), .un, .un, .un, .un] := by simp [runDef, noEx, sRet, sExpr, sIf, sSet, sSeq, sNop, sAsg, sPar, sNew, SRes.bind, ofE, eAnd, eOr, eIf, eBin, eUn, eChain, eCB, eTup, eLst, eFz, nLst, eSl, poN, poS, eTake, eOLen, lNil, lCons, Res.bind, eK, eV, svAt, lift, toB, tV, tAndF, tOrF, tNotF, dNot, dNeg, iAny, iCall, dItemsA, dLen, cls, dIsi, tyN, tyOk, isiB, dIx, atI3]
    have z3 : (tV (eChain dLe dLe (eK (.int 1)) (eCB dLen (lCons (eBin dIx (eV 0) (eK (.int 2))) lNil)) (eK (.int 24)))) [.st (cls ws rs), .un, .un, .un, .un] = .ok true [.st (cls ws rs), .un, .un, .un, .un] := by simp [runDef, noEx, sRet, sExpr, sIf, sSet, sSeq, sNop, sAsg, sPar, sNew, SRes.bind, ofE, eAnd, eOr, eIf, eBin, eUn, eChain, eCB, eTup, eLst, eFz, nLst, eSl, poN, poS, eTake, eOLen, lNil, lCons, Res.bind, eK, eV, svAt, lift, toB, tV, tAndF, tOrF, tNotF, dNot, dNeg, iAny, iCall, dItemsA, dLen, cls, dIx, atI3, dLe, dI2, a1, a2]
    simp only [sIf, tOrF, tNotF, z1, z2, z3, Res.bind, ofE, sNop]
    rfl
  have r3 : sFor (iAny (eBin dIx (eV 0) (eK (.int 2)))) (tgN 1) rowTest [.st (cls ws rs), .un, .un, .un, .un] = .nx [.st (cls ws rs), s, .un, .un, .un] := by
    have z : iAny (eBin dIx (eV 0) (eK (.int 2))) [.st (cls ws rs), .un, .un, .un, .un] = .ok (rs.map tI) [.st (cls ws rs), .un, .un, .un, .un] := by simp [runDef, noEx, sRet, sExpr, sIf, sSet, sSeq, sNop, sAsg, sPar, sNew, SRes.bind, ofE, eAnd, eOr, eIf, eBin, eUn, eChain, eCB, eTup, eLst, eFz, nLst, eSl, poN, poS, eTake, eOLen, lNil, lCons, Res.bind, eK, eV, svAt, lift, toB, tV, tAndF, tOrF, tNotF, dNot, dNeg, iAny, iCall, dItemsA, dLen, cls, dIx, atI3]
    simp only [sFor, z, ofE, e]
  have r4 : (sRet (eCB dAll (lCons (eFz (nLc (iCall dZip (lCons (eBin dIx (eV 0) (eK (.int 2))) (lCons (eSl (eBin dIx (eV 0) (eK (.int 2))) (poS (eK (.int 1))) poN) lNil))) (tgT [2, 3]) tYesF (eBin dLt (eV 2) (eV 3)) [2, 3])) lNil))) [.st (cls ws rs), s, .un, .un, .un] = .rt (.bl true) [.st (cls ws rs), s, .un, .un, .un] := by
    simp only [sRet, eCB, lCons, lNil, eFz, c2, Res.bind, b2, lift, ofE]
  refine ⟨[.st (cls ws rs), s, .un, .un, .un], ?_⟩
  have all : B_is_class [.st (cls ws rs), .un, .un, .un, .un] = .rt (.bl true) [.st (cls ws rs), s, .un, .un, .un] := by
    show sSeq _ (sSeq _ (sSeq (sFor _ _ rowTest) _)) _ = _
    simp only [sSeq, r1, r2, r3, r4, SRes.bind]
  show noEx (runDef 5 B_is_class [.st (cls ws rs)]) = _
  have e9 : runDef 5 B_is_class [.st (cls ws rs)] = match B_is_class [.st (cls ws rs), .un, .un, .un, .un] with | .rt d ρ => .ok d ρ | .nx ρ => .ok .non ρ | .ex x ρ => .ex x ρ | _ => .bad := rfl
  rw [e9, all]
  rfl
end PU.C
set_option maxHeartbeats 1000000
namespace PU.C
open PySem PySem.Spec PyProof.Rows L2 PU
theorem lg {n k : Nat} (h : n < 2 ^ k) (hk : 0 < k) : n.log2 < k := by
  by_cases z : n = 0
  · subst z; simpa using hk
  · exact (Nat.log2_lt z).mpr h
theorem mulOk_of {i j : Int} {a b : Nat} (h1 : i.natAbs < 2 ^ a) (h2 : j.natAbs < 2 ^ b) (ha : 0 < a) (hb : 0 < b) (h : a + b ≤ 1000000) : mulOk i j = true := by
  have := lg h1 ha; have := lg h2 hb
  exact decide_eq_true (by omega)
def blendStep (t p b c : Int) : Int := (b * 69621 + c + t) % p
def blend1 (cells : List Int) (t p : Int) : Int := cells.foldl (blendStep t p) (48271 * t + p / 53)
def foundStep (cells : List Int) (t f p : Int) : Int := f * 2147483647 + (blend1 cells t p) ^ 5 % p
def pr3 : List Int := [2147483579, 2147483629, 2147483563]
def blendF (s : DrS) : Int := pr3.foldl (foundStep s.cells (s.turn + 1)) 0
/-- what is kept of the store of draws: b bounds the turns -/
structure DrI (b : Nat) (s : DrS) : Prop where
  t0 : 0 ≤ s.turn
  t1 : s.turn ≤ (b : Int)
  cell : ∀ c ∈ s.cells, 0 ≤ c
  n63 : s.cells.length ≤ 63
  great : ∀ g ∈ s.great, 0 ≤ g
  rest : 0 ≤ s.rest
theorem DrI.mono {b c : Nat} {s : DrS} (h : DrI b s) (hbc : b ≤ c) : DrI c s := ⟨h.t0, by have := h.t1; omega, h.cell, h.n63, h.great, h.rest⟩
theorem blend_bd {t p : Int} (ht : 0 ≤ t) (ht2 : t < 2 ^ 2000) (hp : 0 < p) (hp2 : p < 2 ^ 31) (cells : List Int) (hc : ∀ c ∈ cells, 0 ≤ c) : ∀ (b : Int), 0 ≤ b → b < 2 ^ 2100 → 0 ≤ cells.foldl (blendStep t p) b ∧ cells.foldl (blendStep t p) b < 2 ^ 2100 := by
  induction cells with
  | nil => intro b h1 h2; exact ⟨h1, h2⟩
  | cons c cells ih =>
    intro b h1 h2
    rw [List.foldl_cons]
    have q1 : 0 ≤ blendStep t p b c := Int.emod_nonneg _ (by omega)
    have q2 : blendStep t p b c < p := Int.emod_lt_of_pos _ hp
    refine ih (fun d hd => hc d (List.mem_cons_of_mem _ hd)) _ q1 (Int.lt_trans q2 (Int.lt_trans hp2 ?_))
    exact_mod_cast (Nat.pow_lt_pow_right (by decide : 1 < 2) (by decide : 31 < 2100))
theorem nat_bd {i : Int} {k : Nat} (h0 : 0 ≤ i) (h : i < 2 ^ k) : i.natAbs < 2 ^ k := by
  have : (i.natAbs : Int) = i := Int.natAbs_of_nonneg h0
  have h2 : (i.natAbs : Int) < ((2 ^ k : Nat) : Int) := by rw [this]; push_cast; exact h
  exact_mod_cast h2
end PU.C
set_option maxHeartbeats 1000000
set_option exponentiation.threshold 5000
namespace PU.C
open PySem PySem.Spec PyProof.Rows L2 PU
theorem p31 : (2147483647 : Int).natAbs < 2 ^ 31 := by decide
theorem pow_ok {b : Int} (h0 : 0 ≤ b) (h : b < 2 ^ 2100) : powOk b 5 = true := by
  have h1 : Builtin.Int.intBits b ≤ 2100 := by
    unfold Builtin.Int.intBits
    split
    · omega
    · have := lg (nat_bd h0 h) (by decide); omega
  simp only [powOk, Bool.and_eq_true, decide_eq_true_eq]
  refine ⟨by decide, ?_⟩
  have : ((Builtin.Int.intBits b : Nat) : Int) * 5 ≤ 2100 * 5 := by omega
  exact Int.le_trans this (by decide)
def blendBody : Sv := (sSet 4 (eBin dMod (eCB dInt (lCons (eBin dAdd (eBin dAdd (eBin dMulW (eV 4) (eK (.int 69621))) (eV 5)) (eV 1)) lNil)) (eV 3)))
theorem P_blendBody {s0 s2 : SV} {t p b c : Int} (h0 : 0 ≤ b) (h : b < 2 ^ 2100) (hp : 0 < p) :
    blendBody [s0, .st (.int t), s2, .st (.int p), .st (.int b), .st (.int c)] = .nx [s0, .st (.int t), s2, .st (.int p), .st (.int (blendStep t p b c)), .st (.int c)] := by
  have m : mulOk b 69621 = true := mulOk_of (nat_bd h0 h) (by decide : (69621 : Int).natAbs < 2 ^ 20) (by decide) (by decide) (by decide)
  simp [runDef, noEx, sRet, sExpr, sIf, sSet, sSeq, sNop, sAsg, sPar, sNew, SRes.bind, ofE, eAnd, eOr, eIf, eBin, eUn, eChain, eCB, eTup, eLst, eFz, nLst, eSl, poN, poS, eTake, eOLen, lNil, lCons, Res.bind, eK, eV, svAt, lift, toB, tV, tAndF, tOrF, tNotF, dNot, dNeg, iAny, iCall, dItemsA, dLen, blendBody, dMod, dI2, dMulW, dAdd, dInt, m, hp, blendStep]
theorem P_cells {s : DrS} {s2 : SV} {t p : Int} (ht : 0 ≤ t) (ht2 : t < 2 ^ 2000) (hp : 0 < p) (hp2 : p < 2 ^ 31) (hc : ∀ c ∈ s.cells, 0 ≤ c) (b : Int) (h0 : 0 ≤ b) (h : b < 2 ^ 2100) (s5 : SV) :
    ∃ s5', sFor (iAny (eDrCells 0)) (tgN 5) blendBody [.dr s, .st (.int t), s2, .st (.int p), .st (.int b), s5] = .nx [.dr s, .st (.int t), s2, .st (.int p), .st (.int (s.cells.foldl (blendStep t p) b)), s5'] := by
  have z : iAny (eDrCells 0) [.dr s, .st (.int t), s2, .st (.int p), .st (.int b), s5] = .ok (s.cells.map .int) [.dr s, .st (.int t), s2, .st (.int p), .st (.int b), s5] := by simp [runDef, noEx, sRet, sExpr, sIf, sSet, sSeq, sNop, sAsg, sPar, sNew, SRes.bind, ofE, eAnd, eOr, eIf, eBin, eUn, eChain, eCB, eTup, eLst, eFz, nLst, eSl, poN, poS, eTake, eOLen, lNil, lCons, Res.bind, eK, eV, svAt, lift, toB, tV, tAndF, tOrF, tNotF, dNot, dNeg, iAny, iCall, dItemsA, dLen, eDrCells]
  have key : ∀ (cells : List Int), (∀ c ∈ cells, 0 ≤ c) → ∀ (b : Int) (s5 : SV), 0 ≤ b → b < 2 ^ 2100 → ∃ s5', forL (tgN 5) blendBody (cells.map .int) [.dr s, .st (.int t), s2, .st (.int p), .st (.int b), s5] = .nx [.dr s, .st (.int t), s2, .st (.int p), .st (.int (cells.foldl (blendStep t p) b)), s5'] := by
    intro cells
    induction cells with
    | nil => intro _ b s5 _ _; exact ⟨s5, rfl⟩
    | cons c cells ih =>
      intro hc b s5 h0 h
      have q1 : 0 ≤ blendStep t p b c := Int.emod_nonneg _ (by omega)
      have q2 : blendStep t p b c < 2 ^ 2100 := Int.lt_trans (Int.lt_trans (Int.emod_lt_of_pos _ hp) hp2) (by decide)
      obtain ⟨s5', e⟩ := ih (fun d hd => hc d (List.mem_cons_of_mem _ hd)) (blendStep t p b c) (.st (.int c)) q1 q2
      refine ⟨s5', ?_⟩
      rw [List.map_cons, List.foldl_cons]
      have e1 : tgN 5 (.int c) [.dr s, .st (.int t), s2, .st (.int p), .st (.int b), s5] = some [.dr s, .st (.int t), s2, .st (.int p), .st (.int b), .st (.int c)] := rfl
      simp only [forL, e1, P_blendBody h0 h hp]
      exact e
  obtain ⟨s5', e⟩ := key s.cells hc b s5 h0 h
  exact ⟨s5', by simp only [sFor, z, ofE, e]⟩
def primeBody : Sv := (sSeq (sSet 4 (eBin dAdd (eBin dMulW (eK (.int 48271)) (eV 1)) (eBin dFdiv (eV 3) (eK (.int 53)))))
  (sSeq (sFor (iAny (eDrCells 0)) (tgN 5) blendBody)
  (sSet 2 (eBin dAdd (eBin dMulW (eV 2) (eK (.int 2147483647))) (eBin dMod (eCB dInt (lCons (eBin dPow (eV 4) (eK (.int 5))) lNil)) (eV 3))))))
theorem P_primeBody {s : DrS} {t p f : Int} (ht : 0 ≤ t) (ht2 : t < 2 ^ 2000) (hp : 0 < p) (hp2 : p < 2 ^ 31) (hc : ∀ c ∈ s.cells, 0 ≤ c) (hf0 : 0 ≤ f) (hf : f < 2 ^ 2100) (s4 s5 : SV) :
    ∃ s4' s5', primeBody [.dr s, .st (.int t), .st (.int f), .st (.int p), s4, s5] = .nx [.dr s, .st (.int t), .st (.int (foundStep s.cells t f p)), .st (.int p), s4', s5'] := by
  have m : mulOk 48271 t = true := mulOk_of (by decide : (48271 : Int).natAbs < 2 ^ 20) (nat_bd ht ht2) (by decide) (by decide) (by decide)
  have b0 : 0 ≤ 48271 * t + p / 53 := by have : 0 ≤ p / 53 := by omega
                                         omega
  have b1 : 48271 * t + p / 53 < 2 ^ 2100 := by
    have h1 : p / 53 < 2 ^ 31 := by omega
    have e : (2 : Int) ^ 2100 = 2 ^ 2000 * 2 ^ 100 := by rw [← Int.pow_add]
    have h2 : (2 : Int) ^ 100 = 1267650600228229401496703205376 := by decide
    have h3 : (1 : Int) ≤ 2 ^ 2000 := by decide
    rw [e, h2]
    generalize (2 : Int) ^ 2000 = X at *
    omega
  have e1 : sSet 4 (eBin dAdd (eBin dMulW (eK (.int 48271)) (eV 1)) (eBin dFdiv (eV 3) (eK (.int 53)))) [.dr s, .st (.int t), .st (.int f), .st (.int p), s4, s5] = .nx [.dr s, .st (.int t), .st (.int f), .st (.int p), .st (.int (48271 * t + p / 53)), s5] := by
    have z : Nat.log2 53 < 9000 := by decide
    simp [runDef, noEx, sRet, sExpr, sIf, sSet, sSeq, sNop, sAsg, sPar, sNew, SRes.bind, ofE, eAnd, eOr, eIf, eBin, eUn, eChain, eCB, eTup, eLst, eFz, nLst, eSl, poN, poS, eTake, eOLen, lNil, lCons, Res.bind, eK, eV, svAt, lift, toB, tV, tAndF, tOrF, tNotF, dNot, dNeg, iAny, iCall, dItemsA, dLen, dMulW, dAdd, dFdiv, dI2, m, z]
  obtain ⟨s5', e2⟩ := P_cells (s2 := .st (.int f)) ht ht2 hp hp2 hc _ b0 b1 s5
  obtain ⟨c0, c1⟩ := blend_bd ht ht2 hp hp2 s.cells hc _ b0 b1
  have m2 : mulOk f 2147483647 = true := mulOk_of (nat_bd hf0 hf) p31 (by decide) (by decide) (by decide)
  have e3 : sSet 2 (eBin dAdd (eBin dMulW (eV 2) (eK (.int 2147483647))) (eBin dMod (eCB dInt (lCons (eBin dPow (eV 4) (eK (.int 5))) lNil)) (eV 3))) [.dr s, .st (.int t), .st (.int f), .st (.int p), .st (.int (s.cells.foldl (blendStep t p) (48271 * t + p / 53))), s5'] =
      .nx [.dr s, .st (.int t), .st (.int (foundStep s.cells t f p)), .st (.int p), .st (.int (s.cells.foldl (blendStep t p) (48271 * t + p / 53))), s5'] := by
    have z := pow_ok c0 c1
    have z5 : ((5 : Int).toNat) = 5 := rfl
    simp [runDef, noEx, sRet, sExpr, sIf, sSet, sSeq, sNop, sAsg, sPar, sNew, SRes.bind, ofE, eAnd, eOr, eIf, eBin, eUn, eChain, eCB, eTup, eLst, eFz, nLst, eSl, poN, poS, eTake, eOLen, lNil, lCons, Res.bind, eK, eV, svAt, lift, toB, tV, tAndF, tOrF, tNotF, dNot, dNeg, iAny, iCall, dItemsA, dLen, dMulW, dAdd, dMod, dPow, dI2, dInt, m2, z, hp, z5, foundStep, blend1]
  exact ⟨.st (.int (s.cells.foldl (blendStep t p) (48271 * t + p / 53))), s5', by simp only [primeBody, sSeq, e1, e2, e3, SRes.bind]⟩
end PU.C
set_option maxHeartbeats 1000000
set_option exponentiation.threshold 5000
namespace PU.C
open PySem PySem.Spec PyProof.Rows L2 PU
theorem found_bd {cells : List Int} {t f p X : Int} (hp : 0 < p) (hp2 : p < 2 ^ 31) (h0 : 0 ≤ f) (h : f < X) : 0 ≤ foundStep cells t f p ∧ foundStep cells t f p < X * 2147483647 + 2 ^ 31 := by
  unfold foundStep
  have h1 : 0 ≤ blend1 cells t p ^ 5 % p := Int.emod_nonneg _ (by omega)
  have h2 : blend1 cells t p ^ 5 % p < p := Int.emod_lt_of_pos _ hp
  generalize blend1 cells t p ^ 5 % p = y at *
  have h3 : (2 : Int) ^ 31 = 2147483648 := by decide
  rw [h3] at *
  constructor <;> omega
theorem P_blended {b : Nat} {s : DrS} (h : DrI b s) (hb : (b : Int) < 2 ^ 1999) : ∃ l, f__law_blended [.dr s] = .ok (.int (blendF s)) (.dr { s with turn := s.turn + 1 } :: l) := by
  have t0 : 0 ≤ s.turn + 1 := by have := h.t0; omega
  have t1 : s.turn + 1 < 2 ^ 2000 := by
    have h1 := h.t1
    have e : (2 : Int) ^ 2000 = 2 ^ 1999 * 2 := by rw [← Int.pow_succ]
    have h3 : (1 : Int) ≤ 2 ^ 1999 := by decide
    rw [e]
    generalize (2 : Int) ^ 1999 = X at *
    omega
  have c := h.cell
  let s' : DrS := { s with turn := s.turn + 1 }
  have big : ∀ X : Int, X < 2 ^ 100 → X < 2 ^ 2100 := fun X hX => Int.lt_trans hX (by decide)
  obtain ⟨a1, a2, e1⟩ := P_primeBody (s := s') (t := s.turn + 1) (p := 2147483579) (f := 0) t0 t1 (by decide) (by decide) c (by decide) (by decide) .un .un
  obtain ⟨l1, u1⟩ := found_bd (cells := s.cells) (t := s.turn + 1) (f := 0) (p := 2147483579) (X := 1) (by decide) (by decide) (by decide) (by decide)
  obtain ⟨b1, b2, e2⟩ := P_primeBody (s := s') (t := s.turn + 1) (p := 2147483629) (f := foundStep s.cells (s.turn + 1) 0 2147483579) t0 t1 (by decide) (by decide) c l1 (big _ (Int.lt_trans u1 (by decide))) a1 a2
  obtain ⟨l2, u2⟩ := found_bd (cells := s.cells) (t := s.turn + 1) (p := 2147483629) (by decide) (by decide) l1 u1
  obtain ⟨c1, c2, e3⟩ := P_primeBody (s := s') (t := s.turn + 1) (p := 2147483563) (f := foundStep s.cells (s.turn + 1) (foundStep s.cells (s.turn + 1) 0 2147483579) 2147483629) t0 t1 (by decide) (by decide) c l2 (big _ (Int.lt_trans u2 (by decide))) b1 b2
  have z0 : sPar 1 2 (lCons (eBin dAdd (eDrTurn 0) (eK (.int 1))) (lCons (eK (.int 0)) lNil)) [.dr s, .un, .un, .un, .un, .un] = .nx [.dr s, .st (.int (s.turn + 1)), .st (.int 0), .un, .un, .un] := by
    simp [runDef, noEx, sRet, sExpr, sIf, sSet, sSeq, sNop, sAsg, sPar, sNew, SRes.bind, ofE, eAnd, eOr, eIf, eBin, eUn, eChain, eCB, eTup, eLst, eFz, nLst, eSl, poN, poS, eTake, eOLen, lNil, lCons, Res.bind, eK, eV, svAt, lift, toB, tV, tAndF, tOrF, tNotF, dNot, dNeg, iAny, iCall, dItemsA, dLen, eDrTurn, dAdd]
  have z1 : sDrTurn 0 (eV 1) [.dr s, .st (.int (s.turn + 1)), .st (.int 0), .un, .un, .un] = .nx [.dr s', .st (.int (s.turn + 1)), .st (.int 0), .un, .un, .un] := by
    simp [runDef, noEx, sRet, sExpr, sIf, sSet, sSeq, sNop, sAsg, sPar, sNew, SRes.bind, ofE, eAnd, eOr, eIf, eBin, eUn, eChain, eCB, eTup, eLst, eFz, nLst, eSl, poN, poS, eTake, eOLen, lNil, lCons, Res.bind, eK, eV, svAt, lift, toB, tV, tAndF, tOrF, tNotF, dNot, dNeg, iAny, iCall, dItemsA, dLen, sDrTurn, s']
  have z2 : sFor (iAny (eLst (lCons (eK (.int 2147483579)) (lCons (eK (.int 2147483629)) (lCons (eK (.int 2147483563)) lNil))))) (tgN 3) primeBody [.dr s', .st (.int (s.turn + 1)), .st (.int 0), .un, .un, .un] = .nx [.dr s', .st (.int (s.turn + 1)), .st (.int (blendF s)), .st (.int 2147483563), c1, c2] := by
    have i : iAny (eLst (lCons (eK (.int 2147483579)) (lCons (eK (.int 2147483629)) (lCons (eK (.int 2147483563)) lNil)))) [.dr s', .st (.int (s.turn + 1)), .st (.int 0), .un, .un, .un] = .ok [.int 2147483579, .int 2147483629, .int 2147483563] [.dr s', .st (.int (s.turn + 1)), .st (.int 0), .un, .un, .un] := rfl
    have g : ∀ p a b c d, tgN 3 (.int p) [.dr s', .st (.int (s.turn + 1)), a, b, c, d] = some [.dr s', .st (.int (s.turn + 1)), a, .st (.int p), c, d] := fun _ _ _ _ _ => rfl
    rw [show s'.cells = s.cells from rfl] at e1 e2 e3
    simp only [sFor, i, ofE, forL, g, e1, e2, e3]
    rfl
  have z : B__law_blended [.dr s, .un, .un, .un, .un, .un] = .rt (.int (blendF s)) [.dr s', .st (.int (s.turn + 1)), .st (.int (blendF s)), .st (.int 2147483563), c1, c2] := by
    have q : B__law_blended = sSeq (sPar 1 2 (lCons (eBin dAdd (eDrTurn 0) (eK (.int 1))) (lCons (eK (.int 0)) lNil))) (sSeq (sDrTurn 0 (eV 1)) (sSeq (sFor (iAny (eLst (lCons (eK (.int 2147483579)) (lCons (eK (.int 2147483629)) (lCons (eK (.int 2147483563)) lNil))))) (tgN 3) primeBody) (sRet (eV 2)))) := rfl
    rw [q]
    simp only [sSeq, z0, z1, z2, SRes.bind]
    rfl
  refine ⟨[.st (.int (s.turn + 1)), .st (.int (blendF s)), .st (.int 2147483563), c1, c2], ?_⟩
  show noEx (match B__law_blended [.dr s, .un, .un, .un, .un, .un] with | .rt d ρ => .ok d ρ | .nx ρ => .ok .non ρ | .ex x ρ => .ex x ρ | _ => .bad) = _
  rw [z]
  rfl
end PU.C
set_option maxHeartbeats 1000000
set_option exponentiation.threshold 5000
namespace PU.C
open PySem PySem.Spec PyProof.Rows L2 PU
/-- the store behind its filling up -/
def refill (s : DrS) : DrS := if s.rest = 0 then (match s.great with
  | g :: r => { s with great := r, rest := g }
  | [] => { s with turn := s.turn + 1, rest := blendF s }) else s
def drawV (s : DrS) (room : Int) : Int := (refill s).rest % room
def drawS (s : DrS) (room : Int) : DrS := { refill s with rest := (refill s).rest / room }
theorem blendF_bd (s : DrS) : 0 ≤ blendF s := by
  obtain ⟨l1, u1⟩ := found_bd (cells := s.cells) (t := s.turn + 1) (f := 0) (p := 2147483579) (X := 1) (by decide) (by decide) (by decide) (by decide)
  obtain ⟨l2, u2⟩ := found_bd (cells := s.cells) (t := s.turn + 1) (p := 2147483629) (by decide) (by decide) l1 u1
  exact (found_bd (cells := s.cells) (t := s.turn + 1) (p := 2147483563) (by decide) (by decide) l2 u2).1
theorem DrI.refill {b : Nat} {s : DrS} (h : DrI b s) : DrI (b + 1) (refill s) := by
  unfold C.refill
  split
  · cases hg : s.great with
    | nil => exact ⟨by have := h.t0; show 0 ≤ s.turn + 1; omega, by have := h.t1; show s.turn + 1 ≤ _; omega, h.cell, h.n63, by intro g hg'; simp at hg', blendF_bd s⟩
    | cons g r => exact ⟨h.t0, by have := h.t1; show s.turn ≤ _; omega, h.cell, h.n63, fun x hx => h.great x (by rw [hg]; exact List.mem_cons_of_mem _ hx), h.great g (by rw [hg]; exact List.mem_cons_self)⟩
  · exact h.mono (by omega)
theorem DrI.draw {b : Nat} {s : DrS} (h : DrI b s) {room : Int} (hr : 0 < room) : DrI (b + 1) (drawS s room) :=
  have q := h.refill
  ⟨q.t0, q.t1, q.cell, q.n63, q.great, Int.ediv_nonneg q.rest (by omega)⟩
theorem drawV_bd (s : DrS) {room : Int} (hr : 0 < room) : 0 ≤ drawV s room ∧ drawV s room < room := ⟨Int.emod_nonneg _ (by omega), Int.emod_lt_of_pos _ hr⟩
def BIG : Nat := 2 ^ 1900
theorem BIG_lt {b : Nat} (hb : b ≤ BIG) : (b : Int) < 2 ^ 1999 := by
  have h : b < 2 ^ 1999 := Nat.lt_of_le_of_lt hb (Nat.pow_lt_pow_right (by decide) (by decide))
  have e : ((2 ^ 1999 : Nat) : Int) = 2 ^ 1999 := Int.natCast_pow 2 1999
  rw [← e]
  exact Int.ofNat_lt.mpr h
theorem okd_int (i : Int) (n : Nat) : okd (n + 1) (.int i) = true := rfl
theorem deq_int (a b : Int) : deq (.int a) (.int b) = decide (a = b) := by
  unfold deq D.py PyData.eqv
  rfl
theorem dEq_int (a b : Int) : dEq (.int a) (.int b) = some (.bl (decide (a = b))) := by
  unfold dEq
  rw [deq_int]
  rfl
theorem P_refill {b : Nat} {s : DrS} (h : DrI b s) (hb : b ≤ BIG) (x1 x2 : SV) : sIf (tV (eBin dEq (eDrRest 0) (eK (.int 0)))) (sDrRest 0 (eIf (tV (eDrNe 0)) (eDrPop 0) (eCall1 0 f__law_blended lNil))) sNop [.dr s, x1, x2] = .nx [.dr (refill s), x1, x2] := by
  have t : tV (eBin dEq (eDrRest 0) (eK (.int 0))) [.dr s, x1, x2] = .ok (decide (s.rest = 0)) [.dr s, x1, x2] := by
    simp [runDef, noEx, sRet, sExpr, sIf, sSet, sSeq, sNop, sAsg, sPar, sNew, SRes.bind, ofE, eAnd, eOr, eIf, eBin, eUn, eChain, eCB, eTup, eLst, eFz, nLst, eSl, poN, poS, eTake, eOLen, lNil, lCons, Res.bind, eK, eV, svAt, lift, toB, tV, tAndF, tOrF, tNotF, dNot, dNeg, iAny, iCall, dItemsA, dLen, eDrRest, dEq_int]
  unfold refill
  by_cases hr : s.rest = 0
  · rw [if_pos hr]
    cases hg : s.great with
    | cons g r =>
      simp only [sIf, t, hr, ofE, decide_true, if_true]
      simp [runDef, noEx, sRet, sExpr, sIf, sSet, sSeq, sNop, sAsg, sPar, sNew, SRes.bind, ofE, eAnd, eOr, eIf, eBin, eUn, eChain, eCB, eTup, eLst, eFz, nLst, eSl, poN, poS, eTake, eOLen, lNil, lCons, Res.bind, eK, eV, svAt, lift, toB, tV, tAndF, tOrF, tNotF, dNot, dNeg, iAny, iCall, dItemsA, dLen, sDrRest, eDrNe, eDrPop, hg]
    | nil =>
      simp only [sIf, t, hr, ofE, decide_true, if_true]
      obtain ⟨l, e⟩ := P_blended h (BIG_lt hb)
      simp [runDef, noEx, sRet, sExpr, sIf, sSet, sSeq, sNop, sAsg, sPar, sNew, SRes.bind, ofE, eAnd, eOr, eIf, eBin, eUn, eChain, eCB, eTup, eLst, eFz, nLst, eSl, poN, poS, eTake, eOLen, lNil, lCons, Res.bind, eK, eV, svAt, lift, toB, tV, tAndF, tOrF, tNotF, dNot, dNeg, iAny, iCall, dItemsA, dLen, sDrRest, eDrNe, eDrPop, hg, eCall1, SV.own, stL, e]
  · rw [if_neg hr]
    simp only [sIf, t, hr, ofE, decide_false]
    rfl
end PU.C
set_option maxHeartbeats 1000000
set_option exponentiation.threshold 5000
namespace PU.C
open PySem PySem.Spec PyProof.Rows L2 PU
theorem room_ok {room : Int} (hr : 0 < room) (hr2 : room ≤ 1048576) : Nat.log2 room.natAbs < 9000 := by
  have h : room.natAbs < 2 ^ 21 := by
    have e : (2 : Nat) ^ 21 = 2097152 := by decide
    rw [e]; omega
  have := lg h (by decide)
  omega
theorem P_draw {b : Nat} {s : DrS} (h : DrI b s) (hb : b ≤ BIG) {room : Int} (hr : 0 < room) (hr2 : room ≤ 1048576) :
    ∃ l, f__law_draw [.dr s, .st (.int room)] = .ok (.int (drawV s room)) (.dr (drawS s room) :: l) := by
  have z : B__law_draw [.dr s, .st (.int room), .un] = .rt (.int (drawV s room)) [.dr (drawS s room), .st (.int room), .st (.int (drawV s room))] := by
    have lg' := room_ok hr hr2
    unfold B__law_draw
    simp only [sSeq, P_refill h hb, SRes.bind]
    simp [runDef, noEx, sRet, sExpr, sIf, sSet, sSeq, sNop, sAsg, sPar, sNew, SRes.bind, ofE, eAnd, eOr, eIf, eBin, eUn, eChain, eCB, eTup, eLst, eFz, nLst, eSl, poN, poS, eTake, eOLen, lNil, lCons, Res.bind, eK, eV, svAt, lift, toB, tV, tAndF, tOrF, tNotF, dNot, dNeg, iAny, iCall, dItemsA, dLen, eDrRest, dInt, dMod, dFdiv, sDrRest, dI2, hr, lg', drawV, drawS]
  refine ⟨[.st (.int room), .st (.int (drawV s room))], ?_⟩
  show noEx (match B__law_draw [.dr s, .st (.int room), .un] with | .rt d ρ => .ok d ρ | .nx ρ => .ok .non ρ | .ex x ρ => .ex x ρ | _ => .bad) = _
  rw [z]
  rfl
theorem ev_draw {b : Nat} {s : DrS} (h : DrI b s) (hb : b ≤ BIG) {ρ : Ρ} {i : Nat} {X : Ev D} {room : Int} (h0 : svAt ρ i = .dr s) (hX : X ρ = .ok (.int room) ρ) (hr : 0 < room) (hr2 : room ≤ 1048576) :
    eCall1 i f__law_draw (lCons X lNil) ρ = .ok (.int (drawV s room)) (ρ.set i (.dr (drawS s room))) := by
  obtain ⟨l, e⟩ := P_draw h hb hr hr2
  have e0 : lCons X lNil ρ = .ok [.int room] ρ := by simp [lCons, hX, lNil, Res.bind]
  have e1 : (SV.dr s).own = true := rfl
  simp only [eCall1, h0, e1, if_true, e0, Res.bind, stL, List.map, e]
  rfl
end PU.C
set_option maxHeartbeats 1000000
set_option exponentiation.threshold 5000
namespace PU.C
open PySem PySem.Spec PyProof.Rows L2 PU
/-! the draws: any wanted number comes at some turn -/
def An : Nat → Int
  | 0 => 48271
  | n + 1 => An n * 69621 + 1
def Bf (b : Int) (cells : List Int) : Int := cells.foldl (fun b c => b * 69621 + c) b
theorem mul_cong {p a a' b b' : Int} (h1 : a % p = a' % p) (h2 : b % p = b' % p) : (a * b) % p = (a' * b') % p := by
  rw [Int.mul_emod, h1, h2, ← Int.mul_emod]
theorem add_cong {p a a' b b' : Int} (h1 : a % p = a' % p) (h2 : b % p = b' % p) : (a + b) % p = (a' + b') % p := by
  rw [Int.add_emod, h1, h2, ← Int.add_emod]
theorem pow5_cong {p a a' : Int} (h : a % p = a' % p) : (a ^ 5) % p = (a' ^ 5) % p := by
  have e : ∀ x : Int, x ^ 5 = x * x * x * x * x := fun x => by
    rw [Int.pow_succ, Int.pow_succ, Int.pow_succ, Int.pow_succ, Int.pow_succ, Int.pow_zero, Int.one_mul]
  rw [e, e]
  exact mul_cong (mul_cong (mul_cong (mul_cong h h) h) h) h
theorem blend_aff {t p : Int} : ∀ (cells : List Int) (n : Nat) (b β : Int), b % p = (An n * t + β) % p →
    (cells.foldl (blendStep t p) b) % p = (An (n + cells.length) * t + Bf β cells) % p
  | [], n, b, β, h => h
  | c :: cells, n, b, β, h => by
    have q : blendStep t p b c % p = (An (n + 1) * t + (β * 69621 + c)) % p := by
      unfold blendStep
      rw [Int.emod_emod]
      have e : An (n + 1) * t + (β * 69621 + c) = (An n * t + β) * 69621 + c + t := by
        show (An n * 69621 + 1) * t + (β * 69621 + c) = _
        rw [Int.add_mul, Int.add_mul, Int.one_mul, Int.mul_right_comm]
        omega
      rw [e]
      exact add_cong (add_cong (mul_cong h rfl) rfl) rfl
    have r := blend_aff cells (n + 1) _ _ q
    rw [List.foldl_cons, r, List.length_cons, show n + 1 + cells.length = n + (cells.length + 1) by omega]
    rfl
theorem blend1_aff (cells : List Int) (t p : Int) : blend1 cells t p % p = (An cells.length * t + Bf (p / 53) cells) % p := by
  have h := blend_aff (t := t) (p := p) cells 0 (48271 * t + p / 53) (p / 53) rfl
  rw [Nat.zero_add] at h
  exact h
def pm (p : Int) : Nat → Int → Nat → Int
  | 0, _, _ => 1
  | f + 1, b, e => if e % 2 = 1 then pm p f (b * b % p) (e / 2) * b % p else pm p f (b * b % p) (e / 2)
def invOk (p : Int) : Bool := (List.range 64).all fun n => An n * pm p 32 (An n % p) (p - 2).toNat % p == 1
theorem inv1 : invOk 2147483579 = true := by decide +kernel
theorem inv2 : invOk 2147483629 = true := by decide +kernel
theorem inv3 : invOk 2147483563 = true := by decide +kernel
theorem inv_of {p : Int} (h : invOk p = true) {n : Nat} (hn : n ≤ 63) : ∃ u, An n * u % p = 1 := by
  have := List.all_eq_true.mp h n (List.mem_range.mpr (by omega))
  exact ⟨_, by simpa using this⟩
/-- a turn that has the wanted blend -/
theorem root {p : Int} (h : invOk p = true) (hp : 1 < p) {n : Nat} (hn : n ≤ 63) (B g : Int) : ∃ t, (An n * t + B) % p = g % p := by
  obtain ⟨u, hu⟩ := inv_of h hn
  refine ⟨u * (g - B), ?_⟩
  have e : (An n * u) % p = 1 % p := by rw [hu, Int.emod_eq_of_lt (by decide) hp]
  rw [← Int.mul_assoc]
  have q := add_cong (b := B) (b' := B) (mul_cong (b := g - B) (b' := g - B) e rfl) rfl
  rw [q]
  congr 1
  omega
def MM : Int := 9903519516461379889783524533
def crt1 : Int := 235208588510193165138497345
def crt2 : Int := 1293459670181656490358913329
def crt3 : Int := 8374851257769530234286113860
theorem crt_cong {p : Int} {t1 t2 t3 e1 e2 e3 : Int} (h1 : e1 % p = 1 % p) (h2 : e2 % p = 0) (h3 : e3 % p = 0) : (t1 * e1 + t2 * e2 + t3 * e3) % p = t1 % p := by
  have a : (t1 * e1) % p = t1 % p := by rw [mul_cong (a' := t1) rfl h1, Int.mul_one]
  have z : (0 : Int) % p = 0 := Int.zero_emod p
  have b : (t2 * e2) % p = 0 % p := by rw [mul_cong (a' := t2) (b' := 0) rfl (by rw [h2, z]), Int.mul_zero]
  have c : (t3 * e3) % p = 0 % p := by rw [mul_cong (a' := t3) (b' := 0) rfl (by rw [h3, z]), Int.mul_zero]
  rw [add_cong (add_cong a b) c, Int.add_zero, Int.add_zero]
theorem turn_ex {n : Nat} (hn : n ≤ 63) (B1 B2 B3 g1 g2 g3 t0 : Int) : ∃ T, t0 < T ∧ T ≤ t0 + MM ∧ (An n * T + B1) % 2147483579 = g1 % 2147483579 ∧ (An n * T + B2) % 2147483629 = g2 % 2147483629 ∧ (An n * T + B3) % 2147483563 = g3 % 2147483563 := by
  obtain ⟨t1, h1⟩ := root inv1 (by decide) hn B1 g1
  obtain ⟨t2, h2⟩ := root inv2 (by decide) hn B2 g2
  obtain ⟨t3, h3⟩ := root inv3 (by decide) hn B3 g3
  generalize hx : t1 * crt1 + t2 * crt2 + t3 * crt3 = x
  have m0 : (0 : Int) < MM := by decide
  have l1 := Int.emod_nonneg (x - t0 - 1) (show MM ≠ 0 by decide)
  have l2 := Int.emod_lt_of_pos (x - t0 - 1) m0
  have hT : ∀ p : Int, MM % p = 0 → (t0 + 1 + (x - t0 - 1) % MM) % p = x % p := by
    intro p hp
    rw [Int.emod_def (x - t0 - 1) MM]
    have e : t0 + 1 + (x - t0 - 1 - MM * ((x - t0 - 1) / MM)) = x + MM * (-((x - t0 - 1) / MM)) := by rw [Int.mul_neg]; omega
    have z : (0 : Int) % p = 0 := Int.zero_emod p
    rw [e, add_cong (b' := 0) (a := x) (a' := x) rfl (by rw [mul_cong (a' := 0) (b' := -((x - t0 - 1) / MM)) (by rw [hp, z]) rfl, Int.zero_mul]), Int.add_zero]
  refine ⟨t0 + 1 + (x - t0 - 1) % MM, by omega, by omega, ?_, ?_, ?_⟩
  · rw [← h1]
    refine add_cong (mul_cong rfl ((hT _ (by decide)).trans ?_)) rfl
    rw [← hx]; exact crt_cong (by decide) (by decide) (by decide)
  · rw [← h2]
    refine add_cong (mul_cong rfl ((hT _ (by decide)).trans ?_)) rfl
    rw [← hx, show t1 * crt1 + t2 * crt2 + t3 * crt3 = t2 * crt2 + t1 * crt1 + t3 * crt3 by omega]; exact crt_cong (by decide) (by decide) (by decide)
  · rw [← h3]
    refine add_cong (mul_cong rfl ((hT _ (by decide)).trans ?_)) rfl
    rw [← hx, show t1 * crt1 + t2 * crt2 + t3 * crt3 = t3 * crt3 + t1 * crt1 + t2 * crt2 by omega]; exact crt_cong (by decide) (by decide) (by decide)
def NN : Int := 8051749053686223515550216056
/-- the wanted number comes -/
theorem num_ex {cells : List Int} (hn : cells.length ≤ 63) (t0 : Int) : ∃ T, t0 < T ∧ T ≤ t0 + MM ∧ ∀ s : DrS, s.cells = cells → s.turn + 1 = T → blendF s = NN := by
  obtain ⟨T, a, b, h1, h2, h3⟩ := turn_ex hn (Bf (2147483579 / 53) cells) (Bf (2147483629 / 53) cells) (Bf (2147483563 / 53) cells) 1403192764 852521280 2030188730 t0
  refine ⟨T, a, b, fun s hc ht => ?_⟩
  have q1 := pow5_cong ((blend1_aff cells T 2147483579).trans h1)
  have q2 := pow5_cong ((blend1_aff cells T 2147483629).trans h2)
  have q3 := pow5_cong ((blend1_aff cells T 2147483563).trans h3)
  unfold blendF pr3
  rw [hc, ht]
  simp only [List.foldl, foundStep, q1, q2, q3]
  decide +kernel
end PU.C
set_option maxHeartbeats 1000000
set_option exponentiation.threshold 5000
namespace PU.C
open PySem PySem.Spec PyProof.Rows L2 PU
/-! the words of a store of draws, one behind the other -/
def lets : Nat → DrS → List Int
  | 0, _ => []
  | n + 1, s => drawV s 26 :: lets n (drawS s 26)
def letS : Nat → DrS → DrS
  | 0, s => s
  | n + 1, s => letS n (drawS s 26)
def wordV (s : DrS) : List Int := lets (1 + drawV s 8).toNat (drawS s 8)
def wordS (s : DrS) : DrS := letS (1 + drawV s 8).toNat (drawS s 8)
def itS : Nat → DrS → DrS
  | 0, s => s
  | k + 1, s => itS k (wordS s)
theorem itS_succ : ∀ (k : Nat) (s : DrS), itS (k + 1) s = wordS (itS k s)
  | 0, s => rfl
  | k + 1, s => itS_succ k (wordS s)
theorem itS_add (a : Nat) : ∀ (b : Nat) (s : DrS), itS (a + b) s = itS a (itS b s)
  | 0, s => rfl
  | b + 1, s => itS_add a b (wordS s)
def four (s : DrS) : List (List Int) := [wordV s, wordV (wordS s), wordV (wordS (wordS s)), wordV (wordS (wordS (wordS s)))]
def goodW : List Int → Bool
  | [] => false
  | _ :: [] => true
  | _ :: t => !t.all (· == 16)
def good4 (l : List (List Int)) : Bool := l.all goodW && (match l.map (·.headD 0) with
  | [a, b, c, d] => a != b && a != c && a != d && b != c && b != d && c != d
  | _ => false)
def starL (cells : List Int) (T : Int) : DrS := ⟨[], cells, NN, T⟩
def starJ (cells : List Int) (T : Int) (j : Nat) : DrS := letS j ⟨[], cells, NN / 26, T⟩
theorem draw_nz {great cells : List Int} {r T room : Int} (h : r ≠ 0) : drawV ⟨great, cells, r, T⟩ room = r % room ∧ drawS ⟨great, cells, r, T⟩ room = ⟨great, cells, r / room, T⟩ := by
  have e : refill ⟨great, cells, r, T⟩ = ⟨great, cells, r, T⟩ := by unfold refill; rw [if_neg h]
  unfold drawV drawS
  rw [e]
  exact ⟨rfl, rfl⟩
/-- the same from a number alone, none where it runs out -/
def digL : Nat → Int → Option (List Int × Int)
  | 0, r => some ([], r)
  | n + 1, r => if r = 0 then none else match digL n (r / 26) with
    | some (l, r') => some (r % 26 :: l, r')
    | none => none
def digW (r : Int) : Option (List Int × Int) := if r = 0 then none else digL (1 + r % 8).toNat (r / 8)
theorem digL_ok {cells : List Int} {T : Int} : ∀ (n : Nat) (r : Int) (l : List Int) (r' : Int), digL n r = some (l, r') → lets n ⟨[], cells, r, T⟩ = l ∧ letS n ⟨[], cells, r, T⟩ = ⟨[], cells, r', T⟩
  | 0, r, l, r', h => by
    simp only [digL, Option.some.injEq, Prod.mk.injEq] at h
    obtain ⟨rfl, rfl⟩ := h
    exact ⟨rfl, rfl⟩
  | n + 1, r, l, r', h => by
    simp only [digL] at h
    split at h
    · cases h
    · rename_i h0
      cases e : digL n (r / 26) with
      | none => rw [e] at h; cases h
      | some p =>
        obtain ⟨m, r2⟩ := p
        rw [e] at h
        simp only [Option.some.injEq, Prod.mk.injEq] at h
        obtain ⟨rfl, rfl⟩ := h
        obtain ⟨q1, q2⟩ := digL_ok (cells := cells) (T := T) n _ _ _ e
        obtain ⟨d1, d2⟩ := draw_nz (great := []) (cells := cells) (T := T) (room := 26) h0
        simp only [lets, letS, d1, d2, q1, q2]
        exact ⟨trivial, trivial⟩
theorem digW_ok {cells : List Int} {T : Int} {r r' : Int} {l : List Int} (h : digW r = some (l, r')) : wordV ⟨[], cells, r, T⟩ = l ∧ wordS ⟨[], cells, r, T⟩ = ⟨[], cells, r', T⟩ := by
  unfold digW at h
  split at h
  · cases h
  · rename_i h0
    obtain ⟨d1, d2⟩ := draw_nz (great := []) (cells := cells) (T := T) (room := 8) h0
    unfold wordV wordS
    rw [d1, d2]
    exact digL_ok _ _ _ _ h
def dig4 (r : Int) : Option (List (List Int)) := match digW r with
  | some (a, r1) => match digW r1 with
    | some (b, r2) => match digW r2 with
      | some (c, r3) => match digW r3 with
        | some (d, _) => some [a, b, c, d]
        | none => none
      | none => none
    | none => none
  | none => none
theorem dig4_ok {cells : List Int} {T : Int} {r : Int} {l : List (List Int)} (h : dig4 r = some l) : four ⟨[], cells, r, T⟩ = l ∧ (itS 4 ⟨[], cells, r, T⟩).turn = T := by
  unfold dig4 at h
  cases e1 : digW r with
  | none => rw [e1] at h; cases h
  | some p1 =>
    obtain ⟨a, r1⟩ := p1
    rw [e1] at h
    simp only at h
    cases e2 : digW r1 with
    | none => rw [e2] at h; cases h
    | some p2 =>
      obtain ⟨b, r2⟩ := p2
      rw [e2] at h
      simp only at h
      cases e3 : digW r2 with
      | none => rw [e3] at h; cases h
      | some p3 =>
        obtain ⟨c, r3⟩ := p3
        rw [e3] at h
        simp only at h
        cases e4 : digW r3 with
        | none => rw [e4] at h; cases h
        | some p4 =>
          obtain ⟨d, r4⟩ := p4
          rw [e4] at h
          simp only [Option.some.injEq] at h
          obtain ⟨a1, a2⟩ := digW_ok (cells := cells) (T := T) e1
          obtain ⟨b1, b2⟩ := digW_ok (cells := cells) (T := T) e2
          obtain ⟨c1, c2⟩ := digW_ok (cells := cells) (T := T) e3
          obtain ⟨d1, d2⟩ := digW_ok (cells := cells) (T := T) e4
          subst h
          simp only [four, itS, a1, a2, b1, b2, c1, c2, d1, d2]
          exact ⟨trivial, trivial⟩
def chk4 (r : Int) : Bool := match dig4 r with
  | some l => good4 l
  | none => false
theorem chk4_ok {cells : List Int} {T : Int} {r : Int} (h : chk4 r = true) : good4 (four ⟨[], cells, r, T⟩) = true ∧ (itS 4 ⟨[], cells, r, T⟩).turn = T := by
  unfold chk4 at h
  cases e : dig4 r with
  | none => rw [e] at h; cases h
  | some l =>
    rw [e] at h
    obtain ⟨h1, h2⟩ := dig4_ok (cells := cells) (T := T) e
    rw [h1]
    exact ⟨h, h2⟩
def chkJ (j : Nat) : Bool := match digL j (NN / 26) with
  | some (_, r) => chk4 r
  | none => false
theorem chk_all : chk4 NN = true ∧ ∀ j, j < 8 → chkJ j = true := by decide +kernel
theorem starL_ok (cells : List Int) (T : Int) : good4 (four (starL cells T)) = true ∧ (itS 4 (starL cells T)).turn = T := chk4_ok chk_all.1
theorem starJ_ok (cells : List Int) (T : Int) (j : Nat) (hj : j < 8) : good4 (four (starJ cells T j)) = true ∧ (itS 4 (starJ cells T j)).turn = T := by
  have h := chk_all.2 j hj
  unfold chkJ at h
  cases e : digL j (NN / 26) with
  | none => rw [e] at h; cases h
  | some p =>
    obtain ⟨l, r⟩ := p
    rw [e] at h
    unfold starJ
    rw [(digL_ok (cells := cells) (T := T) _ _ _ _ e).2]
    exact chk4_ok h
/-! the wanted number is met -/
theorem refill_cells (s : DrS) : (refill s).cells = s.cells := by
  unfold refill
  split
  · split <;> rfl
  · rfl
theorem drawS_cells (s : DrS) (r : Int) : (drawS s r).cells = s.cells := refill_cells s
theorem letS_cells : ∀ (n : Nat) (s : DrS), (letS n s).cells = s.cells
  | 0, s => rfl
  | n + 1, s => (letS_cells n _).trans (drawS_cells s 26)
theorem wordS_cells (s : DrS) : (wordS s).cells = s.cells := (letS_cells _ _).trans (drawS_cells s 8)
theorem itS_cells : ∀ (k : Nat) (s : DrS), (itS k s).cells = s.cells
  | 0, s => rfl
  | k + 1, s => (itS_cells k _).trans (wordS_cells s)
/-- a draw turns the store on -/
def Dn (s s' : DrS) : Prop := s.turn < s'.turn ∨ (s'.turn = s.turn ∧ (s'.great.length < s.great.length ∨ (s'.great.length = s.great.length ∧ s'.rest < s.rest)))
theorem Dn.trans {a b c : DrS} (h : Dn a b) (h' : Dn b c) : Dn a c := by unfold Dn at *; omega
theorem drawS_turn (s : DrS) (r : Int) : s.turn ≤ (drawS s r).turn ∧ (drawS s r).turn ≤ s.turn + 1 := by
  show s.turn ≤ (refill s).turn ∧ (refill s).turn ≤ s.turn + 1
  unfold refill
  split
  · split
    · exact ⟨by show s.turn ≤ s.turn; omega, by show s.turn ≤ s.turn + 1; omega⟩
    · exact ⟨by show s.turn ≤ s.turn + 1; omega, by show s.turn + 1 ≤ s.turn + 1; omega⟩
  · omega
def DrP (s : DrS) : Prop := ∃ b, DrI b s
theorem DrP.draw {s : DrS} (h : DrP s) {r : Int} (hr : 0 < r) : DrP (drawS s r) := h.elim fun b h => ⟨b + 1, h.draw hr⟩
theorem DrP.lets : ∀ (n : Nat) {s : DrS}, DrP s → DrP (letS n s)
  | 0, _, h => h
  | n + 1, _, h => DrP.lets n (h.draw (by decide))
theorem DrP.word {s : DrS} (h : DrP s) : DrP (wordS s) := DrP.lets _ (h.draw (by decide))
theorem DrP.it : ∀ (k : Nat) {s : DrS}, DrP s → DrP (itS k s)
  | 0, _, h => h
  | k + 1, _, h => DrP.it k h.word
theorem drawS_dn {s : DrS} (h : DrP s) {r : Int} (hr : 2 ≤ r) : Dn s (drawS s r) := by
  obtain ⟨b, h⟩ := h
  have h0 := h.rest
  unfold Dn drawS refill
  by_cases hz : s.rest = 0
  · rw [if_pos hz]
    cases hg : s.great with
    | nil => left; show s.turn < s.turn + 1; omega
    | cons g l => right; exact ⟨rfl, .inl (by show l.length < (g :: l).length; simp)⟩
  · rw [if_neg hz]
    right
    refine ⟨rfl, .inr ⟨rfl, ?_⟩⟩
    show s.rest / r < s.rest
    exact Int.ediv_lt_self_of_pos_of_ne_one (by omega) (by omega)
theorem letS_dn : ∀ (n : Nat) {s s0 : DrS}, DrP s → Dn s0 s → Dn s0 (letS n s)
  | 0, _, _, _, h => h
  | n + 1, s, _, hp, h => letS_dn n (hp.draw (by decide)) (h.trans (drawS_dn hp (by decide)))
theorem wordS_dn {s : DrS} (h : DrP s) : Dn s (wordS s) := letS_dn _ (h.draw (by decide)) (drawS_dn h (by decide))
theorem letS_turn : ∀ (n : Nat) (s : DrS), s.turn ≤ (letS n s).turn
  | 0, s => Int.le_refl _
  | n + 1, s => Int.le_trans (drawS_turn s 26).1 (letS_turn n _)
theorem wordS_turn (s : DrS) : s.turn ≤ (wordS s).turn := Int.le_trans (drawS_turn s 8).1 (letS_turn _ _)
theorem itS_turn : ∀ (k : Nat) (s : DrS), s.turn ≤ (itS k s).turn
  | 0, s => Int.le_refl _
  | k + 1, s => Int.le_trans (wordS_turn s) (itS_turn k _)
theorem itS_mono {i k : Nat} (h : i ≤ k) (s : DrS) : (itS i s).turn ≤ (itS k s).turn := by
  have e : k = (k - i) + i := by omega
  rw [e, itS_add]
  exact itS_turn _ _
theorem reach (T : Int) (s : DrS) (h : DrP s) (ht : s.turn < T) : ∃ k, (itS k s).turn < T ∧ T ≤ (wordS (itS k s)).turn := by
  by_cases hT : T ≤ (wordS s).turn
  · exact ⟨0, ht, hT⟩
  · obtain ⟨k, h1, h2⟩ := reach T (wordS s) h.word (by omega)
    exact ⟨k + 1, h1, h2⟩
termination_by ((T - s.turn).toNat, s.great.length, s.rest.toNat)
decreasing_by
  have q := wordS_dn h
  obtain ⟨b, hw⟩ := h.word
  obtain ⟨b2, hs⟩ := h
  have r1 := hw.rest
  have r2 := hs.rest
  simp only [Prod.lex_def]
  unfold Dn at q
  omega
theorem draw_hit {s : DrS} {cells : List Int} {T r : Int} (hc : s.cells = cells) (h1 : s.turn < T) (h2 : T ≤ (drawS s r).turn) (hN : ∀ s : DrS, s.cells = cells → s.turn + 1 = T → blendF s = NN) : refill s = starL cells T := by
  have h3 := (drawS_turn s r).2
  have h4 : (drawS s r).turn = (refill s).turn := rfl
  rw [h4] at h2 h3
  unfold refill at h2 h3 ⊢
  split at h2
  · rename_i hz
    rw [if_pos hz] at h3 ⊢
    split at h2
    · have : s.turn < s.turn := Int.lt_of_lt_of_le h1 h2
      omega
    · rename_i hg
      simp only [hg] at h3 ⊢
      have h2' : T ≤ s.turn + 1 := h2
      have e : s.turn + 1 = T := by omega
      rw [hN s hc e, e, hc]
      rfl
  · omega
theorem let_hit {cells : List Int} {T : Int} (hN : ∀ s : DrS, s.cells = cells → s.turn + 1 = T → blendF s = NN) : ∀ (n : Nat) (s : DrS), s.cells = cells → s.turn < T → T ≤ (letS n s).turn → ∃ j, j < n ∧ letS n s = starJ cells T j
  | 0, s, _, h1, h2 => by have h2' : T ≤ s.turn := h2; omega
  | n + 1, s, hc, h1, h2 => by
    by_cases h : T ≤ (drawS s 26).turn
    · refine ⟨n, by omega, ?_⟩
      have e := draw_hit hc h1 h hN
      show letS n (drawS s 26) = _
      unfold drawS
      rw [e]
      rfl
    · obtain ⟨j, hj, e⟩ := let_hit hN n (drawS s 26) ((drawS_cells s 26).trans hc) (by omega) h2
      exact ⟨j, by omega, e⟩
theorem refill_star (cells : List Int) (T : Int) : refill (starL cells T) = starL cells T := by
  unfold refill
  rw [if_neg (show ¬ (starL cells T).rest = 0 from (by decide : ¬ NN = 0))]
theorem word_hit {cells : List Int} {T : Int} (hN : ∀ s : DrS, s.cells = cells → s.turn + 1 = T → blendF s = NN) (s : DrS) (hc : s.cells = cells) (h1 : s.turn < T) (h2 : T ≤ (wordS s).turn) :
    (wordV s = wordV (starL cells T) ∧ wordS s = wordS (starL cells T)) ∨ ∃ j, j < 8 ∧ wordS s = starJ cells T j := by
  by_cases h : T ≤ (drawS s 8).turn
  · left
    have e := draw_hit hc h1 h hN
    have v : drawV s 8 = drawV (starL cells T) 8 := by unfold drawV; rw [e, refill_star]
    have w : drawS s 8 = drawS (starL cells T) 8 := by unfold drawS; rw [e, refill_star]
    unfold wordV wordS
    rw [v, w]
    exact ⟨rfl, rfl⟩
  · right
    obtain ⟨j, hj, e⟩ := let_hit hN _ _ ((drawS_cells s 8).trans hc) (by omega) h2
    have b := drawV_bd s (room := 8) (by decide)
    exact ⟨j, by omega, e⟩
/-- from any store good words come -/
theorem stream {s : DrS} (h : DrP s) : ∃ k, good4 (four (itS k s)) = true ∧ (itS (k + 4) s).turn ≤ s.turn + MM := by
  have hn : s.cells.length ≤ 63 := h.elim fun b h => h.n63
  obtain ⟨T, t1, t2, hN⟩ := num_ex hn s.turn
  obtain ⟨k, k1, k2⟩ := reach T s h t1
  rcases word_hit hN (itS k s) (itS_cells k s) k1 k2 with ⟨e1, e2⟩ | ⟨j, hj, e⟩
  · refine ⟨k, ?_, ?_⟩
    · have q : four (itS k s) = four (starL s.cells T) := by unfold four; rw [e1, e2]
      rw [q]; exact (starL_ok _ _).1
    · rw [Nat.add_comm k 4, itS_add]
      have q : itS 4 (itS k s) = itS 4 (starL s.cells T) := by show itS 3 (wordS (itS k s)) = itS 3 (wordS (starL s.cells T)); rw [e2]
      rw [q, (starL_ok _ _).2]; exact t2
  · refine ⟨k + 1, ?_, ?_⟩
    · rw [itS_succ, e]; exact (starJ_ok _ _ j hj).1
    · have q : itS (k + 1 + 4) s = itS 4 (starJ s.cells T j) := by rw [Nat.add_comm (k + 1) 4, itS_add, itS_succ k, e]
      rw [q, (starJ_ok _ _ j hj).2]; exact t2
end PU.C
set_option maxHeartbeats 1000000
set_option exponentiation.threshold 5000
namespace PU.C
open PySem PySem.Spec PyProof.Rows L2 PU
/-! what is found grows -/
def wstr (l : List Int) : Str := ⟨(l.map fun i => 97 + i.toNat).toArray⟩
def Let (l : List Int) : Prop := ∀ i ∈ l, 0 ≤ i ∧ i < 26
theorem wstr_inj {l m : List Int} (hl : Let l) (hm : Let m) (h : wstr l = wstr m) : l = m := by
  have h1 : (l.map fun i => 97 + i.toNat) = (m.map fun i => 97 + i.toNat) := by
    have := congrArg (fun s : Str => s.cps.toList) h
    simpa [wstr] using this
  clear h
  induction l generalizing m with
  | nil => cases m with
    | nil => rfl
    | cons _ _ => cases h1
  | cons a l ih => cases m with
    | nil => cases h1
    | cons b m =>
      simp only [List.map_cons, List.cons.injEq] at h1
      have ha := hl a List.mem_cons_self
      have hb := hm b List.mem_cons_self
      rw [ih (fun i hi => hl i (List.mem_cons_of_mem _ hi)) (fun i hi => hm i (List.mem_cons_of_mem _ hi)) h1.2]
      congr 1
      omega
def qw (w : List Int) (m : Nat) : List Int := w.take 1 ++ List.replicate m 16
def fstep (w : List Int) (found : List Str) : List Str :=
  if wstr w ∈ found then (if wstr (qw w found.length) ∉ found ∧ found.length < 8 then found ++ [wstr (qw w found.length)] else found) else found ++ [wstr w]
theorem lets_Let : ∀ (n : Nat) (s : DrS), Let (lets n s)
  | 0, _ => fun i hi => by cases hi
  | n + 1, s => fun i hi => by
    rcases List.mem_cons.mp hi with rfl | hi
    · exact drawV_bd s (by decide)
    · exact lets_Let n _ i hi
theorem lets_len : ∀ (n : Nat) (s : DrS), (lets n s).length = n
  | 0, _ => rfl
  | n + 1, s => by rw [lets, List.length_cons, lets_len n]
theorem wordV_Let (s : DrS) : Let (wordV s) := lets_Let _ _
theorem wordV_len (s : DrS) : 1 ≤ (wordV s).length ∧ (wordV s).length ≤ 8 := by
  unfold wordV
  rw [lets_len]
  have := drawV_bd s (room := 8) (by decide)
  omega
theorem qw_Let {w : List Int} (h : Let w) (m : Nat) : Let (qw w m) := fun i hi => by
  rcases List.mem_append.mp hi with hi | hi
  · exact h i (List.mem_of_mem_take hi)
  · have := (List.mem_replicate.mp hi).2
    subst this
    decide
theorem nodup_len {α : Type} [DecidableEq α] : ∀ (l f : List α), l.Nodup → (∀ x ∈ l, x ∈ f) → l.length ≤ f.length
  | [], _, _, _ => Nat.zero_le _
  | x :: l, f, h, hs => by
    have hx := hs x List.mem_cons_self
    have h1 := List.nodup_cons.mp h
    have := nodup_len l (f.erase x) h1.2 fun y hy => by
      have ne : y ≠ x := fun e => h1.1 (e ▸ hy)
      exact (List.mem_erase_of_ne ne).mpr (hs y (List.mem_cons_of_mem _ hy))
    rw [List.length_erase_of_mem hx] at this
    have : 0 < f.length := List.length_pos_of_mem hx
    rw [List.length_cons]
    omega
theorem nodup_map_wstr : ∀ (l : List (List Int)), (∀ w ∈ l, Let w) → l.Nodup → (l.map wstr).Nodup
  | [], _, _ => List.nodup_nil
  | w :: l, h, hn => by
    have h1 := List.nodup_cons.mp hn
    refine List.nodup_cons.mpr ⟨fun hm => ?_, nodup_map_wstr l (fun v hv => h v (List.mem_cons_of_mem _ hv)) h1.2⟩
    obtain ⟨v, hv, e⟩ := List.mem_map.mp hm
    have := wstr_inj (h v (List.mem_cons_of_mem _ hv)) (h w List.mem_cons_self) e
    exact h1.1 (this ▸ hv)
theorem fstep_same {w : List Int} {found : List Str} (h : fstep w found = found) (hf : found.length ≤ 7) : wstr w ∈ found ∧ wstr (qw w found.length) ∈ found := by
  have ne : ∀ x : Str, found ++ [x] ≠ found := fun x e => by
    have := congrArg List.length e
    simp at this
  unfold fstep at h
  split at h
  · rename_i hw
    refine ⟨hw, ?_⟩
    split at h
    · exact absurd h (ne _)
    · rename_i hq
      exact Decidable.byContradiction fun hn => hq ⟨hn, by omega⟩
  · exact absurd h (ne _)
theorem goodW_cons {w : List Int} (h : goodW w = true) : ∃ a t, w = a :: t ∧ ∀ m, 1 ≤ m → t ≠ List.replicate m 16 := by
  cases w with
  | nil => cases h
  | cons a t =>
    refine ⟨a, t, rfl, fun m hm e => ?_⟩
    cases t with
    | nil => cases m with
      | zero => omega
      | succ m => cases e
    | cons b t =>
      have h' : (!(b :: t).all (· == 16)) = true := h
      rw [e] at h'
      simp at h'
/-- four good words cannot all be met already -/
theorem grow4 {l : List (List Int)} (h : good4 l = true) (hL : ∀ w ∈ l, Let w) (found : List Str) (hf : found.length ≤ 7) : ∃ w ∈ l, fstep w found ≠ found := by
  refine Decidable.byContradiction fun hn => ?_
  have hall : ∀ w ∈ l, fstep w found = found := fun w hw => Decidable.byContradiction fun e => hn ⟨w, hw, e⟩
  simp only [good4, Bool.and_eq_true] at h
  obtain ⟨h1, h2⟩ := h
  have h1' := List.all_eq_true.mp h1
  rcases l with _ | ⟨w1, _ | ⟨w2, _ | ⟨w3, _ | ⟨w4, _ | ⟨w5, l⟩⟩⟩⟩⟩
  · cases h2
  · cases h2
  · cases h2
  · cases h2
  · obtain ⟨a1, t1, rfl, q1⟩ := goodW_cons (h1' w1 (by simp))
    obtain ⟨a2, t2, rfl, q2⟩ := goodW_cons (h1' w2 (by simp))
    obtain ⟨a3, t3, rfl, q3⟩ := goodW_cons (h1' w3 (by simp))
    obtain ⟨a4, t4, rfl, q4⟩ := goodW_cons (h1' w4 (by simp))
    simp at h2
    obtain ⟨⟨⟨⟨⟨d12, d13⟩, d14⟩, d23⟩, d24⟩, d34⟩ := h2
    have hm1 : 1 ≤ found.length := List.length_pos_of_mem (fstep_same (hall (a1 :: t1) (by simp)) hf).1
    have p1 := fstep_same (hall (a1 :: t1) (by simp)) hf
    have p2 := fstep_same (hall (a2 :: t2) (by simp)) hf
    have p3 := fstep_same (hall (a3 :: t3) (by simp)) hf
    have p4 := fstep_same (hall (a4 :: t4) (by simp)) hf
    obtain ⟨m, hmm⟩ : ∃ m, found.length = m := ⟨_, rfl⟩
    rw [hmm] at p1 p2 p3 p4 hm1
    have L1 := hL (a1 :: t1) (by simp)
    have L2 := hL (a2 :: t2) (by simp)
    have L3 := hL (a3 :: t3) (by simp)
    have L4 := hL (a4 :: t4) (by simp)
    have key := nodup_len ([a1 :: t1, qw (a1 :: t1) m, a2 :: t2, qw (a2 :: t2) m, a3 :: t3, qw (a3 :: t3) m, a4 :: t4, qw (a4 :: t4) m].map wstr) found
      (nodup_map_wstr _ (by
        intro w hw
        simp only [List.mem_cons, List.not_mem_nil, or_false] at hw
        rcases hw with rfl | rfl | rfl | rfl | rfl | rfl | rfl | rfl
        · exact L1
        · exact qw_Let L1 m
        · exact L2
        · exact qw_Let L2 m
        · exact L3
        · exact qw_Let L3 m
        · exact L4
        · exact qw_Let L4 m) (by
        have r1 := q1 m hm1
        have r2 := q2 m hm1
        have r3 := q3 m hm1
        have r4 := q4 m hm1
        have e : ∀ (a : Int) (t : List Int), qw (a :: t) m = a :: List.replicate m 16 := fun a t => rfl
        simp only [e]
        simp [d12, d13, d14, d23, d24, d34, r1, r2, r3, r4])) (by
        intro x hx
        simp only [List.map_cons, List.map_nil, List.mem_cons, List.not_mem_nil, or_false] at hx
        rcases hx with rfl | rfl | rfl | rfl | rfl | rfl | rfl | rfl
        · exact p1.1
        · exact p1.2
        · exact p2.1
        · exact p2.2
        · exact p3.1
        · exact p3.2
        · exact p4.1
        · exact p4.2)
    simp only [List.length_map, List.length_cons, List.length_nil] at key
    omega
  · cases h2
/-- the first word that makes what is found grow -/
theorem first_grow (found : List Str) : ∀ (k : Nat) (s : DrS), (∃ i, i < k ∧ fstep (wordV (itS i s)) found ≠ found) → ∃ i, i < k ∧ (∀ j, j < i → fstep (wordV (itS j s)) found = found) ∧ fstep (wordV (itS i s)) found ≠ found
  | 0, s, h => by obtain ⟨i, hi, _⟩ := h; omega
  | k + 1, s, h => by
    by_cases h0 : fstep (wordV s) found = found
    · obtain ⟨i, hi, hg⟩ := h
      cases i with
      | zero => exact absurd h0 hg
      | succ i =>
        obtain ⟨j, hj, a, b⟩ := first_grow found k (wordS s) ⟨i, by omega, hg⟩
        refine ⟨j + 1, by omega, fun l hl => ?_, b⟩
        cases l with
        | zero => exact h0
        | succ l => exact a l (by omega)
    · exact ⟨0, by omega, fun j hj => by omega, h0⟩
theorem grow {s : DrS} (h : DrP s) (found : List Str) (hf : found.length ≤ 7) :
    ∃ i, (∀ j, j < i → fstep (wordV (itS j s)) found = found) ∧ fstep (wordV (itS i s)) found ≠ found ∧ (itS (i + 1) s).turn ≤ s.turn + MM := by
  obtain ⟨k, g, t⟩ := stream h
  have e : four (itS k s) = [wordV (itS k s), wordV (itS (k + 1) s), wordV (itS (k + 2) s), wordV (itS (k + 3) s)] := by
    rw [Nat.add_comm k 1, Nat.add_comm k 2, Nat.add_comm k 3, itS_add, itS_add 2, itS_add 3]
    rfl
  obtain ⟨w, hw, ne⟩ := grow4 g (fun w hw => by
    rw [e] at hw
    simp only [List.mem_cons, List.not_mem_nil, or_false] at hw
    rcases hw with rfl | rfl | rfl | rfl <;> exact wordV_Let _) found hf
  rw [e] at hw
  simp only [List.mem_cons, List.not_mem_nil, or_false] at hw
  have ex : ∃ i, i < k + 4 ∧ fstep (wordV (itS i s)) found ≠ found := by
    rcases hw with rfl | rfl | rfl | rfl
    · exact ⟨k, by omega, ne⟩
    · exact ⟨k + 1, by omega, ne⟩
    · exact ⟨k + 2, by omega, ne⟩
    · exact ⟨k + 3, by omega, ne⟩
  obtain ⟨i, hi, a, b⟩ := first_grow found _ s ex
  exact ⟨i, a, b, Int.le_trans (itS_mono (by omega) s) t⟩
end PU.C
set_option maxHeartbeats 1000000
set_option exponentiation.threshold 5000
namespace PU.C
open PySem PySem.Spec PyProof.Rows L2 PU
/-! comprehensions that draw -/
def seqS (S : DrS → DrS) : Nat → DrS → DrS
  | 0, s => s
  | n + 1, s => seqS S n (S s)
def seqF {α β : Type} (V : α → DrS → Option β) (S : DrS → DrS) : List α → DrS → List β
  | [], _ => []
  | x :: xs, s => (V x s).toList ++ seqF V S xs (S s)
theorem lcL_dr {α : Type} {F : D → Ρ → Res (Option D)} {R : DrS → Ρ} (f : α → D) (V : α → DrS → Option D) (S : DrS → DrS) (N c : Nat) :
    ∀ (xs : List α), (∀ x ∈ xs, ∀ s b, DrI b s → b ≤ N → F (f x) (R s) = .ok (V x s) (R (S s)) ∧ DrI (b + c) (S s)) →
    ∀ (acc : List D) (s : DrS) (b : Nat), DrI b s → b + xs.length * c ≤ N → acc.length + xs.length ≤ sizeLine →
      lcL F (xs.map f) (R s) acc = .ok (acc ++ seqF V S xs s) (R (seqS S xs.length s)) ∧ DrI (b + xs.length * c) (seqS S xs.length s)
  | [], _, acc, s, b, h, _, _ => ⟨by simp [lcL, seqF, seqS], by simpa [seqS] using h⟩
  | x :: xs, hs, acc, s, b, h, hb, hz => by
    have e0 : (x :: xs).length * c = xs.length * c + c := by rw [List.length_cons, Nat.succ_mul]
    rw [e0] at hb ⊢
    rw [List.length_cons] at hz
    obtain ⟨e1, h1⟩ := hs x List.mem_cons_self s b h (by omega)
    have hz1 : acc.length < sizeLine := by omega
    have ih := fun acc' (hz' : acc'.length + xs.length ≤ sizeLine) => lcL_dr f V S N c xs (fun y hy => hs y (List.mem_cons_of_mem _ hy)) acc' (S s) (b + c) h1 (by omega) hz'
    have e2 : b + (xs.length * c + c) = b + c + xs.length * c := by omega
    rw [e2]
    simp only [List.map_cons, lcL, e1, Res.bind, seqF, List.length_cons, seqS]
    cases hv : V x s with
    | none =>
      simp only [Option.toList, List.nil_append]
      exact ih acc (by omega)
    | some d =>
      simp only [Option.toList, if_pos hz1]
      have := ih (acc ++ [d]) (by simp; omega)
      rw [List.append_assoc] at this
      exact this
theorem nLc_dr {α : Type} {I : Ev (List D)} {T : D → Ρ → Option Ρ} {tt : Ev Bool} {te : Ev D} {vs : List Nat} {ρ ρ1 : Ρ} (R : DrS → Ρ) (f : α → D) (V : α → DrS → Option D) (S : DrS → DrS) (N c : Nat) (xs : List α) (s : DrS) (b : Nat)
    (hI : I ρ = .ok (xs.map f) ρ1) (hf : stFree ρ1 vs = true) (hw : wipeP ρ1 vs = R s)
    (hs : ∀ x ∈ xs, ∀ s b, DrI b s → b ≤ N → lcStep T tt te vs (f x) (R s) = .ok (V x s) (R (S s)) ∧ DrI (b + c) (S s))
    (h : DrI b s) (hb : b + xs.length * c ≤ N) (hz : xs.length ≤ sizeLine) :
    nLc I T tt te vs ρ = .ok (seqF V S xs s) (restore ρ1 vs (R (seqS S xs.length s))) ∧ DrI (b + xs.length * c) (seqS S xs.length s) := by
  obtain ⟨e, h'⟩ := lcL_dr (F := lcStep T tt te vs) (R := R) f V S N c xs hs [] s b h hb (by simpa using hz)
  refine ⟨?_, h'⟩
  simp only [nLc, hI, Res.bind, if_pos hf, hw, e, List.nil_append]
end PU.C
set_option maxHeartbeats 1000000
set_option exponentiation.threshold 5000
namespace PU.C
open PySem PySem.Spec PyProof.Rows L2 PU
theorem atI_nat {α : Type} (ds : List α) {i : Int} (h0 : 0 ≤ i) (h : i < ds.length) : L2.atI ds i = ds[i.toNat]? := by
  unfold L2.atI L2.ixN
  rw [if_pos h0, if_pos h]
  rfl
theorem P_pick {b : Nat} {s : DrS} (h : DrI b s) (hb : b ≤ BIG) {ds : List D} {d : D} (hn : 0 < ds.length) (hz : ds.length ≤ 1048576) (hd : ds[(drawV s ds.length).toNat]? = some d) :
    ∃ l, f__law_pick [.dr s, .st (.lst ds)] = .ok d (.dr (drawS s ds.length) :: l) := by
  have hl : (0 : Int) < ds.length := by omega
  have hl2 : (ds.length : Int) ≤ 1048576 := by omega
  have b1 := drawV_bd s hl
  have a1 : L2.atI ds (drawV s ds.length) = some d := by rw [atI_nat ds b1.1 b1.2, hd]
  have e := ev_draw (ρ := [.dr s, .st (.lst ds)]) (i := 0) (X := eCB dLen (lCons (eV 1) lNil)) (room := ds.length) h hb rfl (by simp [runDef, noEx, sRet, sExpr, sIf, sSet, sSeq, sNop, sAsg, sPar, sNew, SRes.bind, ofE, eAnd, eOr, eIf, eBin, eUn, eChain, eCB, eTup, eLst, eFz, nLst, eSl, poN, poS, eTake, eOLen, lNil, lCons, Res.bind, eK, eV, svAt, lift, toB, tV, tAndF, tOrF, tNotF, dNot, dNeg, iAny, iCall, dItemsA, dLen]) hl hl2
  have z : B__law_pick [.dr s, .st (.lst ds)] = .rt d [.dr (drawS s ds.length), .st (.lst ds)] := by
    unfold B__law_pick
    have e1 : eV 1 [.dr s, .st (.lst ds)] = .ok (.lst ds) [.dr s, .st (.lst ds)] := rfl
    simp only [sRet, eBin, e1, Res.bind, e, dIx, a1, lift, ofE]
    rfl
  refine ⟨[.st (.lst ds)], ?_⟩
  show noEx (match B__law_pick [.dr s, .st (.lst ds)] with | .rt d ρ => .ok d ρ | .nx ρ => .ok .non ρ | .ex x ρ => .ex x ρ | _ => .bad) = _
  rw [z]
  rfl
theorem ev_pick {b : Nat} {s : DrS} (h : DrI b s) (hb : b ≤ BIG) {ρ : Ρ} {i : Nat} {X : Ev D} {ds : List D} {d : D} (h0 : svAt ρ i = .dr s) (hX : X ρ = .ok (.lst ds) ρ) (hn : 0 < ds.length) (hz : ds.length ≤ 1048576) (hd : ds[(drawV s ds.length).toNat]? = some d) :
    eCall1 i f__law_pick (lCons X lNil) ρ = .ok d (ρ.set i (.dr (drawS s ds.length))) := by
  obtain ⟨l, e⟩ := P_pick h hb hn hz hd
  have e0 : lCons X lNil ρ = .ok [.lst ds] ρ := by simp [lCons, hX, lNil, Res.bind]
  have e1 : (SV.dr s).own = true := rfl
  simp only [eCall1, h0, e1, if_true, e0, Res.bind, stL, List.map, e]
  rfl
/-- a letter -/
def lt (i : Int) : D := .str ⟨#[97 + i.toNat]⟩
def abc : Ev D := eFz (nList (eK (.str "abcdefghijklmnopqrstuvwxyz")))
theorem abc_ok (ρ : Ρ) : abc ρ = .ok (.lst ((List.range 26).map fun (i : Nat) => lt (i : Int))) ρ := by
  have e : ((("abcdefghijklmnopqrstuvwxyz" : Str).cps.toList.map fun c => D.str ⟨#[c]⟩)) = (List.range 26).map fun (i : Nat) => lt (i : Int) := by rfl
  unfold abc
  simp only [eFz, nList, eK, Res.bind, dList]
  rw [if_pos (by decide)]
  simp only [e]
theorem seqF_lets : ∀ (n : Nat) (s : DrS) (xs : List Nat), xs.length = n → seqF (fun (_ : Nat) s => some (lt (drawV s 26))) (fun s => drawS s 26) xs s = (lets n s).map lt
  | 0, s, [], _ => rfl
  | n + 1, s, x :: xs, h => by
    simp only [seqF, lets, List.map_cons, Option.toList, List.singleton_append]
    rw [seqF_lets n _ xs (by simpa using h)]
theorem seqS_letS : ∀ (n : Nat) (s : DrS), seqS (fun s => drawS s 26) n s = letS n s
  | 0, s => rfl
  | n + 1, s => seqS_letS n _
theorem rgD_map (lo : Int) (n : Nat) : rgD lo n = (List.range n).map fun i => .int (lo + (i : Nat)) := rfl
/-- the letters of a word -/
theorem P_letters {b : Nat} {s : DrS} (h : DrI b s) (hb : b + 20 ≤ BIG) (x1 x2 x3 x4 : SV) (hx4 : x4.own = false) :
    nLc (iCall dRng1 (lCons (eBin dAdd (eK (.int 1)) (eCall1 0 f__law_draw (lCons (eK (.int 8)) lNil))) lNil)) (tgN 4) tYesF (eCall1 0 f__law_pick (lCons abc lNil)) [4] [.dr s, x1, x2, x3, x4] =
      .ok ((wordV s).map lt) [.dr (wordS s), x1, x2, x3, x4] ∧ DrI (b + 9) (wordS s) := by
  have b1 := drawV_bd s (room := 8) (by decide)
  have e := ev_draw (ρ := [.dr s, x1, x2, x3, x4]) (i := 0) (X := eK (.int 8)) h (by omega) rfl rfl (room := 8) (by decide) (by decide)
  have hI : iCall dRng1 (lCons (eBin dAdd (eK (.int 1)) (eCall1 0 f__law_draw (lCons (eK (.int 8)) lNil))) lNil) [.dr s, x1, x2, x3, x4] = .ok ((List.range (1 + drawV s 8).toNat).map fun i => D.int (0 + (i : Nat))) [.dr (drawS s 8), x1, x2, x3, x4] := by
    have r : rgOk (1 + drawV s 8) = true := by
      unfold rgOk
      simp
      omega
    simp only [iCall, lCons, eBin, eK, Res.bind, e, dAdd, dI2, lift, lNil, dRng1, r, if_true]
    rfl
  have key := nLc_dr (T := tgN 4) (tt := tYesF) (te := eCall1 0 f__law_pick (lCons abc lNil)) (vs := [4]) (fun s => [.dr s, x1, x2, x3, .un]) (fun i : Nat => D.int (0 + (i : Nat))) (fun (_ : Nat) s => some (lt (drawV s 26))) (fun s => drawS s 26) (b + 10) 1 (List.range (1 + drawV s 8).toNat) (drawS s 8) (b + 1) hI
    (by simp [stFree, svAt, hx4]) rfl (fun x _ s b' h' hb' => ⟨by
      have b2 := drawV_bd s (room := 26) (by decide)
      have p := ev_pick (ρ := [.dr s, x1, x2, x3, .st (.int (0 + (x : Nat)))]) (i := 0) (X := abc) (ds := (List.range 26).map fun (i : Nat) => lt (i : Int)) (d := lt (drawV s 26)) h' (by omega) rfl (abc_ok _) (by simp) (by simp) (by
        simp only [List.length_map, List.length_range]
        have b3 : (drawV s ((26 : Nat) : Int)).toNat < 26 := by
          have : ((26 : Nat) : Int) = 26 := rfl
          rw [this]; omega
        rw [List.getElem?_map, List.getElem?_range b3]
        have : (((drawV s ((26 : Nat) : Int)).toNat : Nat) : Int) = drawV s 26 := by
          have : ((26 : Nat) : Int) = 26 := rfl
          rw [this]; omega
        simp only [Option.map_some, this])
      have t : tgN 4 (D.int (0 + (x : Nat))) [.dr s, x1, x2, x3, .un] = some [.dr s, x1, x2, x3, .st (.int (0 + (x : Nat)))] := rfl
      simp only [lcStep, t, tYesF, noEx, Res.bind, if_true, p]
      rfl, h'.draw (by decide)⟩) (h.draw (by decide)) (by simp; omega) (by
      rw [List.length_range]
      have : (8 : Nat) ≤ sizeLine := by decide
      omega)
  obtain ⟨k1, k2⟩ := key
  rw [List.length_range, seqF_lets _ _ _ (by rw [List.length_range]), seqS_letS] at k1
  rw [List.length_range, seqS_letS] at k2
  exact ⟨k1, k2.mono (by omega)⟩
end PU.C
set_option maxHeartbeats 1000000
set_option exponentiation.threshold 5000
namespace PU.C
open PySem PySem.Spec PyProof.Rows L2 PU
def lS (i : Int) : Str := ⟨#[97 + i.toNat]⟩
theorem strsD_map (zs : List Str) : strsD (zs.map D.str) = some zs := by
  induction zs with
  | nil => rfl
  | cons z zs ih => simp only [List.map_cons, strsD, ih, Option.map_some]
theorem join_nil (l : List Int) : Str.join "" (l.map lS) = wstr l := by
  have e : ∀ l : List Int, (Str.join "" (l.map lS)).cps.toList = l.map fun i => 97 + i.toNat := by
    intro l
    induction l with
    | nil => rfl
    | cons a l ih =>
      cases l with
      | nil => rfl
      | cons b l =>
        have q : Str.join "" ((a :: b :: l).map lS) = lS a ++ "" ++ Str.join "" ((b :: l).map lS) := rfl
        rw [q]
        have r : ∀ x y : Str, (x ++ y).cps.toList = x.cps.toList ++ y.cps.toList := fun x y => by
          show (x.cps ++ y.cps).toList = _
          simp
        rw [r, r, ih]
        rfl
  have := e l
  unfold wstr
  rw [← this]
theorem dJoin_word (l : List Int) (h : l.length ≤ 8) : dJoin (.str "") (.lst (l.map lt)) = some (.str (wstr l)) := by
  have e : l.map lt = (l.map lS).map D.str := by rw [List.map_map]; rfl
  have s : ((l.map lS).map (·.length)).sum = l.length := by
    clear h e
    induction l with
    | nil => rfl
    | cons a l ih =>
      have q : (lS a).length = 1 := rfl
      simp only [List.map_cons, List.sum_cons, ih, List.length_cons, q]
      omega
  unfold dJoin
  simp only [e, strsD_map, Option.bind_some]
  rw [TL.join_eq, join_nil, s]
  have z : (("" : Str).length) = 0 := rfl
  have z2 : (8 : Nat) ≤ sizeLine := by decide
  rw [z, Nat.mul_zero, if_pos (by omega)]
theorem wstr_len (l : List Int) : (wstr l).length = l.length := by
  show (l.map _).toArray.size = _
  simp
theorem wstr_append (l m : List Int) : wstr (l ++ m) = wstr l ++ wstr m := by
  show _ = (⟨_ ++ _⟩ : Str)
  simp [wstr]
theorem strOk_wstr {l : List Int} (h : Let l) : PyData.strOk (wstr l) = true := by
  unfold PyData.strOk wstr
  simp only [List.all_toArray, List.all_eq_true, List.mem_map]
  rintro x ⟨i, hi, rfl⟩
  have := h i hi
  simp
  omega
theorem memD_str (x : Str) (ys : List Str) : memD (.str x) (ys.map .str) = decide (x ∈ ys) := by
  unfold memD
  induction ys with
  | nil => rfl
  | cons y ys ih =>
    simp only [List.map_cons, List.any_cons, ih]
    have e : deq (.str y) (.str x) = decide (x = y) := by
      unfold deq D.py PyData.eqv
      by_cases h : x = y
      · subst h; simp
      · have h' : ¬ y = x := fun e => h e.symm
        simp [h, h']
    rw [e]
    simp [List.mem_cons]
theorem dNotIn_str {x : Str} {ys : List Str} (hx : PyData.strOk x = true) (hy : ∀ y ∈ ys, PyData.strOk y = true) : dNotIn (.str x) (.lst (ys.map .str)) = some (.bl (!decide (x ∈ ys))) := by
  have e : dIn (.str x) (.lst (ys.map .str)) = some (.bl (decide (x ∈ ys))) := by
    unfold dIn
    have o1 : okd 59 (.str x) = true := hx
    have o2 : (ys.map D.str).all (okd 59) = true := by
      simp only [List.all_map, List.all_eq_true]
      exact hy
    simp only [o1, o2, Bool.and_self, if_true, memD_str]
  unfold dNotIn
  rw [e]
theorem cut1 (l : List Int) : cutS (wstr l) none (some 1) = wstr (l.take 1) := by
  cases l with
  | nil => rfl
  | cons a l =>
    have n : (wstr (a :: l)).length = l.length + 1 := by rw [wstr_len]; rfl
    have e1 : HT.sIx (wstr (a :: l)).length 0 none = 0 := rfl
    have e2 : HT.sIx (wstr (a :: l)).length (wstr (a :: l)).length (some 1) = 1 := by
      rw [n]
      simp [HT.sIx]
    unfold cutS
    rw [e1, e2]
    simp [wstr]
theorem mul_q (m : Nat) (hm : m ≤ 1000) : dMulW (.str "q") (.int m) = some (.str (wstr (List.replicate m 16))) := by
  have l1 : (("q" : Str).length) ≤ 1000 := by decide
  have e : ∀ (m : Nat) (acc : Array Nat), (List.replicate m ("q" : Str).cps).foldl (· ++ ·) acc = acc ++ ((List.replicate m (16 : Int)).map fun i => 97 + i.toNat).toArray := by
    intro m
    induction m with
    | zero => intro acc; simp
    | succ m ih =>
      intro acc
      rw [List.replicate_succ, List.foldl_cons, ih, List.replicate_succ, List.map_cons]
      have : ("q" : Str).cps = #[113] := rfl
      rw [this]
      apply Array.toList_inj.mp
      simp
  unfold dMulW
  simp only
  rw [if_pos ⟨by omega, by omega, l1⟩, Int.toNat_natCast, e]
  simp [wstr]
end PU.C
set_option maxHeartbeats 1000000
set_option exponentiation.threshold 5000
namespace PU.C
open PySem PySem.Spec PyProof.Rows L2 PU
def lapA : Sv := (sSet 3 (eJoin (eK (.str "")) (eFz (nLc (iCall dRng1 (lCons (eBin dAdd (eK (.int 1)) (eCall1 0 f__law_draw (lCons (eK (.int 8)) lNil))) lNil)) (tgN 4) tYesF (eCall1 0 f__law_pick (lCons (eFz (nList (eK (.str "abcdefghijklmnopqrstuvwxyz")))) lNil)) [4]))))
def lapB : Sv := (sSet 2 (eBin dAdd (eV 2) (eIf (tV (eBin dNotIn (eV 3) (eV 2))) (eLst (lCons (eV 3) lNil)) (eIf (tAndF (tV (eBin dNotIn (eBin dAdd (eSl (eV 3) poN (poS (eK (.int 1)))) (eBin dMulW (eK (.str "q")) (eCB dLen (lCons (eV 2) lNil)))) (eV 2))) (tV (eBin dLt (eCB dLen (lCons (eV 2) lNil)) (eK (.int 8))))) (eLst (lCons (eBin dAdd (eSl (eV 3) poN (poS (eK (.int 1)))) (eBin dMulW (eK (.str "q")) (eCB dLen (lCons (eV 2) lNil)))) lNil)) (eLst lNil)))))
theorem P_lapA {b : Nat} {s : DrS} (h : DrI b s) (hb : b + 20 ≤ BIG) (x1 x2 x3 : SV) :
    lapA [.dr s, x1, x2, x3, .un] = .nx [.dr (wordS s), x1, x2, .st (.str (wstr (wordV s))), .un] ∧ DrI (b + 9) (wordS s) := by
  obtain ⟨e, h'⟩ := P_letters h hb x1 x2 x3 .un rfl
  have j := dJoin_word (wordV s) (wordV_len s).2
  refine ⟨?_, h'⟩
  unfold abc at e
  unfold lapA
  simp only [sSet, eJoin, eK, eFz, e, Res.bind, j, lift, ofE]
  rfl
theorem small {n : Nat} (h : n ≤ 1000) : n ≤ sizeLine := by
  have : (1000 : Nat) ≤ sizeLine := by decide
  omega
theorem P_lapB {s : DrS} {x1 : SV} {w : List Int} (hw : Let w) (hl : w.length ≤ 8) {found : List Str} (hf : ∀ y ∈ found, PyData.strOk y = true) (hn : found.length ≤ 7) :
    lapB [.dr s, x1, .st (.lst (found.map .str)), .st (.str (wstr w)), .un] = .nx [.dr s, x1, .st (.lst ((fstep w found).map .str)), .st (.str (wstr w)), .un] := by
  have n1 := dNotIn_str (strOk_wstr hw) hf
  have n2 := dNotIn_str (strOk_wstr (qw_Let hw found.length)) hf
  have m := mul_q found.length (by omega)
  have z1 : (wstr w).length ≤ sizeLine := by rw [wstr_len]; exact small (by omega)
  have c : dAdd (.str (wstr (w.take 1))) (.str (wstr (List.replicate found.length 16))) = some (.str (wstr (qw w found.length))) := by
    unfold dAdd
    simp only
    rw [if_pos (by rw [wstr_len, wstr_len]; exact small (by simp; omega)), ← wstr_append]
    rfl
  have l1 : ∀ x : D, dAdd (.lst (found.map .str)) (.lst [x]) = some (.lst (found.map .str ++ [x])) := fun x => by
    unfold dAdd
    simp only
    rw [if_pos (by simp; exact small (by omega))]
  have l0 : dAdd (.lst (found.map .str)) (.lst []) = some (.lst (found.map .str)) := by
    unfold dAdd
    simp only
    rw [if_pos (by simp; exact small (by omega))]
    simp
  have hs : dSl (.str (wstr w)) none (some 1) = some (.str (wstr (w.take 1))) := by
    unfold dSl
    simp only
    rw [if_pos z1, cut1]
  have lt8 : dLt (.int (found.length : Nat)) (.int 8) = some (.bl (decide ((found.length : Int) < 8))) := rfl
  have h8 : (found.length : Int) < 8 := by omega
  have h8' : found.length < 8 := by omega
  have o1 : 1 ≤ sizeLine := small (by omega)
  unfold lapB fstep
  by_cases q1 : wstr w ∈ found
  · by_cases q2 : wstr (qw w found.length) ∈ found
    · simp [runDef, noEx, sRet, sExpr, sIf, sSet, sSeq, sNop, sAsg, sPar, sNew, SRes.bind, ofE, eAnd, eOr, eIf, eBin, eUn, eChain, eCB, eTup, eLst, eFz, nLst, eSl, poN, poS, eTake, eOLen, lNil, lCons, Res.bind, eK, eV, svAt, lift, toB, tV, tAndF, tOrF, tNotF, dNot, dNeg, iAny, iCall, dItemsA, dLen, o1, n1, n2, m, c, l1, l0, hs, q1, q2, lt8, h8]
    · simp [runDef, noEx, sRet, sExpr, sIf, sSet, sSeq, sNop, sAsg, sPar, sNew, SRes.bind, ofE, eAnd, eOr, eIf, eBin, eUn, eChain, eCB, eTup, eLst, eFz, nLst, eSl, poN, poS, eTake, eOLen, lNil, lCons, Res.bind, eK, eV, svAt, lift, toB, tV, tAndF, tOrF, tNotF, dNot, dNeg, iAny, iCall, dItemsA, dLen, o1, n1, n2, m, c, l1, l0, hs, q1, q2, lt8, h8, h8']
  · simp [runDef, noEx, sRet, sExpr, sIf, sSet, sSeq, sNop, sAsg, sPar, sNew, SRes.bind, ofE, eAnd, eOr, eIf, eBin, eUn, eChain, eCB, eTup, eLst, eFz, nLst, eSl, poN, poS, eTake, eOLen, lNil, lCons, Res.bind, eK, eV, svAt, lift, toB, tV, tAndF, tOrF, tNotF, dNot, dNeg, iAny, iCall, dItemsA, dLen, o1, n1, n2, m, c, l1, l0, hs, q1]
end PU.C
set_option maxHeartbeats 1000000
set_option exponentiation.threshold 5000
namespace PU.C
open PySem PySem.Spec PyProof.Rows L2 PU
structure FOk (found : List Str) : Prop where
  word : ∀ y ∈ found, ∃ l, Let l ∧ 1 ≤ l.length ∧ l.length ≤ 8 ∧ y = wstr l
  nd : found.Nodup
theorem FOk.ok {found : List Str} (h : FOk found) : ∀ y ∈ found, PyData.strOk y = true := fun y hy => by
  obtain ⟨l, h1, _, _, rfl⟩ := h.word y hy
  exact strOk_wstr h1
theorem FOk.add {found : List Str} (h : FOk found) {l : List Int} (h1 : Let l) (h2 : 1 ≤ l.length) (h3 : l.length ≤ 8) (hn : wstr l ∉ found) : FOk (found ++ [wstr l]) where
  word := fun y hy => by
    rcases List.mem_append.mp hy with hy | hy
    · exact h.word y hy
    · exact ⟨l, h1, h2, h3, by simpa using hy⟩
  nd := by
    rw [List.nodup_append]
    refine ⟨h.nd, by simp, fun a ha b hb e => ?_⟩
    have : b = wstr l := by simpa using hb
    subst this
    exact hn (e ▸ ha)
theorem fstep_ok {found : List Str} (h : FOk found) (hn : found.length ≤ 7) (s : DrS) : FOk (fstep (wordV s) found) ∧ (fstep (wordV s) found = found ∨ (fstep (wordV s) found).length = found.length + 1) := by
  have hl := wordV_len s
  unfold fstep
  split
  · split
    · rename_i hq
      have e : (qw (wordV s) found.length).length = 1 + found.length := by
        unfold qw
        rw [List.length_append, List.length_take, List.length_replicate]
        omega
      exact ⟨h.add (qw_Let (wordV_Let s) _) (by omega) (by omega) hq.1, .inr (by simp)⟩
    · exact ⟨h, .inl rfl⟩
  · rename_i hw
    exact ⟨h.add (wordV_Let s) hl.1 hl.2 hw, .inr (by simp)⟩
def MN : Nat := MM.toNat
def wTest : Ev Bool := tV (eBin dLt (eCB dLen (lCons (eV 2) lNil)) (eV 1))
def wSt (s : DrS) (many : Nat) (found : List Str) (x3 : SV) : Ρ := [.dr s, .st (.int many), .st (.lst (found.map .str)), x3, .un]
def Wd (many c : Nat) (s : DrS) (found : List Str) : Prop := ∀ x3, ∃ s' found' x3', WRun wTest (sSeq lapA lapB) (wSt s many found x3) (.nx (wSt s' many found' x3')) ∧ found'.length = many ∧ FOk found' ∧ DrI c s'
theorem wTest_ok (s : DrS) (many : Nat) (found : List Str) (x3 : SV) : wTest (wSt s many found x3) = .ok (decide (found.length < many)) (wSt s many found x3) := by
  have lt8 : dLt (.int (found.length : Nat)) (.int many) = some (.bl (decide ((found.length : Int) < many))) := rfl
  by_cases h : found.length < many
  · have h' : (found.length : Int) < many := by omega
    simp [runDef, noEx, sRet, sExpr, sIf, sSet, sSeq, sNop, sAsg, sPar, sNew, SRes.bind, ofE, eAnd, eOr, eIf, eBin, eUn, eChain, eCB, eTup, eLst, eFz, nLst, eSl, poN, poS, eTake, eOLen, lNil, lCons, Res.bind, eK, eV, svAt, lift, toB, tV, tAndF, tOrF, tNotF, dNot, dNeg, iAny, iCall, dItemsA, dLen, wTest, wSt, lt8, h, h']
  · have h' : ¬ (found.length : Int) < many := by omega
    simp [runDef, noEx, sRet, sExpr, sIf, sSet, sSeq, sNop, sAsg, sPar, sNew, SRes.bind, ofE, eAnd, eOr, eIf, eBin, eUn, eChain, eCB, eTup, eLst, eFz, nLst, eSl, poN, poS, eTake, eOLen, lNil, lCons, Res.bind, eK, eV, svAt, lift, toB, tV, tAndF, tOrF, tNotF, dNot, dNeg, iAny, iCall, dItemsA, dLen, wTest, wSt, lt8, h, h']
theorem Wd.step {many c b : Nat} {s : DrS} {found : List Str} (h : DrI b s) (hb : b + 20 ≤ BIG) (hf : FOk found) (hn : found.length < many) (hm : many ≤ 8) (hw : Wd many c (wordS s) (fstep (wordV s) found)) : Wd many c s found := fun x3 => by
  obtain ⟨e1, h1⟩ := P_lapA h hb (.st (.int many)) (.st (.lst (found.map .str))) x3
  have e2 := P_lapB (s := wordS s) (x1 := .st (.int many)) (wordV_Let s) (wordV_len s).2 hf.ok (by omega)
  obtain ⟨s', f', x', r, q⟩ := hw (.st (.str (wstr (wordV s))))
  refine ⟨s', f', x', .go (ρ1 := wSt s many found x3) (by rw [wTest_ok, decide_eq_true hn]) (.inl ?_) r, q⟩
  show sSeq lapA lapB [.dr s, .st (.int many), .st (.lst (found.map .str)), x3, .un] = _
  simp only [sSeq, e1, SRes.bind, e2]
  rfl
theorem DrP.at {s : DrS} (h : DrP s) {b : Nat} (hb : s.turn ≤ b) : DrI b s := by
  obtain ⟨c, h⟩ := h
  exact ⟨h.t0, hb, h.cell, h.n63, h.great, h.rest⟩
theorem Wd.laps {many c b : Nat} {found : List Str} (hb : b + 20 ≤ BIG) (hf : FOk found) (hn : found.length < many) (hm : many ≤ 8) : ∀ (i : Nat) (s : DrS), DrP s → (itS i s).turn ≤ b → (∀ j, j < i → fstep (wordV (itS j s)) found = found) → Wd many c (itS i s) found → Wd many c s found
  | 0, s, _, _, _, hw => hw
  | i + 1, s, h, ht, hs, hw => by
    have t0 : s.turn ≤ b := Int.le_trans (itS_turn (i + 1) s) ht
    refine Wd.step (h.at t0) hb hf hn hm ?_
    rw [show fstep (wordV s) found = found from hs 0 (by omega)]
    exact Wd.laps hb hf hn hm i (wordS s) h.word ht (fun j hj => hs (j + 1) (by omega)) hw
theorem Wd.all {many : Nat} (hm : many ≤ 8) : ∀ (d b : Nat) (s : DrS) (found : List Str), DrI b s → FOk found → found.length + d = many → b + d * MN + 20 ≤ BIG → Wd many (b + d * MN) s found
  | 0, b, s, found, h, hf, hd, _ => fun x3 => by
    rw [Nat.zero_mul]
    exact ⟨s, found, x3, .stop (by rw [wTest_ok, decide_eq_false (by omega)]), by omega, hf, h⟩
  | d + 1, b, s, found, h, hf, hd, hb => by
    have e : b + (d + 1) * MN = b + MN + d * MN := by rw [Nat.succ_mul]; omega
    rw [e] at hb ⊢
    have hp : DrP s := ⟨b, h⟩
    obtain ⟨i, h1, h2, h3⟩ := grow hp found (by omega)
    have hMM : MM = (MN : Int) := by decide
    have ht : (itS (i + 1) s).turn ≤ ((b + MN : Nat) : Int) := by
      have := h.t1
      rw [hMM] at h3
      omega
    have ht' : (itS i s).turn ≤ ((b + MN : Nat) : Int) := Int.le_trans (itS_mono (by omega) s) ht
    obtain ⟨f1, f2⟩ := fstep_ok hf (by omega) (itS i s)
    rcases f2 with f2 | f2
    · exact absurd f2 h2
    · refine Wd.laps (b := b + MN) (by omega) hf (by omega) hm i s hp ht' h1 ?_
      refine Wd.step ((hp.it i).at ht') (by omega) hf (by omega) hm ?_
      rw [← itS_succ]
      exact Wd.all hm d (b + MN) _ _ ((hp.it (i + 1)).at ht) f1 (by omega) hb
end PU.C
set_option maxHeartbeats 1000000
set_option exponentiation.threshold 5000
namespace PU.C
open PySem PySem.Spec PyProof.Rows L2 PU
theorem pair_zip {α : Type} {R : α → α → Prop} : ∀ (l : List α), l.Pairwise R → ∀ p ∈ l.zip l.tail, R p.1 p.2
  | [], _, p, hp => by cases hp
  | [a], _, p, hp => by cases hp
  | a :: b :: l, h, p, hp => by
    have h1 := List.pairwise_cons.mp h
    have hp' : p ∈ (a, b) :: (b :: l).zip l := hp
    rcases List.mem_cons.mp hp' with rfl | hp'
    · exact h1.1 b List.mem_cons_self
    · exact pair_zip (b :: l) h1.2 p hp'
/-- a sorted row of unlike items rises -/
theorem sort_asc {α : Type} (f : α → D) (lt : α → α → Prop) (hlt : ∀ a b, dlt (f a) (f b) = true ↔ lt a b) (tr : ∀ a b c, lt a b → lt b c → lt a c) (tri : ∀ a b, lt a b ∨ a = b ∨ lt b a) (irr : ∀ a, ¬ lt a a) (xs : List α) :
    ∃ ys : List α, srt (xs.map f) = ys.map f ∧ ys.Perm xs ∧ (xs.Nodup → ∀ p ∈ ys.zip ys.tail, dlt (f p.1) (f p.2) = true) := by
  have le : ∀ a b, PySem.W.dataLe false D.py (f a) (f b) = true ↔ ¬ lt b a := fun a b => by
    rw [PySem.W.dataLe_eq, ← hlt]
    show (!dlt (f b) (f a)) = true ↔ _
    cases dlt (f b) (f a) <;> simp
  refine ⟨xs.mergeSort fun a b => PySem.W.dataLe false D.py (f a) (f b), ?_, List.mergeSort_perm _ _, fun hn p hp => ?_⟩
  · unfold srt
    rw [List.map_mergeSort]
    intro a _ b _
    rfl
  · have s := List.pairwise_mergeSort (le := fun a b => PySem.W.dataLe false D.py (f a) (f b)) (fun a b c h1 h2 => by
      rw [le] at *
      rcases tri a b with h | h | h
      · intro hca
        exact h2 (tr _ _ _ hca h)
      · subst h; exact h2
      · exact absurd h h1) (fun a b => by
      rw [Bool.or_eq_true, le, le]
      rcases tri a b with h | h | h
      · left; exact fun h' => irr _ (tr _ _ _ h h')
      · subst h; left; exact irr a
      · right; exact fun h' => irr _ (tr _ _ _ h h')) xs
    have n : (xs.mergeSort fun a b => PySem.W.dataLe false D.py (f a) (f b)).Nodup := (List.mergeSort_perm _ _).nodup_iff.mpr hn
    have both := pair_zip _ (s.and n) p hp
    rw [hlt]
    have q := (le _ _).mp both.1
    rcases tri p.1 p.2 with h | h | h
    · exact h
    · exact absurd h both.2
    · exact absurd h q
theorem srt_str (xs : List Str) : ∃ ys : List Str, srt (xs.map .str) = ys.map .str ∧ ys.Perm xs ∧ (xs.Nodup → ∀ p ∈ ys.zip ys.tail, dlt (.str p.1) (.str p.2) = true) :=
  sort_asc D.str (fun a b => a.cps.toList < b.cps.toList) (fun a b => by
    show PySem.W.dataLt (.str a) (.str b) = true ↔ _
    rw [PySem.W.dataLt_str]
    simp) (fun a b c h1 h2 => List.lt_trans h1 h2) (fun a b => by
    by_cases h : a.cps.toList < b.cps.toList
    · exact .inl h
    · by_cases h' : b.cps.toList < a.cps.toList
      · exact .inr (.inr h')
      · right; left
        have e := List.le_antisymm (List.not_lt.mp h') (List.not_lt.mp h)
        cases a; cases b
        congr 1
        exact Array.toList_inj.mp e) (fun a => List.lt_irrefl _) xs
end PU.C
set_option maxHeartbeats 1000000
set_option exponentiation.threshold 5000
namespace PU.C
open PySem PySem.Spec PyProof.Rows L2 PU
theorem inStr_ltr : ∀ n : Nat, n < 26 → inStr ⟨#[97 + n]⟩ ltr = true := by decide +kernel
theorem okLtr_wstr {l : List Int} (h : Let l) : okLtr (wstr l) = true := by
  unfold okLtr wstr
  simp only [List.all_eq_true, List.mem_map]
  rintro c ⟨i, hi, rfl⟩
  exact inStr_ltr _ (by have := h i hi; omega)
theorem srtOk_str {found : List Str} (h : ∀ y ∈ found, PyData.strOk y = true) (hn : found.length ≤ 8) : srtOk (found.map .str) = true := by
  have a1 : (found.map D.str).length ≤ sizeLine := by rw [List.length_map]; exact small (by omega)
  have a2 : (found.map D.str).all (okd 60) = true := by
    simp only [List.all_map, List.all_eq_true]
    exact h
  have a3 : (found.map D.str).all (fun d => (found.map D.str).all fun e => PySem.W.alike d.py e.py) = true := by
    simp only [List.all_map, List.all_eq_true]
    intro x _
    simp only [Function.comp, List.all_eq_true]
    intro y _
    rfl
  have a4 : (found.map D.str).all noTup = true := by
    simp only [List.all_map, List.all_eq_true]
    intro x _
    rfl
  unfold srtOk
  rw [decide_eq_true a1, a2, a3, a4]
  simp
theorem FOk.wok {found ws : List Str} (h : FOk found) (h1 : 1 ≤ found.length) (h8 : found.length ≤ 8) (hp : ws.Perm found) (ha : ∀ p ∈ ws.zip ws.tail, dlt (.str p.1) (.str p.2) = true) : WOk ws where
  len1 := by rw [hp.length_eq]; exact h1
  len8 := by rw [hp.length_eq]; exact h8
  word := fun w hw => by
    obtain ⟨l, l1, l2, l3, rfl⟩ := h.word w (hp.mem_iff.mp hw)
    rw [wstr_len]
    exact ⟨l2, l3, okLtr_wstr l1, strOk_wstr l1⟩
  asc := ha
/-- words are made -/
theorem P_words {b many : Nat} {s : DrS} (h : DrI b s) (h1 : 1 ≤ many) (h8 : many ≤ 8) (hb : b + many * MN + 20 ≤ BIG) :
    ∃ ws s' l, f__law_words [.dr s, .st (.int many)] = .ok (.lst (ws.map .str)) (.dr s' :: l) ∧ WOk ws ∧ ws.length = many ∧ DrI (b + many * MN) s' := by
  have w0 := Wd.all h8 many b s [] h ⟨fun y hy => absurd hy (by simp), List.nodup_nil⟩ (by simp) hb
  obtain ⟨s', found, x3, r, f1, f2, f3⟩ := w0 .un
  obtain ⟨ws, e1, e2, e3⟩ := srt_str found
  refine ⟨ws, s', [.st (.int many), .st (.lst (found.map .str)), x3, .un], ?_, f2.wok (by omega) (by omega) e2 (e3 f2.nd), by rw [e2.length_eq, f1], f3⟩
  have q := sWhile_run r
  have so := srtOk_str f2.ok (by omega)
  have c : dSorted [.lst (found.map .str)] = some (.lst (ws.map .str)) := by
    unfold dSorted
    simp only
    rw [if_pos so, e1]
  have z : B__law_words [.dr s, .st (.int many), .un, .un, .un] = .rt (.lst (ws.map .str)) [.dr s', .st (.int many), .st (.lst (found.map .str)), x3, .un] := by
    have u : B__law_words = sSeq (sSet 2 (eLst lNil)) (sSeq (sWhile wTest (sSeq lapA lapB)) (sRet (eCB dSorted (lCons (eV 2) lNil)))) := rfl
    have i : sSet 2 (eLst lNil) [.dr s, .st (.int many), .un, .un, .un] = .nx (wSt s many [] .un) := by
      simp [runDef, noEx, sRet, sExpr, sIf, sSet, sSeq, sNop, sAsg, sPar, sNew, SRes.bind, ofE, eAnd, eOr, eIf, eBin, eUn, eChain, eCB, eTup, eLst, eFz, nLst, eSl, poN, poS, eTake, eOLen, lNil, lCons, Res.bind, eK, eV, svAt, lift, toB, tV, tAndF, tOrF, tNotF, dNot, dNeg, iAny, iCall, dItemsA, dLen, wSt]
    have t : sRet (eCB dSorted (lCons (eV 2) lNil)) (wSt s' many found x3) = .rt (.lst (ws.map .str)) (wSt s' many found x3) := by
      simp [runDef, noEx, sRet, sExpr, sIf, sSet, sSeq, sNop, sAsg, sPar, sNew, SRes.bind, ofE, eAnd, eOr, eIf, eBin, eUn, eChain, eCB, eTup, eLst, eFz, nLst, eSl, poN, poS, eTake, eOLen, lNil, lCons, Res.bind, eK, eV, svAt, lift, toB, tV, tAndF, tOrF, tNotF, dNot, dNeg, iAny, iCall, dItemsA, dLen, wSt, c]
    rw [u]
    simp only [sSeq, i, q, t, SRes.bind]
    rfl
  show noEx (match B__law_words [.dr s, .st (.int many), .un, .un, .un] with | .rt d ρ => .ok d ρ | .nx ρ => .ok .non ρ | .ex x ρ => .ex x ρ | _ => .bad) = _
  rw [z]
  rfl
end PU.C
set_option maxHeartbeats 1000000
set_option exponentiation.threshold 5000
namespace PU.C
open PySem PySem.Spec PyProof.Rows L2 PU
theorem ev_words {b many : Nat} {s : DrS} (h : DrI b s) (h1 : 1 ≤ many) (h8 : many ≤ 8) (hb : b + many * MN + 20 ≤ BIG) {ρ ρ1 : Ρ} {i : Nat} {X : Ev D} (h0 : (svAt ρ i).own = true) (hX : X ρ = .ok (.int many) ρ1) (hs : svAt ρ1 i = .dr s) :
    ∃ ws s', eCall1 i f__law_words (lCons X lNil) ρ = .ok (.lst (ws.map .str)) (ρ1.set i (.dr s')) ∧ WOk ws ∧ ws.length = many ∧ DrI (b + many * MN) s' := by
  obtain ⟨ws, s', l, e, w1, w2, w3⟩ := P_words h h1 h8 hb
  refine ⟨ws, s', ?_, w1, w2, w3⟩
  have e0 : lCons X lNil ρ = .ok [.int many] ρ1 := by simp [lCons, hX, lNil, Res.bind]
  have e1 : (SV.dr s).own = true := rfl
  simp only [eCall1, h0, if_true, e0, Res.bind, hs, e1, stL, List.map, e]
  rfl
theorem dNe_nil (ds : List D) (h : ds.all (okd 59) = true) : dNe (.lst ds) (.lst []) = some (.bl (!ds.isEmpty)) := by
  have o1 : okd 60 (.lst ds) = true := h
  have o2 : okd 60 (.lst []) = true := rfl
  have e : deq (.lst ds) (.lst []) = ds.isEmpty := by
    cases ds <;> rfl
  unfold dNe
  rw [o1, o2, e]
  rfl
def shTest : Ev Bool := tV (eONe 2 (eLst lNil))
def shBody : Sv := sExpr (eApp 3 (ePopAt 2 (eCall1 0 f__law_draw (lCons (eOLen 2) lNil))))
theorem sh_run : ∀ (n b : Nat) (s : DrS) (x1 : SV) (left found : List D), left.length = n → DrI b s → b + n ≤ BIG → left.all (okd 59) = true → left.length + found.length ≤ 1000 →
    ∃ s' found', WRun shTest shBody [.dr s, x1, .ol left, .ol found] (.nx [.dr s', x1, .ol [], .ol found']) ∧ found'.Perm (found ++ left) ∧ DrI (b + n) s'
  | 0, b, s, x1, left, found, hn, h, hb, ho, hz => by
    have e : left = [] := List.length_eq_zero_iff.mp hn
    subst e
    refine ⟨s, found, .stop ?_, by simp, h⟩
    have z : dNe (.lst []) (.lst []) = some (.bl false) := rfl
    simp [runDef, noEx, sRet, sExpr, sIf, sSet, sSeq, sNop, sAsg, sPar, sNew, SRes.bind, ofE, eAnd, eOr, eIf, eBin, eUn, eChain, eCB, eTup, eLst, eFz, nLst, eSl, poN, poS, eTake, eOLen, lNil, lCons, Res.bind, eK, eV, svAt, lift, toB, tV, tAndF, tOrF, tNotF, dNot, dNeg, iAny, iCall, dItemsA, dLen, shTest, eONe, z]
  | n + 1, b, s, x1, left, found, hn, h, hb, ho, hz => by
    have b1 := drawV_bd s (room := (left.length : Nat)) (by omega)
    have hk : (drawV s left.length).toNat < left.length := by omega
    have e0 := ev_draw (ρ := [.dr s, x1, .ol left, .ol found]) (i := 0) (X := eOLen 2) (room := (left.length : Nat)) h (by omega) rfl (by simp [runDef, noEx, sRet, sExpr, sIf, sSet, sSeq, sNop, sAsg, sPar, sNew, SRes.bind, ofE, eAnd, eOr, eIf, eBin, eUn, eChain, eCB, eTup, eLst, eFz, nLst, eSl, poN, poS, eTake, eOLen, lNil, lCons, Res.bind, eK, eV, svAt, lift, toB, tV, tAndF, tOrF, tNotF, dNot, dNeg, iAny, iCall, dItemsA, dLen]) (by omega) (by omega)
    have p : popIx (drawV s left.length) left.length = some (drawV s left.length).toNat := by
      unfold popIx
      rw [if_pos (by omega)]
      unfold seqIndex?
      simp [b1.1, b1.2]
      try omega
    have g : left[(drawV s left.length).toNat]? = some left[(drawV s left.length).toNat] := List.getElem?_eq_getElem hk
    have hfl : found.length < sizeLine := by
      have : (1000 : Nat) ≤ sizeLine := by decide
      omega
    have e1 : shBody [.dr s, x1, .ol left, .ol found] = .nx [.dr (drawS s left.length), x1, .ol (left.eraseIdx (drawV s left.length).toNat), .ol (found ++ [left[(drawV s left.length).toNat]])] := by
      have e0' := e0
      simp only [List.set_cons_zero] at e0'
      have q1 : svAt [SV.dr s, x1, .ol left, .ol found] 3 = .ol found := rfl
      have q2 : svAt [SV.dr s, x1, .ol left, .ol found] 2 = .ol left := rfl
      have q3 : svAt [SV.dr (drawS s left.length), x1, .ol left, .ol found] 2 = .ol left := rfl
      simp only [shBody, sExpr, eApp, ePopAt, q1, q2, e0', Res.bind, q3, p, g]
      have q4 : svAt (List.set [SV.dr (drawS s left.length), x1, .ol left, .ol found] 2 (.ol (left.eraseIdx (drawV s left.length).toNat))) 3 = .ol found := rfl
      simp only [q4, if_pos hfl, ofE]
      rfl
    have l1 : (left.eraseIdx (drawV s left.length).toNat).length = n := by rw [List.length_eraseIdx_of_lt hk]; omega
    have o1 : (left.eraseIdx (drawV s left.length).toNat).all (okd 59) = true := by
      rw [List.all_eq_true] at ho ⊢
      exact fun x hx => ho x (List.mem_of_mem_eraseIdx hx)
    obtain ⟨s', f', r, pm', h'⟩ := sh_run n (b + 1) _ x1 _ (found ++ [left[(drawV s left.length).toNat]]) l1 (h.draw (room := (left.length : Nat)) (by omega)) (by omega) o1 (by rw [l1]; simp; omega)
    refine ⟨s', f', .go (ρ1 := [.dr s, x1, .ol left, .ol found]) ?_ (.inl e1) r, pm'.trans ?_, by rw [show b + (n + 1) = b + 1 + n by omega]; exact h'⟩
    · have ne : left ≠ [] := fun e => by subst e; simp at hn
      have em : left.isEmpty = false := by cases left with
        | nil => exact absurd rfl ne
        | cons _ _ => rfl
      simp [runDef, noEx, sRet, sExpr, sIf, sSet, sSeq, sNop, sAsg, sPar, sNew, SRes.bind, ofE, eAnd, eOr, eIf, eBin, eUn, eChain, eCB, eTup, eLst, eFz, nLst, eSl, poN, poS, eTake, eOLen, lNil, lCons, Res.bind, eK, eV, svAt, lift, toB, tV, tAndF, tOrF, tNotF, dNot, dNeg, iAny, iCall, dItemsA, dLen, shTest, eONe, dNe_nil _ ho, em]
    · rw [List.append_assoc]
      refine List.Perm.append_left _ ?_
      have e2 : left = left.take (drawV s left.length).toNat ++ left[(drawV s left.length).toNat] :: left.drop ((drawV s left.length).toNat + 1) := by simp
      rw [List.eraseIdx_eq_take_drop_succ]
      have e3 := (List.perm_middle (a := left[(drawV s left.length).toNat]) (l₁ := left.take (drawV s left.length).toNat) (l₂ := left.drop ((drawV s left.length).toNat + 1))).symm
      exact e3.trans (e2 ▸ List.Perm.refl _)
end PU.C
set_option maxHeartbeats 1000000
set_option exponentiation.threshold 5000
namespace PU.C
open PySem PySem.Spec PyProof.Rows L2 PU
theorem P_shuffled {b : Nat} {s : DrS} {ds : List D} (h : DrI b s) (hb : b + ds.length ≤ BIG) (ho : ds.all (okd 59) = true) (hz : ds.length ≤ 1000) :
    ∃ es s' l, f__law_shuffled [.dr s, .st (.lst ds)] = .ok (.lst es) (.dr s' :: l) ∧ es.Perm ds ∧ DrI (b + ds.length) s' := by
  obtain ⟨s', es, r, pm, h'⟩ := sh_run ds.length b s (.st (.lst ds)) ds [] rfl h hb ho (by simpa using hz)
  refine ⟨es, s', [.st (.lst ds), .ol [], .st (.lst es)], ?_, by simpa using pm, h'⟩
  have q := sWhile_run r
  have z : B__law_shuffled [.dr s, .st (.lst ds), .un, .un] = .rt (.lst es) [.dr s', .st (.lst ds), .ol [], .st (.lst es)] := by
    have u : B__law_shuffled = sSeq (sParNN 2 3 (nList (eV 1)) (nLst lNil)) (sSeq (sWhile shTest shBody) (sRet (eTake 3))) := rfl
    have i : sParNN 2 3 (nList (eV 1)) (nLst lNil) [.dr s, .st (.lst ds), .un, .un] = .nx [.dr s, .st (.lst ds), .ol ds, .ol []] := by
      simp [runDef, noEx, sRet, sExpr, sIf, sSet, sSeq, sNop, sAsg, sPar, sNew, SRes.bind, ofE, eAnd, eOr, eIf, eBin, eUn, eChain, eCB, eTup, eLst, eFz, nLst, eSl, poN, poS, eTake, eOLen, lNil, lCons, Res.bind, eK, eV, svAt, lift, toB, tV, tAndF, tOrF, tNotF, dNot, dNeg, iAny, iCall, dItemsA, dLen, sParNN, nList, dList]
    rw [u]
    simp only [sSeq, i, q, SRes.bind]
    simp [runDef, noEx, sRet, sExpr, sIf, sSet, sSeq, sNop, sAsg, sPar, sNew, SRes.bind, ofE, eAnd, eOr, eIf, eBin, eUn, eChain, eCB, eTup, eLst, eFz, nLst, eSl, poN, poS, eTake, eOLen, lNil, lCons, Res.bind, eK, eV, svAt, lift, toB, tV, tAndF, tOrF, tNotF, dNot, dNeg, iAny, iCall, dItemsA, dLen]
  show noEx (match B__law_shuffled [.dr s, .st (.lst ds), .un, .un] with | .rt d ρ => .ok d ρ | .nx ρ => .ok .non ρ | .ex x ρ => .ex x ρ | _ => .bad) = _
  rw [z]
  rfl
theorem ev_shuffled {b : Nat} {s : DrS} {ds : List D} (h : DrI b s) (hb : b + ds.length ≤ BIG) (ho : ds.all (okd 59) = true) (hz : ds.length ≤ 1000) {ρ ρ1 : Ρ} {i : Nat} {X : Ev D} (h0 : (svAt ρ i).own = true) (hX : X ρ = .ok (.lst ds) ρ1) (hs : svAt ρ1 i = .dr s) :
    ∃ es s', eCall1 i f__law_shuffled (lCons X lNil) ρ = .ok (.lst es) (ρ1.set i (.dr s')) ∧ es.Perm ds ∧ DrI (b + ds.length) s' := by
  obtain ⟨es, s', l, e, w1, w2⟩ := P_shuffled h hb ho hz
  refine ⟨es, s', ?_, w1, w2⟩
  have e0 : lCons X lNil ρ = .ok [.lst ds] ρ1 := by simp [lCons, hX, lNil, Res.bind]
  have e1 : (SV.dr s).own = true := rfl
  simp only [eCall1, h0, if_true, e0, Res.bind, hs, e1, stL, List.map, e]
  rfl
end PU.C
set_option maxHeartbeats 1000000
set_option exponentiation.threshold 5000
namespace PU.C
open PySem PySem.Spec PyProof.Rows L2 PU
theorem dlt_rows (a b : List Int) : dlt (tI a) (tI b) = true ↔ a < b := by
  unfold dlt tI
  have e : ∀ xs : List Int, (D.tup (xs.map D.int)).py = .tuple (xs.map PyData.int) := fun xs => by
    rw [← pyL_ints]; rfl
  rw [e, e, PySem.W.dataLt_tuple]
  have := PySem.W.dataLt_ints a b
  unfold PySem.W.rowLt at this
  rw [this]
  simp
theorem srt_rows (xs : List (List Int)) : ∃ ys : List (List Int), srt (xs.map tI) = ys.map tI ∧ ys.Perm xs ∧ (xs.Nodup → ∀ p ∈ ys.zip ys.tail, dlt (tI p.1) (tI p.2) = true) :=
  sort_asc tI (fun a b => a < b) dlt_rows (fun a b c h1 h2 => List.lt_trans h1 h2) (fun a b => by
    by_cases h : a < b
    · exact .inl h
    · by_cases h' : b < a
      · exact .inr (.inr h')
      · exact .inr (.inl (List.le_antisymm (List.not_lt.mp h') (List.not_lt.mp h)))) (fun a => List.lt_irrefl _) xs
end PU.C
set_option maxHeartbeats 1000000
set_option exponentiation.threshold 5000
namespace PU.C
open PySem PySem.Spec PyProof.Rows L2 PU
theorem code_inj {B : Int} : ∀ {a b : List Int}, a.length = b.length → TS.Bd B a → TS.Bd B b → TS.code B a = TS.code B b → a = b
  | [], [], _, _, _, _ => rfl
  | d :: r, e :: q, hl, ha, hb, h => by
    have hl' : r.length = q.length := by simpa using hl
    rcases Int.lt_trichotomy d e with z | z | z
    · have := TS.code_lt hl' ha.tail hb.tail z; omega
    · subst z
      have i := fun h' => (TS.code_same (B := B) (d := d) hl').mpr h'
      have i' := fun h' => (TS.code_same (B := B) (d := d) hl'.symm).mpr h'
      have : TS.code B r = TS.code B q := by
        rcases Int.lt_trichotomy (TS.code B r) (TS.code B q) with y | y | y
        · have := i y; omega
        · exact y
        · have := i' y; omega
      rw [code_inj hl' ha.tail hb.tail this]
    · have := TS.code_lt hl'.symm hb.tail ha.tail z; omega
def ins (f : List Int → Int) (x : List Int) : List (List Int) → List (List Int)
  | [] => [x]
  | y :: l => if f x < f y then x :: y :: l else if f y < f x then y :: ins f x l else y :: l
theorem mem_ins {f : List Int → Int} {x : List Int} : ∀ (l : List (List Int)), (∀ y ∈ l, f x = f y → x = y) → ∀ z, z ∈ ins f x l ↔ z = x ∨ z ∈ l
  | [], _, z => by simp [ins]
  | y :: l, h, z => by
    have ih := mem_ins l (fun w hw => h w (List.mem_cons_of_mem _ hw)) z
    unfold ins
    split
    · simp
    · split
      · simp only [List.mem_cons, ih]
        constructor
        · rintro (h | h | h)
          · exact .inr (.inl h)
          · exact .inl h
          · exact .inr (.inr h)
        · rintro (h | h | h)
          · exact .inr (.inl h)
          · exact .inl h
          · exact .inr (.inr h)
      · have e := h y List.mem_cons_self (by omega)
        simp [e]
theorem asc_ins {f : List Int → Int} {x : List Int} : ∀ (l : List (List Int)), (∀ y ∈ l, f x = f y → x = y) → l.Pairwise (fun a b => f a < f b) → (ins f x l).Pairwise (fun a b => f a < f b)
  | [], _, _ => by simp [ins]
  | y :: l, h, hp => by
    have h1 := List.pairwise_cons.mp hp
    have ih := asc_ins l (fun w hw => h w (List.mem_cons_of_mem _ hw)) h1.2
    unfold ins
    split
    · rename_i hxy
      refine List.pairwise_cons.mpr ⟨fun z hz => ?_, hp⟩
      rcases List.mem_cons.mp hz with rfl | hz
      · exact hxy
      · exact Int.lt_trans hxy (h1.1 z hz)
    · split
      · rename_i hyx
        refine List.pairwise_cons.mpr ⟨fun z hz => ?_, ih⟩
        rcases (mem_ins l (fun w hw => h w (List.mem_cons_of_mem _ hw)) z).mp hz with rfl | hz
        · exact hyx
        · exact h1.1 z hz
      · exact hp
theorem SetS_ex {n : Nat} : ∀ (ls : List (List Int)), (∀ r ∈ ls, r.length = n ∧ TS.Bd bB r) → ∃ L, SetS ls L
  | [], _ => ⟨[], List.Pairwise.nil, fun x => Iff.rfl⟩
  | x :: ls, h => by
    obtain ⟨L, h1, h2⟩ := SetS_ex ls fun r hr => h r (List.mem_cons_of_mem _ hr)
    have hx := h x List.mem_cons_self
    have inj : ∀ y ∈ L, TS.code bB x = TS.code bB y → x = y := fun y hy e => by
      have hy' := h y (List.mem_cons_of_mem _ ((h2 y).mp hy))
      exact code_inj (hx.1.trans hy'.1.symm) hx.2 hy'.2 e
    refine ⟨ins (TS.code bB) x L, asc_ins L inj h1, fun z => ?_⟩
    rw [mem_ins L inj, List.mem_cons, h2]
/-- sorted(set(rows)) of rows of noughts and ones -/
theorem P_sortset' {n : Nat} {rs : List (List Int)} (hn : 1 ≤ n) (hl : Few rs) (h : ∀ r ∈ rs, r.length = n ∧ ∀ x ∈ r, x = 0 ∨ x = 1) :
    ∃ L : List (List Int), dSortSet [.lst (rs.map tI)] = some (.lst (L.map tI)) ∧ L.Nodup ∧ (∀ x, x ∈ L ↔ x ∈ rs) ∧ L.Pairwise (fun a b => TS.code bB a < TS.code bB b) := by
  have hb : ∀ r ∈ rs, r.length = n ∧ TS.Bd bB r := fun r hr => ⟨(h r hr).1, fun m hm => by
    rcases (h r hr).2 m hm with rfl | rfl <;> decide⟩
  obtain ⟨L, h1, h2⟩ := SetS_ex rs hb
  have e := sortSet_eq ⟨h1, h2⟩
  have d : ∀ rs : List (List Int), rowsD (rs.map tI) = some rs := by
    intro rs
    induction rs with
    | nil => rfl
    | cons r rs ih =>
      have q : rowD (tI r) = some r := by
        show intsD (r.map D.int) = some r
        clear ih
        induction r with
        | nil => rfl
        | cons x r ih => simp only [List.map_cons, intsD, ih, Option.map_some]
      simp only [List.map_cons, rowsD, q, ih]
  have ok : SetRow rs := ⟨hl, fun r hr => ⟨by rw [(h r hr).1]; exact hn, by
    cases rs with
    | nil => cases hr
    | cons r0 rs => rw [(h r hr).1, List.headD_cons, (h r0 List.mem_cons_self).1], (hb r hr).2⟩⟩
  refine ⟨L, ?_, h1.imp fun {a b} q => by rintro rfl; omega, h2, h1⟩
  unfold dSortSet
  simp only [d, Option.bind_some, if_pos ok, e]
theorem P_sortset {n : Nat} {rs : List (List Int)} (hn : 1 ≤ n) (hl : Few rs) (h : ∀ r ∈ rs, r.length = n ∧ ∀ x ∈ r, x = 0 ∨ x = 1) :
    ∃ L : List (List Int), dSortSet [.lst (rs.map tI)] = some (.lst (L.map tI)) ∧ L.Nodup ∧ (∀ x, x ∈ L ↔ x ∈ rs) := by
  obtain ⟨L, a, b, c, _⟩ := P_sortset' hn hl h
  exact ⟨L, a, b, c⟩
theorem code_lex {B : Int} : ∀ {a b : List Int}, a.length = b.length → TS.Bd B a → TS.Bd B b → a < b → TS.code B a < TS.code B b
  | [], [], _, _, _, h => absurd h (List.lt_irrefl _)
  | x :: a, y :: b, hl, ha, hb, h => by
    have hl' : a.length = b.length := by simpa using hl
    rcases List.cons_lt_cons_iff.mp h with z | ⟨z, h'⟩
    · exact TS.code_lt hl' ha.tail hb.tail z
    · subst z
      have ih := code_lex hl' ha.tail hb.tail h'
      show x * B ^ a.length + TS.code B a < x * B ^ b.length + TS.code B b
      rw [hl']
      omega
  | [], _ :: _, hl, _, _, _ => by simp at hl
  | _ :: _, [], hl, _, _, _ => by simp at hl
end PU.C
set_option maxHeartbeats 1000000
set_option exponentiation.threshold 5000
namespace PU.C
open PySem PySem.Spec PyProof.Rows L2 PU
theorem intsD_map (ns : List Int) : intsD (ns.map D.int) = some ns := by
  induction ns with
  | nil => rfl
  | cons n ns ih => simp only [List.map_cons, intsD, ih, Option.map_some]
theorem ab (n : Int) : (if n < 0 then -n else n) = (n.natAbs : Int) := by split <;> omega
theorem P_begun {ns : List Int} (h : ns.length ≤ 63) : ∃ s, f__law_begun [.lst (ns.map .int)] = some s ∧ DrI 0 s := by
  have pw : dPow (.int 10) (.int 18) = some (.int 1000000000000000000) := by rfl
  have hz : ns.length ≤ sizeLine := small (by omega)
  have c1 : nLc (iAny (eV 0)) (tgN 2) (tV (eBin dGe (eCB dAbs (lCons (eV 2) lNil)) (eBin dPow (eK (.int 10)) (eK (.int 18))))) (eBin dSub (eCB dAbs (lCons (eV 2) lNil)) (eBin dPow (eK (.int 10)) (eK (.int 18)))) [2] [.st (.lst (ns.map .int)), .un, .un]
      = .ok (ns.filterMap fun n => if (1000000000000000000 : Int) ≤ (n.natAbs : Int) then some (D.int ((n.natAbs : Int) - 1000000000000000000)) else none) [.st (.lst (ns.map .int)), .un, .un] :=
    nLc_fm ns D.int _ (by simp [runDef, noEx, sRet, sExpr, sIf, sSet, sSeq, sNop, sAsg, sPar, sNew, SRes.bind, ofE, eAnd, eOr, eIf, eBin, eUn, eChain, eCB, eTup, eLst, eFz, nLst, eSl, poN, poS, eTake, eOLen, lNil, lCons, Res.bind, eK, eV, svAt, lift, toB, tV, tAndF, tOrF, tNotF, dNot, dNeg, iAny, iCall, dItemsA, dLen]) (by simp [stFree, SV.own, svAt]) (fun n _ => by
      by_cases hn : (1000000000000000000 : Int) ≤ (n.natAbs : Int)
      · simp [runDef, noEx, sRet, sExpr, sIf, sSet, sSeq, sNop, sAsg, sPar, sNew, SRes.bind, ofE, eAnd, eOr, eIf, eBin, eUn, eChain, eCB, eTup, eLst, eFz, nLst, eSl, poN, poS, eTake, eOLen, lNil, lCons, Res.bind, eK, eV, svAt, lift, toB, tV, tAndF, tOrF, tNotF, dNot, dNeg, iAny, iCall, dItemsA, dLen, lcStep, tgN, dAbs, ab, dGe, dSub, dI2, pw, wipeP, noEx, hn]
      · simp [runDef, noEx, sRet, sExpr, sIf, sSet, sSeq, sNop, sAsg, sPar, sNew, SRes.bind, ofE, eAnd, eOr, eIf, eBin, eUn, eChain, eCB, eTup, eLst, eFz, nLst, eSl, poN, poS, eTake, eOLen, lNil, lCons, Res.bind, eK, eV, svAt, lift, toB, tV, tAndF, tOrF, tNotF, dNot, dNeg, iAny, iCall, dItemsA, dLen, lcStep, tgN, dAbs, ab, dGe, dSub, dI2, pw, wipeP, noEx, hn]) hz
  have c2 : ∀ gs : List D, nLc (iAny (eV 0)) (tgN 2) tYesF (eCB dAbs (lCons (eV 2) lNil)) [2] [.st (.lst (ns.map .int)), .ol gs, .un] = .ok (ns.map fun n => D.int (n.natAbs : Int)) [.st (.lst (ns.map .int)), .ol gs, .un] := fun gs =>
    nLc_map ns D.int _ (by simp [runDef, noEx, sRet, sExpr, sIf, sSet, sSeq, sNop, sAsg, sPar, sNew, SRes.bind, ofE, eAnd, eOr, eIf, eBin, eUn, eChain, eCB, eTup, eLst, eFz, nLst, eSl, poN, poS, eTake, eOLen, lNil, lCons, Res.bind, eK, eV, svAt, lift, toB, tV, tAndF, tOrF, tNotF, dNot, dNeg, iAny, iCall, dItemsA, dLen]) (by simp [stFree, SV.own, svAt]) (fun n _ => by
      simp [runDef, noEx, sRet, sExpr, sIf, sSet, sSeq, sNop, sAsg, sPar, sNew, SRes.bind, ofE, eAnd, eOr, eIf, eBin, eUn, eChain, eCB, eTup, eLst, eFz, nLst, eSl, poN, poS, eTake, eOLen, lNil, lCons, Res.bind, eK, eV, svAt, lift, toB, tV, tAndF, tOrF, tNotF, dNot, dNeg, iAny, iCall, dItemsA, dLen, lcStep, tgN, tYesF, dAbs, ab, wipeP, noEx]) hz
  have e1 : (ns.filterMap fun n => if (1000000000000000000 : Int) ≤ (n.natAbs : Int) then some (D.int ((n.natAbs : Int) - 1000000000000000000)) else none) = (ns.filterMap fun n => if (1000000000000000000 : Int) ≤ (n.natAbs : Int) then some ((n.natAbs : Int) - 1000000000000000000) else none).map D.int := by
    rw [List.map_filterMap]
    congr 1
    funext n
    split <;> rfl
  have e2 : (ns.map fun n => D.int (n.natAbs : Int)) = (ns.map fun n => (n.natAbs : Int)).map D.int := by rw [List.map_map]; rfl
  refine ⟨⟨ns.filterMap fun n => if (1000000000000000000 : Int) ≤ (n.natAbs : Int) then some ((n.natAbs : Int) - 1000000000000000000) else none, ns.map fun n => (n.natAbs : Int), 0, 0⟩, ?_, ⟨Int.le_refl _, Int.le_refl _, ?_, by simpa using h, ?_, Int.le_refl _⟩⟩
  · show (match sNew 1 _ [.st (.lst (ns.map .int)), .un, .un] with | .nx ρ => drOf 1 _ ρ | _ => none) = _
    rw [e1] at c1
    simp only [sNew, c1, ofE]
    have k := c2 ((ns.filterMap fun n => if (1000000000000000000 : Int) ≤ (n.natAbs : Int) then some ((n.natAbs : Int) - 1000000000000000000) else none).map D.int)
    rw [e2] at k
    show drOf 1 _ [.st (.lst (ns.map .int)), .ol _, .un] = _
    have v : ∀ x : SV, svAt [SV.st (.lst (ns.map .int)), x, .un] 1 = x := fun _ => rfl
    simp only [drOf, v, eFz, k, Res.bind, intsD_map]
  · intro c hc
    obtain ⟨n, _, rfl⟩ := List.mem_map.mp hc
    omega
  · intro g hg
    obtain ⟨n, _, q⟩ := List.mem_filterMap.mp hg
    split at q
    · cases q; omega
    · cases q
end PU.C
set_option maxHeartbeats 1000000
set_option exponentiation.threshold 5000
namespace PU.C
open PySem PySem.Spec PyProof.Rows L2 PU
/-- a row of draws -/
def drs (room : Int) : Nat → DrS → List Int
  | 0, _ => []
  | n + 1, s => drawV s room :: drs room n (drawS s room)
theorem drs_len (room : Int) : ∀ (n : Nat) (s : DrS), (drs room n s).length = n
  | 0, _ => rfl
  | n + 1, s => by rw [drs, List.length_cons, drs_len]
theorem drs_bd {room : Int} (hr : 0 < room) : ∀ (n : Nat) (s : DrS), ∀ x ∈ drs room n s, 0 ≤ x ∧ x < room
  | 0, _, x, hx => by cases hx
  | n + 1, s, x, hx => by
    rcases List.mem_cons.mp hx with rfl | hx
    · exact drawV_bd s hr
    · exact drs_bd hr n _ x hx
theorem seqF_drs {α : Type} (room : Int) : ∀ (xs : List α) (s : DrS), seqF (fun _ s => some (D.int (drawV s room))) (fun s => drawS s room) xs s = (drs room xs.length s).map D.int
  | [], _ => rfl
  | x :: xs, s => by
    simp only [seqF, List.length_cons, drs, List.map_cons, Option.toList, List.singleton_append]
    rw [seqF_drs room xs]
theorem set_self (ρ : Ρ) (k : Nat) : ρ.set k (svAt ρ k) = ρ := by
  refine List.ext_getElem (by simp) fun j h1 h2 => ?_
  rw [List.getElem_set]
  split
  · rename_i e; subst e
    unfold svAt
    rw [List.getD_eq_getElem?_getD, List.getElem?_eq_getElem h2]
    rfl
  · rfl
theorem svAt_set_eq {ρ : Ρ} {k : Nat} {x : SV} (h : k < ρ.length) : svAt (ρ.set k x) k = x := by
  unfold svAt
  rw [List.getD_eq_getElem?_getD, List.getElem?_set_self h]
  rfl
theorem svAt_set_ne {ρ : Ρ} {k j : Nat} {x : SV} (h : k ≠ j) : svAt (ρ.set k x) j = svAt ρ j := by
  unfold svAt
  rw [List.getD_eq_getElem?_getD, List.getD_eq_getElem?_getD, List.getElem?_set_ne h]
theorem drawComp {b : Nat} {s : DrS} {ρ ρ1 : Ρ} {k : Nat} {I : Ev (List D)} {ds : List D} {room : Int} (h : DrI b s) (hb : b + ds.length ≤ BIG) (hz : ds.length ≤ 1000) (hr : 0 < room) (hr2 : room ≤ 1048576)
    (hI : I ρ = .ok ds ρ1) (h0 : svAt ρ1 0 = .dr s) (hk : (svAt ρ1 k).own = false) (hk0 : 0 ≠ k) (hl0 : 0 < ρ1.length) :
    nLc I (tgN k) tYesF (eCall1 0 f__law_draw (lCons (eK (.int room)) lNil)) [k] ρ = .ok ((drs room ds.length s).map .int) (ρ1.set 0 (.dr (seqS (fun s => drawS s room) ds.length s))) ∧ DrI (b + ds.length) (seqS (fun s => drawS s room) ds.length s) := by
  have key := nLc_dr (I := I) (T := tgN k) (tt := tYesF) (te := eCall1 0 f__law_draw (lCons (eK (.int room)) lNil)) (vs := [k]) (ρ := ρ) (ρ1 := ρ1) (fun s => (ρ1.set k .un).set 0 (.dr s)) (fun d : D => d) (fun (_ : D) s => some (D.int (drawV s room))) (fun s => drawS s room) (b + ds.length) 1 ds s b (by simpa using hI)
    (by simp [stFree, hk]) (by
      show ρ1.set k .un = _
      rw [List.set_comm _ _ (Ne.symm hk0), ← h0, set_self]) (fun x _ s b' h' hb' => ⟨by
      have t : tgN k x ((ρ1.set k .un).set 0 (.dr s)) = some ((ρ1.set 0 (.dr s)).set k (.st x)) := by
        unfold tgN
        rw [List.set_comm _ _ hk0, List.set_set, List.set_comm _ _ (Ne.symm hk0)]
      have v0 : svAt ((ρ1.set 0 (.dr s)).set k (.st x)) 0 = .dr s := by
        rw [svAt_set_ne (Ne.symm hk0), svAt_set_eq hl0]
      have p := ev_draw (i := 0) (X := eK (.int room)) (room := room) h' (by omega) v0 rfl hr hr2
      have w : wipeP (((ρ1.set 0 (.dr s)).set k (.st x)).set 0 (.dr (drawS s room))) [k] = (ρ1.set k .un).set 0 (.dr (drawS s room)) := by
        show ((((ρ1.set 0 (.dr s)).set k (.st x)).set 0 (.dr (drawS s room)))).set k .un = _
        rw [List.set_comm (SV.st x) _ (Ne.symm hk0), List.set_set, List.set_set, List.set_comm _ _ hk0]
      simp only [lcStep, t, tYesF, noEx, Res.bind, if_true, p, w], h'.draw hr⟩) h (by omega) (small hz)
  obtain ⟨k1, k2⟩ := key
  rw [Nat.mul_one] at k2
  refine ⟨?_, k2⟩
  rw [k1, seqF_drs]
  congr 1
  show ((ρ1.set k .un).set 0 _).set k (svAt ρ1 k) = _
  rw [List.set_comm _ _ hk0, List.set_set, set_self]
end PU.C
set_option maxHeartbeats 1000000
set_option exponentiation.threshold 5000
namespace PU.C
open PySem PySem.Spec PyProof.Rows L2 PU
theorem rgOk_small {n : Int} (h : n ≤ 1000) (h0 : 0 ≤ n) : rgOk n = true := by
  unfold rgOk
  simp
  omega
theorem iRng {ρ ρ1 : Ρ} {X : Ev D} {n : Nat} (hX : X ρ = .ok (.int n) ρ1) (h : n ≤ 1000) : iCall dRng1 (lCons X lNil) ρ = .ok ((List.range n).map fun (i : Nat) => D.int (i : Int)) ρ1 := by
  have r := rgOk_small (n := (n : Int)) (by omega) (by omega)
  simp only [iCall, lCons, hX, Res.bind, lNil, dRng1, r, if_true]
  have e : rgD 0 ((n : Int)).toNat = (List.range n).map fun (i : Nat) => D.int (i : Int) := by
    rw [Int.toNat_natCast]
    unfold rgD
    refine List.map_congr_left fun i _ => ?_
    rw [Int.zero_add]
  rw [e]
  simp only [lift]
/-- a comp with one name over a range, each item made without a trace -/
theorem rngComp {ρ ρ1 : Ρ} {X te : Ev D} {n k : Nat} (g : Nat → D) (hX : X ρ = .ok (.int n) ρ1) (h : n ≤ 1000) (hk : (svAt ρ1 k).own = false)
    (ht : ∀ i, i < n → te (ρ1.set k (.st (.int (i : Nat)))) = .ok (g i) (ρ1.set k (.st (.int (i : Nat))))) :
    nLc (iCall dRng1 (lCons X lNil)) (tgN k) tYesF te [k] ρ = .ok ((List.range n).map g) ρ1 :=
  nLc_map (List.range n) (fun (i : Nat) => D.int (i : Int)) g (iRng hX h) (by simp [stFree, hk]) (fun i hi => by
    have t : tgN k (D.int (i : Nat)) (wipeP ρ1 [k]) = some (ρ1.set k (.st (.int (i : Nat)))) := by
      show some ((ρ1.set k .un).set k _) = _
      rw [List.set_set]
    have w : wipeP (ρ1.set k (.st (.int (i : Nat)))) [k] = wipeP ρ1 [k] := by
      show (ρ1.set k _).set k .un = ρ1.set k .un
      rw [List.set_set]
    simp only [lcStep, t, tYesF, noEx, Res.bind, if_true, ht i (List.mem_range.mp hi), w]) (by rw [List.length_range]; exact small h)
/-- the same over a list's items -/
theorem itmComp {α : Type} {ρ ρ1 : Ρ} {I : Ev (List D)} {te : Ev D} {k : Nat} (xs : List α) (f g : α → D) (hI : I ρ = .ok (xs.map f) ρ1) (h : xs.length ≤ 1000) (hk : (svAt ρ1 k).own = false)
    (ht : ∀ x ∈ xs, te (ρ1.set k (.st (f x))) = .ok (g x) (ρ1.set k (.st (f x)))) : nLc I (tgN k) tYesF te [k] ρ = .ok (xs.map g) ρ1 :=
  nLc_map xs f g hI (by simp [stFree, hk]) (fun x hx => by
    have t : tgN k (f x) (wipeP ρ1 [k]) = some (ρ1.set k (.st (f x))) := by
      show some ((ρ1.set k .un).set k _) = _
      rw [List.set_set]
    have w : wipeP (ρ1.set k (.st (f x))) [k] = wipeP ρ1 [k] := by
      show (ρ1.set k _).set k .un = ρ1.set k .un
      rw [List.set_set]
    simp only [lcStep, t, tYesF, noEx, Res.bind, if_true, ht x hx, w]) (small h)
def b01 (b : Bool) : Int := if b then 1 else 0
def row01 (c : Nat → Bool) (n : Nat) : List Int := (List.range n).map fun i => b01 (c i)
theorem row01_ok (c : Nat → Bool) (n : Nat) : (row01 c n).length = n ∧ ∀ x ∈ row01 c n, x = 0 ∨ x = 1 := by
  refine ⟨by simp [row01], fun x hx => ?_⟩
  obtain ⟨i, _, rfl⟩ := List.mem_map.mp hx
  unfold b01
  split
  · exact .inr rfl
  · exact .inl rfl
/-- tuple([1 if .. else 0 for at in range(many)]) -/
theorem bitTup {ρ : Ρ} {m j n : Nat} {tst : Ev Bool} (c : Nat → Bool) (hm : svAt ρ m = .st (.int n)) (h : n ≤ 1000) (hj : (svAt ρ j).own = false)
    (ht : ∀ i, i < n → tst (ρ.set j (.st (.int (i : Nat)))) = .ok (c i) (ρ.set j (.st (.int (i : Nat))))) :
    eCB dTuple (lCons (eFz (nLc (iCall dRng1 (lCons (eV m) lNil)) (tgN j) tYesF (eIf tst (eK (.int 1)) (eK (.int 0))) [j])) lNil) ρ = .ok (tI (row01 c n)) ρ := by
  have e := rngComp (ρ := ρ) (ρ1 := ρ) (X := eV m) (te := eIf tst (eK (.int 1)) (eK (.int 0))) (k := j) (fun i => D.int (b01 (c i))) (by simp [eV, hm]) h hj (fun i hi => by
    simp only [eIf, ht i hi, Res.bind, b01]
    cases c i <;> rfl)
  simp only [eCB, lCons, eFz, e, Res.bind, lNil, dTuple, lift]
  unfold tI row01
  rw [List.map_map]
  rfl
end PU.C
set_option maxHeartbeats 1000000
set_option exponentiation.threshold 5000
namespace PU.C
open PySem PySem.Spec PyProof.Rows L2 PU
structure RowsOk (n k : Nat) (rs : List (List Int)) : Prop where
  l1 : 1 ≤ rs.length
  lk : rs.length ≤ k
  row : ∀ r ∈ rs, r.length = n ∧ ∀ x ∈ r, x = 0 ∨ x = 1
def lc (s : DrS) (p r : Int) (ws : List Str) (n : Nat) (way : Int) (rs : List (List Int)) (y7 y8 y9 y10 : SV) : Ρ :=
  [.dr s, .st (.int p), .st (.int r), .st (.tup (ws.map .str)), .st (.int n), .st (.int way), .st (.lst (rs.map tI)), y7, y8, y9, y10, .un, .un, .un, .un, .un, .un]
variable {s : DrS} {p r : Int} {ws : List Str} {n : Nat} {way : Int} {rs : List (List Int)} {y7 y8 y9 y10 : SV}
theorem wayT (k : Int) : tV (eBin dEq (eV 5) (eK (.int k))) (lc s p r ws n way rs y7 y8 y9 y10) = .ok (decide (way = k)) (lc s p r ws n way rs y7 y8 y9 y10) := by
  simp [runDef, noEx, sRet, sExpr, sIf, sSet, sSeq, sNop, sAsg, sPar, sNew, SRes.bind, ofE, eAnd, eOr, eIf, eBin, eUn, eChain, eCB, eTup, eLst, eFz, nLst, eSl, poN, poS, eTake, eOLen, lNil, lCons, Res.bind, eK, eV, svAt, lift, toB, tV, tAndF, tOrF, tNotF, dNot, dNeg, iAny, iCall, dItemsA, dLen, lc, dEq_int]
theorem skipT {k : Int} {B : Sv} (h : way ≠ k) : sIf (tV (eBin dEq (eV 5) (eK (.int k)))) B sNop (lc s p r ws n way rs y7 y8 y9 y10) = .nx (lc s p r ws n way rs y7 y8 y9 y10) := by
  simp only [sIf, wayT, h, ofE, decide_false]
  rfl
theorem takeT {k : Int} {B : Sv} (h : way = k) : sIf (tV (eBin dEq (eV 5) (eK (.int k)))) B sNop (lc s p r ws n way rs y7 y8 y9 y10) = B (lc s p r ws n way rs y7 y8 y9 y10) := by
  simp only [sIf, wayT, h, ofE, decide_true]
  rfl
def way1 : Sv := (sSet 6 (eFz (nLc (iCall dRng1 (lCons (eBin dAdd (eV 4) (eK (.int 1))) lNil)) (tgN 12) tYesF (eCB dTuple (lCons (eFz (nLc (iCall dRng1 (lCons (eV 4) lNil)) (tgN 10) tYesF (eIf (tV (eBin dLt (eV 10) (eV 12))) (eK (.int 1)) (eK (.int 0))) [10])) lNil)) [12])))
def way2 : Sv := (sSet 6 (eFz (nLc (iCall dRng1 (lCons (eBin dAdd (eV 4) (eK (.int 1))) lNil)) (tgN 13) tYesF (eCB dTuple (lCons (eFz (nLc (iCall dRng1 (lCons (eV 4) lNil)) (tgN 10) tYesF (eIf (tV (eBin dEq (eV 10) (eV 13))) (eK (.int 1)) (eK (.int 0))) [10])) lNil)) [13])))
theorem rows_gen {m : Nat} (c : Nat → Nat → Bool) (hm : 1 ≤ m) : RowsOk n m ((List.range m).map fun k => row01 (c k) n) where
  l1 := by simpa using hm
  lk := by simp
  row := fun x hx => by
    obtain ⟨k, _, rfl⟩ := List.mem_map.mp hx
    exact row01_ok _ n
theorem set6 (rs' : List (List Int)) : (lc s p r ws n way rs y7 y8 y9 y10).set 6 (.st (.lst (rs'.map tI))) = lc s p r ws n way rs' y7 y8 y9 y10 := rfl
theorem setX {f : Ev D} {rs' : List (List Int)} (h : f (lc s p r ws n way rs y7 y8 y9 y10) = .ok (.lst (rs'.map tI)) (lc s p r ws n way rs y7 y8 y9 y10)) : sSet 6 f (lc s p r ws n way rs y7 y8 y9 y10) = .nx (lc s p r ws n way rs' y7 y8 y9 y10) := by
  simp only [sSet, h, ofE]
  exact congrArg SRes.nx (set6 rs')
theorem compRows {ρ ρ1 : Ρ} {X te : Ev D} {m k : Nat} (g : Nat → List Int) (hX : X ρ = .ok (.int m) ρ1) (h : m ≤ 1000) (hk : (svAt ρ1 k).own = false)
    (ht : ∀ i, i < m → te (ρ1.set k (.st (.int (i : Nat)))) = .ok (tI (g i)) (ρ1.set k (.st (.int (i : Nat))))) :
    eFz (nLc (iCall dRng1 (lCons X lNil)) (tgN k) tYesF te [k]) ρ = .ok (.lst (((List.range m).map g).map tI)) ρ1 := by
  have c := rngComp (fun i => tI (g i)) hX h hk ht
  simp only [eFz, c, Res.bind]
  rw [List.map_map]
  exact rfl
theorem n1 : (eBin dAdd (eV 4) (eK (.int 1))) (lc s p r ws n way rs y7 y8 y9 y10) = .ok (.int ((n + 1 : Nat) : Int)) (lc s p r ws n way rs y7 y8 y9 y10) := by
  simp [runDef, noEx, sRet, sExpr, sIf, sSet, sSeq, sNop, sAsg, sPar, sNew, SRes.bind, ofE, eAnd, eOr, eIf, eBin, eUn, eChain, eCB, eTup, eLst, eFz, nLst, eSl, poN, poS, eTake, eOLen, lNil, lCons, Res.bind, eK, eV, svAt, lift, toB, tV, tAndF, tOrF, tNotF, dNot, dNeg, iAny, iCall, dItemsA, dLen, lc, dAdd]
theorem P_way1 (hn : n ≤ 8) (h10 : y10.own = false) : ∃ rs', way1 (lc s p r ws n way rs y7 y8 y9 y10) = .nx (lc s p r ws n way rs' y7 y8 y9 y10) ∧ RowsOk n (n + 1) rs' :=
  ⟨_, setX (compRows (fun k => row01 (fun i => decide ((i : Int) < (k : Int))) n) n1 (by omega) rfl fun k hk => bitTup (m := 4) (j := 10) (fun i => decide ((i : Int) < (k : Int))) rfl (by omega) h10 fun i hi => by
    simp [runDef, noEx, sRet, sExpr, sIf, sSet, sSeq, sNop, sAsg, sPar, sNew, SRes.bind, ofE, eAnd, eOr, eIf, eBin, eUn, eChain, eCB, eTup, eLst, eFz, nLst, eSl, poN, poS, eTake, eOLen, lNil, lCons, Res.bind, eK, eV, svAt, lift, toB, tV, tAndF, tOrF, tNotF, dNot, dNeg, iAny, iCall, dItemsA, dLen, lc, dLt]), rows_gen (n := n) (m := n + 1) (fun k i => decide ((i : Int) < (k : Int))) (by omega)⟩
theorem P_way2 (hn : n ≤ 8) (h10 : y10.own = false) : ∃ rs', way2 (lc s p r ws n way rs y7 y8 y9 y10) = .nx (lc s p r ws n way rs' y7 y8 y9 y10) ∧ RowsOk n (n + 1) rs' :=
  ⟨_, setX (compRows (fun k => row01 (fun i => decide ((i : Int) = (k : Int))) n) n1 (by omega) rfl fun k hk => bitTup (m := 4) (j := 10) (fun i => decide ((i : Int) = (k : Int))) rfl (by omega) h10 fun i hi => by
    simp [runDef, noEx, sRet, sExpr, sIf, sSet, sSeq, sNop, sAsg, sPar, sNew, SRes.bind, ofE, eAnd, eOr, eIf, eBin, eUn, eChain, eCB, eTup, eLst, eFz, nLst, eSl, poN, poS, eTake, eOLen, lNil, lCons, Res.bind, eK, eV, svAt, lift, toB, tV, tAndF, tOrF, tNotF, dNot, dNeg, iAny, iCall, dItemsA, dLen, lc, dEq_int]), rows_gen (n := n) (m := n + 1) (fun k i => decide ((i : Int) = (k : Int))) (by omega)⟩
end PU.C
set_option maxHeartbeats 1000000
set_option exponentiation.threshold 5000
namespace PU.C
open PySem PySem.Spec PyProof.Rows L2 PU
theorem cutD_take {α : Type} (xs : List α) (k : Nat) : cutD xs none (some (k : Int)) = xs.take k := by
  unfold cutD
  rw [HT.sIx_none, HT.sIx_nat, List.drop_zero, Nat.sub_zero]
  by_cases h : k ≤ xs.length
  · rw [Nat.min_eq_left h]
  · rw [Nat.min_eq_right (by omega), List.take_of_length_le (by omega), List.take_of_length_le (by omega)]
theorem cutD_drop {α : Type} (xs : List α) (k : Nat) : cutD xs (some (k : Int)) none = xs.drop k := by
  unfold cutD
  rw [HT.sIx_none, HT.sIx_nat]
  by_cases h : k ≤ xs.length
  · rw [Nat.min_eq_left h, List.take_of_length_le (by simp)]
  · rw [Nat.min_eq_right (by omega), List.drop_of_length_le (by omega), List.drop_of_length_le (by omega), List.take_nil]
theorem nodup_sub_len {α : Type} [DecidableEq α] : ∀ (L M : List α), L.Nodup → (∀ x ∈ L, x ∈ M) → L.length ≤ M.length
  | [], _, _, _ => Nat.zero_le _
  | x :: L, M, nd, h => by
    rw [List.nodup_cons] at nd
    have hx := h x List.mem_cons_self
    have i := nodup_sub_len L (M.erase x) nd.2 fun y hy => (List.mem_erase_of_ne fun e => nd.1 (by rw [← e]; exact hy)).mpr (h y (List.mem_cons_of_mem _ hy))
    rw [List.length_erase_of_mem hx] at i
    have : 0 < M.length := List.length_pos_of_mem hx
    rw [List.length_cons]
    omega
theorem few_cover {rs M : List (List Int)} (h : ∀ x ∈ rs, x ∈ M) (hm : M.length < 63) : Few rs := fun L nd hL => Nat.lt_of_le_of_lt (nodup_sub_len L M nd fun x hx => h x (hL x hx)) hm
theorem few_len {rs : List (List Int)} (hm : rs.length < 63) : Few rs := few_cover (fun _ h => h) hm
/-- rows of n labels, not too many, and few unlike -/
structure SOk (n : Nat) (rs : List (List Int)) : Prop where
  l1 : 1 ≤ rs.length
  lk : rs.length ≤ 500
  row : ∀ r ∈ rs, r.length = n ∧ ∀ x ∈ r, x = 0 ∨ x = 1
  few : Few rs
theorem RowsOk.sok {n k : Nat} {rs : List (List Int)} (h : RowsOk n k rs) (hk : k < 63) : SOk n rs := ⟨h.l1, by have := h.lk; omega, h.row, few_len (by have := h.lk; omega)⟩
/-- a for loop with what was before in hand -/
theorem forL_pre {α : Type} {T : D → Ρ → Option Ρ} {B : Sv} (f : α → D) (P : List α → Ρ → Prop) (xs : List α) (hs : ∀ (done : List α) (x : α) (rest : List α) (ρ : Ρ), done ++ x :: rest = xs → P done ρ → ∃ ρ1 ρ2, T (f x) ρ = some ρ1 ∧ B ρ1 = .nx ρ2 ∧ P (done ++ [x]) ρ2) :
    ∀ (rest done : List α) (ρ : Ρ), done ++ rest = xs → P done ρ → ∃ ρ', forL T B (rest.map f) ρ = .nx ρ' ∧ P xs ρ'
  | [], done, ρ, e, h => ⟨ρ, rfl, by rw [← e, List.append_nil]; exact h⟩
  | x :: rest, done, ρ, e, h => by
    obtain ⟨ρ1, ρ2, e1, e2, h2⟩ := hs done x rest ρ e h
    obtain ⟨ρ', e3, h3⟩ := forL_pre f P xs hs rest (done ++ [x]) ρ2 (by rw [← e, List.append_assoc]; rfl) h2
    refine ⟨ρ', ?_, h3⟩
    rw [List.map_cons]
    simp only [forL, e1, e2]
    exact e3
/-! ### way 3 -/
def stR (n h l : Nat) : List Int := row01 (fun i => decide ((h : Int) ≤ (i : Int)) && decide ((i : Int) < (l : Int))) n
def lapsR (n l : Nat) : List (List Int) := (List.range (l + 1)).map fun h => stR n h l
theorem stR_refl (n l : Nat) : stR n l l = stR n 0 0 := by
  unfold stR row01
  refine List.map_congr_left fun i _ => ?_
  have e1 : (decide ((l : Int) ≤ (i : Int)) && decide ((i : Int) < (l : Int))) = false := by
    by_cases h : (l : Int) ≤ i
    · have h2 : ¬ (i : Int) < l := by omega
      rw [decide_eq_false h2, Bool.and_false]
    · rw [decide_eq_false h, Bool.false_and]
  have e2 : (decide (((0 : Nat) : Int) ≤ (i : Int)) && decide ((i : Int) < ((0 : Nat) : Int))) = false := by
    have h2 : ¬ (i : Int) < ((0 : Nat) : Int) := by omega
    rw [decide_eq_false h2, Bool.and_false]
  exact congrArg b01 (e1.trans e2.symm)
def coverR (n : Nat) : List (List Int) := stR n 0 0 :: (List.range 9).flatMap fun l => (List.range l).map fun h => stR n h l
theorem coverR_len (n : Nat) : (coverR n).length = 37 := by
  simp [coverR, List.length_flatMap]
  decide
theorem mem_coverR {n l : Nat} (hl : l ≤ 8) {x : List Int} (h : x ∈ lapsR n l) : x ∈ coverR n := by
  obtain ⟨k, hk, rfl⟩ := List.mem_map.mp h
  have hk' := List.mem_range.mp hk
  by_cases e : k = l
  · subst e
    rw [stR_refl]
    exact List.mem_cons_self
  · refine List.mem_cons_of_mem _ (List.mem_flatMap.mpr ⟨l, List.mem_range.mpr (by omega), List.mem_map.mpr ⟨k, List.mem_range.mpr (by omega), rfl⟩⟩)
theorem laps_len (n : Nat) : ∀ (k : Nat), k ≤ 9 → ((List.range k).flatMap (lapsR n)).length ≤ 9 * k
  | 0, _ => by simp
  | k + 1, h => by
    have i := laps_len n k (by omega)
    rw [List.range_succ, List.flatMap_append, List.length_append]
    simp only [List.flatMap_cons, List.flatMap_nil, List.append_nil]
    have : (lapsR n k).length = k + 1 := by simp [lapsR]
    omega
variable {s : DrS} {p r : Int} {ws : List Str} {n : Nat} {way : Int} {rs : List (List Int)} {y7 y8 y9 y10 : SV}
def lap3 : Sv := (sSet 6 (eBin dAdd (eV 6) (eFz (nLc (iCall dRng1 (lCons (eBin dAdd (eV 7) (eK (.int 1))) lNil)) (tgN 16) tYesF (eCB dTuple (lCons (eFz (nLc (iCall dRng1 (lCons (eV 4) lNil)) (tgN 10) tYesF (eIf (tV (eChain dLe dLt (eV 16) (eV 10) (eV 7))) (eK (.int 1)) (eK (.int 0))) [10])) lNil)) [16]))))
def way3 : Sv := (sSeq (sFor (iCall dRng1 (lCons (eBin dAdd (eV 4) (eK (.int 1))) lNil)) (tgN 7) lap3)
  (sSet 6 (eSl (eV 6) (poS (eK (.int 1))) poN)))
theorem set7 {y : SV} : (lc s p r ws n way rs y7 y8 y9 y10).set 7 y = lc s p r ws n way rs y y8 y9 y10 := rfl
theorem chain3 {ρ : Ρ} {i j k : Nat} {a b c : Int} (h1 : svAt ρ i = .st (.int a)) (h2 : svAt ρ j = .st (.int b)) (h3 : svAt ρ k = .st (.int c)) : tV (eChain dLe dLt (eV i) (eV j) (eV k)) ρ = .ok (decide (a ≤ b) && decide (b < c)) ρ := by
  have d1 : dLe (.int a) (.int b) = some (.bl (decide (a ≤ b))) := rfl
  have d2 : dLt (.int b) (.int c) = some (.bl (decide (b < c))) := rfl
  refine tV_ok ?_
  by_cases q : a ≤ b
  · rw [decide_eq_true q, Bool.true_and]
    rw [decide_eq_true q] at d1
    simp only [eChain, eV, h1, h2, h3, Res.bind, d1, d2, lift]
  · rw [decide_eq_false q, Bool.false_and]
    rw [decide_eq_false q] at d1
    simp only [eChain, eV, h1, h2, Res.bind, d1, lift]
theorem P_lap3 {l : Nat} (hn : n ≤ 8) (hl : l ≤ 8) (h10 : y10.own = false) (hrs : rs.length ≤ 400) :
    lap3 (lc s p r ws n way rs (.st (.int l)) y8 y9 y10) = .nx (lc s p r ws n way (rs ++ lapsR n l) (.st (.int l)) y8 y9 y10) := by
  have d1 : dAdd (.int (l : Int)) (.int 1) = some (.int ((l + 1 : Nat) : Int)) := rfl
  have x7 : (eBin dAdd (eV 7) (eK (.int 1))) (lc s p r ws n way rs (.st (.int l)) y8 y9 y10) = .ok (.int ((l + 1 : Nat) : Int)) (lc s p r ws n way rs (.st (.int l)) y8 y9 y10) := eBin_ok (eV_ok rfl) eK_ok d1
  have c := compRows (k := 16) (te := eCB dTuple (lCons (eFz (nLc (iCall dRng1 (lCons (eV 4) lNil)) (tgN 10) tYesF (eIf (tV (eChain dLe dLt (eV 16) (eV 10) (eV 7))) (eK (.int 1)) (eK (.int 0))) [10])) lNil)) (fun k => stR n k l) x7 (by omega) rfl fun k hk =>
    bitTup (m := 4) (j := 10) (fun i => decide ((k : Int) ≤ (i : Int)) && decide ((i : Int) < (l : Int))) rfl (by omega) h10 fun i hi => chain3 rfl rfl rfl
  exact setX (eBin_ok (eV_ok rfl) c (by rw [dAdd_lst (by simp; omega), ← List.map_append, lapsR]))
theorem P_way3 (hn : n ≤ 8) (h10 : y10.own = false) (h : RowsOk n 24 rs) : ∃ rs' y7', way3 (lc s p r ws n way rs y7 y8 y9 y10) = .nx (lc s p r ws n way rs' y7' y8 y9 y10) ∧ SOk n rs' := by
  have hi : iCall dRng1 (lCons (eBin dAdd (eV 4) (eK (.int 1))) lNil) (lc s p r ws n way rs y7 y8 y9 y10) = .ok ((List.range (n + 1)).map fun (i : Nat) => D.int (i : Int)) (lc s p r ws n way rs y7 y8 y9 y10) :=
    iRng (n := n + 1) n1 (by omega)
  obtain ⟨ρ', e, y7', hρ⟩ := forL_pre (T := tgN 7) (B := lap3) (fun (i : Nat) => D.int (i : Int)) (fun done ρ => ∃ y7', ρ = lc s p r ws n way (rs ++ done.flatMap (lapsR n)) y7' y8 y9 y10) (List.range (n + 1)) (fun done x rest ρ e ⟨y7', hρ⟩ => by
    have hx : x ∈ List.range (n + 1) := by rw [← e]; simp
    have hx' := List.mem_range.mp hx
    have hd : done = List.range done.length := by
      have := congrArg (List.take done.length) e
      rw [List.take_left, List.take_range] at this
      have hl : done.length ≤ n + 1 := by
        have := congrArg List.length e
        simp at this
        omega
      rw [Nat.min_eq_left hl] at this
      exact this
    have hdl : done.length ≤ n := by
      have := congrArg List.length e
      simp at this
      omega
    have hll := laps_len n done.length (by omega)
    rw [← hd] at hll
    have hrl := h.lk
    refine ⟨lc s p r ws n way (rs ++ done.flatMap (lapsR n)) (.st (.int x)) y8 y9 y10, _, congrArg some (by rw [hρ]; exact set7), P_lap3 hn (by omega) h10 (by rw [List.length_append]; omega), .st (.int x), ?_⟩
    rw [List.flatMap_append, List.append_assoc]
    simp) (List.range (n + 1)) [] (lc s p r ws n way rs y7 y8 y9 y10) rfl ⟨y7, by simp⟩
  refine ⟨(rs ++ (List.range (n + 1)).flatMap (lapsR n)).tail, y7', ?_, ?_⟩
  · have q : sFor (iCall dRng1 (lCons (eBin dAdd (eV 4) (eK (.int 1))) lNil)) (tgN 7) lap3 (lc s p r ws n way rs y7 y8 y9 y10) = .nx ρ' := (sFor_ok hi).trans e
    rw [way3, sSeq_ok q, hρ]
    have z : dSl (.lst ((rs ++ (List.range (n + 1)).flatMap (lapsR n)).map tI)) (some 1) none = some (.lst ((rs ++ (List.range (n + 1)).flatMap (lapsR n)).tail.map tI)) := by
      show some (D.lst (cutD _ (some 1) none)) = _
      rw [cutD_tail, List.map_tail]
    exact setX (eSl_ok (eV_ok rfl) (poS_ok eK_ok) poN_ok z)
  · have ll := laps_len n (n + 1) (by omega)
    have hrl := h.lk
    have hr1 := h.l1
    have row : ∀ x ∈ rs ++ (List.range (n + 1)).flatMap (lapsR n), x.length = n ∧ ∀ y ∈ x, y = 0 ∨ y = 1 := fun x hx => by
      rcases List.mem_append.mp hx with z | z
      · exact h.row x z
      · obtain ⟨l, _, hl⟩ := List.mem_flatMap.mp z
        obtain ⟨k, _, rfl⟩ := List.mem_map.mp hl
        exact row01_ok _ n
    have l0 : 1 ≤ ((List.range (n + 1)).flatMap (lapsR n)).length := by
      rw [List.range_succ, List.flatMap_append, List.length_append]
      simp only [List.flatMap_cons, List.flatMap_nil, List.append_nil, lapsR, List.length_map, List.length_range]
      omega
    refine ⟨by rw [List.length_tail, List.length_append]; omega, by rw [List.length_tail, List.length_append]; omega, fun x hx => row x (List.mem_of_mem_tail hx), ?_⟩
    refine few_cover (M := rs.tail ++ coverR n) (fun x hx => ?_) (by rw [List.length_append, coverR_len, List.length_tail]; omega)
    have : x ∈ rs.tail ++ (List.range (n + 1)).flatMap (lapsR n) := by
      cases rs with
      | nil => simp at hr1
      | cons r0 rs => exact hx
    rcases List.mem_append.mp this with z | z
    · exact List.mem_append_left _ z
    · obtain ⟨l, hl, hl2⟩ := List.mem_flatMap.mp z
      exact List.mem_append_right _ (mem_coverR (by have := List.mem_range.mp hl; omega) hl2)
end PU.C
set_option maxHeartbeats 1000000
set_option exponentiation.threshold 5000
namespace PU.C
open PySem PySem.Spec PyProof.Rows L2 PU
variable {s : DrS} {p r : Int} {ws : List Str} {n : Nat} {way : Int} {rs : List (List Int)} {y7 y8 y9 y10 : SV}
/-! ### way 4 -/
def turned (at_ : Nat) (r : List Int) : List Int := r.take at_ ++ [1 - r.getD at_ 0] ++ r.drop (at_ + 1)
def item4 : Ev D := eBin dAdd (eBin dAdd (eSl (eV 8) poN (poS (eV 10))) (eTup (lCons (eBin dSub (eK (.int 1)) (eBin dIx (eV 8) (eV 10))) lNil))) (eSl (eV 8) (poS (eBin dAdd (eV 10) (eK (.int 1)))) poN)
def way4 : Sv := (sSeq (sSet 8 (eBin dIx (eV 6) (eK (.int 0))))
  (sSet 6 (eBin dAdd (eV 6) (eFz (nLc (iCall dRng1 (lCons (eV 4) lNil)) (tgN 10) tYesF item4 [10])))))
theorem tI_cut (r : List Int) (k : Nat) : dSl (tI r) none (some (k : Int)) = some (tI (r.take k)) := by
  show some (D.tup (cutD (r.map D.int) none (some (k : Int)))) = _
  rw [cutD_take, ← List.map_take]
  exact rfl
theorem tI_drop (r : List Int) (k : Nat) : dSl (tI r) (some (k : Int)) none = some (tI (r.drop k)) := by
  show some (D.tup (cutD (r.map D.int) (some (k : Int)) none)) = _
  rw [cutD_drop, ← List.map_drop]
  exact rfl
theorem tI_at (r : List Int) {k : Nat} (h : k < r.length) : dIx (tI r) (.int (k : Int)) = some (.int (r.getD k 0)) := by
  show L2.atI (r.map D.int) (k : Int) = _
  rw [atI_nat _ (by omega) (by rw [List.length_map]; omega), Int.toNat_natCast, List.getElem?_map, List.getD_eq_getElem?_getD, List.getElem?_eq_getElem h]
  exact rfl
theorem lst_at {ds : List D} {k : Nat} (h : k < ds.length) : dIx (.lst ds) (.int (k : Int)) = ds[k]? := by
  show L2.atI ds (k : Int) = _
  rw [atI_nat _ (by omega) (by omega), Int.toNat_natCast]
theorem tI_add (a b : List Int) (h : a.length + b.length ≤ 1000) : dAdd (tI a) (tI b) = some (tI (a ++ b)) := by
  unfold tI
  rw [dAdd_tup (by rw [List.length_map, List.length_map]; exact h), List.map_append]
theorem item4_ok {ρ : Ρ} {r : List Int} {k : Nat} (h8 : svAt ρ 8 = .st (tI r)) (h10 : svAt ρ 10 = .st (.int (k : Nat))) (hk : k < r.length) (hr : r.length ≤ 8) : item4 ρ = .ok (tI (turned k r)) ρ := by
  have s1 : dSub (.int 1) (.int (r.getD k 0)) = some (.int (1 - r.getD k 0)) := rfl
  have s2 : dAdd (.int (k : Nat)) (.int 1) = some (.int ((k + 1 : Nat) : Int)) := rfl
  have a1 : eSl (eV 8) poN (poS (eV 10)) ρ = .ok (tI (r.take k)) ρ := eSl_ok (eV_ok h8) poN_ok (poS_ok (eV_ok h10)) (tI_cut r k)
  have a2 : eTup (lCons (eBin dSub (eK (.int 1)) (eBin dIx (eV 8) (eV 10))) lNil) ρ = .ok (tI [1 - r.getD k 0]) ρ := eTup_ok (l1_ok (eBin_ok eK_ok (eBin_ok (eV_ok h8) (eV_ok h10) (tI_at r hk)) s1)) (by simp)
  have a3 : eSl (eV 8) (poS (eBin dAdd (eV 10) (eK (.int 1)))) poN ρ = .ok (tI (r.drop (k + 1))) ρ := eSl_ok (eV_ok h8) (poS_ok (eBin_ok (eV_ok h10) eK_ok s2)) poN_ok (tI_drop r (k + 1))
  exact eBin_ok (eBin_ok a1 a2 (tI_add _ _ (by simp; omega))) a3 (tI_add _ _ (by simp; omega))
theorem turned_len {k : Nat} {r : List Int} (h : k < r.length) : (turned k r).length = r.length := by
  simp [turned]; omega
theorem turned_01 {k : Nat} {r : List Int} (hk : k < r.length) (h : ∀ x ∈ r, x = 0 ∨ x = 1) : ∀ x ∈ turned k r, x = 0 ∨ x = 1 := fun x hx => by
  unfold turned at hx
  rcases List.mem_append.mp hx with hx | hx
  · rcases List.mem_append.mp hx with hx | hx
    · exact h x (List.mem_of_mem_take hx)
    · have e := List.mem_singleton.mp hx
      have q := h (r.getD k 0) (by rw [List.getD_eq_getElem?_getD, List.getElem?_eq_getElem hk]; exact List.getElem_mem hk)
      rcases q with q | q <;> rw [e, q] <;> simp
  · exact h x (List.mem_of_mem_drop hx)
theorem P_way4 (hn : n ≤ 8) (h10 : y10.own = false) (h : RowsOk n 24 rs) : ∃ rs' y8', way4 (lc s p r ws n way rs y7 y8 y9 y10) = .nx (lc s p r ws n way rs' y7 y8' y9 y10) ∧ SOk n rs' := by
  obtain ⟨r0, rt, e⟩ : ∃ r0 rt, rs = r0 :: rt := by
    cases rs with
    | nil => exact absurd h.l1 (by simp)
    | cons a b => exact ⟨a, b, rfl⟩
  have hr0 := h.row r0 (by rw [e]; exact List.mem_cons_self)
  have q : dIx (.lst (rs.map tI)) (.int 0) = some (tI r0) := by
    rw [e]
    exact lst_at (k := 0) (by simp)
  have f1 : sSet 8 (eBin dIx (eV 6) (eK (.int 0))) (lc s p r ws n way rs y7 y8 y9 y10) = .nx (lc s p r ws n way rs y7 (.st (tI r0)) y9 y10) := sSet_ok (eBin_ok (eV_ok rfl) eK_ok q)
  have c := compRows (ρ := lc s p r ws n way rs y7 (.st (tI r0)) y9 y10) (ρ1 := lc s p r ws n way rs y7 (.st (tI r0)) y9 y10) (X := eV 4) (m := n) (k := 10) (te := item4) (fun k => turned k r0) (eV_ok rfl) (by omega) h10 fun k hk =>
    item4_ok (r := r0) rfl rfl (by rw [hr0.1]; exact hk) (by rw [hr0.1]; exact hn)
  have hl := h.lk
  refine ⟨rs ++ (List.range n).map fun k => turned k r0, .st (tI r0), ?_, ?_⟩
  · rw [way4, sSeq_ok f1]
    exact setX (eBin_ok (eV_ok rfl) c (by rw [dAdd_lst (by simp; omega), ← List.map_append]))
  · refine ⟨by rw [List.length_append]; have := h.l1; omega, by simp; omega, fun x hx => ?_, few_len (by simp; omega)⟩
    rcases List.mem_append.mp hx with z | z
    · exact h.row x z
    · obtain ⟨k, hk, rfl⟩ := List.mem_map.mp z
      have hk' : k < r0.length := by rw [hr0.1]; exact List.mem_range.mp hk
      exact ⟨(turned_len hk').trans hr0.1, turned_01 hk' hr0.2⟩
end PU.C
set_option maxHeartbeats 1000000
set_option exponentiation.threshold 5000
namespace PU.C
open PySem PySem.Spec PyProof.Rows L2 PU
variable {s : DrS} {p r : Int} {ws : List Str} {n : Nat} {way : Int} {rs : List (List Int)} {y7 y8 y9 y10 : SV}
/-! ### way 5 -/
/-- [row + (x,) for row in rows], the rows in slot i, row in slot k -/
def extE (i k : Nat) (x : Int) : Ev D := eFz (nLc (iAny (eV i)) (tgN k) tYesF (eBin dAdd (eV k) (eTup (lCons (eK (.int x)) lNil))) [k])
theorem ext_ok {ρ : Ρ} {i k : Nat} {x : Int} {cb : List (List Int)} {m : Nat} (hi : svAt ρ i = .st (.lst (cb.map tI))) (hk : (svAt ρ k).own = false) (hkl : k < ρ.length) (hl : cb.length ≤ 1000) (hm : ∀ r ∈ cb, r.length ≤ m) (hm2 : m ≤ 900) :
    extE i k x ρ = .ok (.lst ((cb.map fun r => r ++ [x]).map tI)) ρ := by
  have c := itmComp (ρ := ρ) (ρ1 := ρ) (I := iAny (eV i)) (te := eBin dAdd (eV k) (eTup (lCons (eK (.int x)) lNil))) (k := k) cb tI (fun r => tI (r ++ [x])) (iAny_lst (eV_ok hi)) hl hk fun r hr => by
    have v : svAt (ρ.set k (.st (tI r))) k = .st (tI r) := svAt_set_eq hkl
    have hr' := hm r hr
    exact eBin_ok (eV_ok v) (eTup_ok (l1_ok eK_ok) (by simp)) (tI_add r [x] (by simp; omega))
  unfold extE
  rw [eFz_ok c, List.map_map]
  exact rfl
/-- rows of m labels -/
structure Cb (m : Nat) (cb : List (List Int)) : Prop where
  l1 : 1 ≤ cb.length
  row : ∀ r ∈ cb, r.length = m ∧ ∀ x ∈ r, x = 0 ∨ x = 1
theorem Cb.ext {m : Nat} {cb : List (List Int)} (h : Cb m cb) : Cb (m + 1) ((cb.map fun r => r ++ [0]) ++ cb.map fun r => r ++ [1]) where
  l1 := by rw [List.length_append, List.length_map]; have := h.l1; omega
  row := fun r hr => by
    rcases List.mem_append.mp hr with z | z
    · obtain ⟨q, hq, rfl⟩ := List.mem_map.mp z
      refine ⟨by rw [List.length_append, (h.row q hq).1]; rfl, fun x hx => ?_⟩
      rcases List.mem_append.mp hx with y | y
      · exact (h.row q hq).2 x y
      · exact .inl (List.mem_singleton.mp y)
    · obtain ⟨q, hq, rfl⟩ := List.mem_map.mp z
      refine ⟨by rw [List.length_append, (h.row q hq).1]; rfl, fun x hx => ?_⟩
      rcases List.mem_append.mp hx with y | y
      · exact (h.row q hq).2 x y
      · exact .inr (List.mem_singleton.mp y)
def lap5 : Sv := sSet 9 (eBin dAdd (extE 9 15 0) (extE 9 15 1))
def fill5 : Ev D := eFz (nLc (iAny (eV 9)) (tgN 15) tYesF (eBin dAdd (eV 15) (eBin dMulW (eTup (lCons (eK (.int 0)) lNil)) (eBin dSub (eV 4) (eCB dLen (lCons (eV 15) lNil))))) [15])
def way5 : Sv := (sSeq (sSet 9 (eLst (lCons (eTup lNil) lNil)))
  (sSeq (sFor (iCall dRng1 (lCons (eCB dMin2 (lCons (eV 4) (lCons (eK (.int 4)) lNil))) lNil)) (tgN 10) lap5)
  (sSet 6 (eBin dAdd fill5 (eSl (eV 6) poN (poS (eK (.int 2))))))))
def lc9 (s : DrS) (p r : Int) (ws : List Str) (n : Nat) (way : Int) (rs : List (List Int)) (y7 y8 : SV) (cb : List (List Int)) (y10 : SV) : Ρ := lc s p r ws n way rs y7 y8 (.st (.lst (cb.map tI))) y10
theorem lap5_ok {m : Nat} {cb : List (List Int)} (h : Cb m cb) (hl : cb.length ≤ 400) (hm : m ≤ 8) :
    lap5 (lc9 s p r ws n way rs y7 y8 cb y10) = .nx (lc9 s p r ws n way rs y7 y8 ((cb.map fun r => r ++ [0]) ++ cb.map fun r => r ++ [1]) y10) := by
  have e0 := ext_ok (ρ := lc9 s p r ws n way rs y7 y8 cb y10) (i := 9) (k := 15) (x := 0) (cb := cb) (m := 8) rfl rfl (by show 15 < 17; decide) (by omega) (fun r hr => by rw [(h.row r hr).1]; exact hm) (by decide)
  have e1 := ext_ok (ρ := lc9 s p r ws n way rs y7 y8 cb y10) (i := 9) (k := 15) (x := 1) (cb := cb) (m := 8) rfl rfl (by show 15 < 17; decide) (by omega) (fun r hr => by rw [(h.row r hr).1]; exact hm) (by decide)
  unfold lap5
  rw [sSet_ok (eBin_ok e0 e1 (by rw [dAdd_lst (by simp; omega), ← List.map_append]))]
  exact rfl
def padR (n : Nat) (r : List Int) : List Int := r ++ List.replicate (n - r.length) 0
theorem flat_rep (k : Nat) : (List.replicate k [D.int 0]).flatten = (List.replicate k (0 : Int)).map D.int := by
  induction k with
  | zero => rfl
  | succ k ih => rw [List.replicate_succ, List.flatten_cons, ih, List.replicate_succ, List.map_cons]; rfl
theorem fill5_ok {m : Nat} {cb : List (List Int)} (h : Cb m cb) (hl : cb.length ≤ 400) (hm : m ≤ n) (hn : n ≤ 8) :
    fill5 (lc9 s p r ws n way rs y7 y8 cb y10) = .ok (.lst ((cb.map (padR n)).map tI)) (lc9 s p r ws n way rs y7 y8 cb y10) := by
  have c := itmComp (ρ := lc9 s p r ws n way rs y7 y8 cb y10) (ρ1 := lc9 s p r ws n way rs y7 y8 cb y10) (I := iAny (eV 9)) (te := eBin dAdd (eV 15) (eBin dMulW (eTup (lCons (eK (.int 0)) lNil)) (eBin dSub (eV 4) (eCB dLen (lCons (eV 15) lNil))))) (k := 15) cb tI (fun r => tI (padR n r)) (iAny_lst (eV_ok rfl)) (by omega) rfl fun q hq => by
    have hq1 := (h.row q hq).1
    have dl : dLen [tI q] = some (.int (q.length : Int)) := by
      show some (D.int ((q.map D.int).length : Int)) = _
      rw [List.length_map]
    have ds : dSub (.int (n : Int)) (.int (q.length : Int)) = some (.int ((n - q.length : Nat) : Int)) := by
      show some (D.int ((n : Int) - (q.length : Int))) = _
      rw [show (n : Int) - (q.length : Int) = ((n - q.length : Nat) : Int) by omega]
    have dm : dMulW (.tup [.int 0]) (.int ((n - q.length : Nat) : Int)) = some (tI (List.replicate (n - q.length) 0)) := by
      show (if [D.int 0] ≠ [] ∧ (-1000 : Int) ≤ ((n - q.length : Nat) : Int) ∧ ((n - q.length : Nat) : Int) ≤ 1000 ∧ [D.int 0].length ≤ 1000 then _ else _) = _
      rw [if_pos ⟨by simp, by omega, by omega, by simp⟩, Int.toNat_natCast, flat_rep]
      exact rfl
    exact eBin_ok (eV_ok rfl) (eBin_ok (eTup_ok (l1_ok eK_ok) (by simp)) (eBin_ok (eV_ok rfl) (eCB_ok (l1_ok (eV_ok rfl)) dl) ds) dm) (tI_add q (List.replicate (n - q.length) 0) (by rw [List.length_replicate]; omega))
  unfold fill5
  rw [eFz_ok c, List.map_map]
  exact rfl
theorem min4 (h : n ≤ 8) : dMin2 [.int (n : Int), .int 4] = some (.int ((min n 4 : Nat) : Int)) := by
  show some (D.int (if (4 : Int) < (n : Int) then 4 else (n : Int))) = _
  split
  · rw [show min n 4 = 4 by omega]; rfl
  · rw [show min n 4 = n by omega]
theorem P_way5 (hn : n ≤ 8) (h : RowsOk n 24 rs) : ∃ rs' y9' y10', way5 (lc s p r ws n way rs y7 y8 y9 y10) = .nx (lc s p r ws n way rs' y7 y8 y9' y10') ∧ SOk n rs' := by
  have f1 : sSet 9 (eLst (lCons (eTup lNil) lNil)) (lc s p r ws n way rs y7 y8 y9 y10) = .nx (lc9 s p r ws n way rs y7 y8 [[]] y10) := sSet_ok (eLst_ok (l1_ok (eTup_ok lNil_ok (by simp))) (by simp))
  have hi : iCall dRng1 (lCons (eCB dMin2 (lCons (eV 4) (lCons (eK (.int 4)) lNil))) lNil) (lc9 s p r ws n way rs y7 y8 [[]] y10) = .ok ((List.range (min n 4)).map fun (i : Nat) => D.int (i : Int)) (lc9 s p r ws n way rs y7 y8 [[]] y10) :=
    iRng (eCB_ok (l2_ok (eV_ok rfl) eK_ok) (min4 hn)) (by omega)
  obtain ⟨ρ', e, cb, y10', hρ, hcb, hcl⟩ := forL_pre (T := tgN 10) (B := lap5) (fun (i : Nat) => D.int (i : Int)) (fun done ρ => ∃ cb y10', ρ = lc9 s p r ws n way rs y7 y8 cb y10' ∧ Cb done.length cb ∧ cb.length = 2 ^ done.length) (List.range (min n 4)) (fun done x rest ρ e ⟨cb, y10', hρ, hcb, hcl⟩ => by
    have hd : done.length < 4 := by
      have := congrArg List.length e
      simp at this
      omega
    have hcl' : cb.length ≤ 8 := by
      rw [hcl]
      exact Nat.le_trans (Nat.pow_le_pow_right (by decide) (by omega : done.length ≤ 3)) (by decide)
    refine ⟨lc9 s p r ws n way rs y7 y8 cb (.st (.int x)), _, congrArg some (by rw [hρ]; exact rfl), lap5_ok hcb (by omega) (by omega), _, .st (.int x), rfl, by rw [List.length_append]; exact hcb.ext, ?_⟩
    rw [List.length_append, List.length_map, List.length_map, hcl, List.length_append, List.length_singleton, Nat.pow_succ]
    omega) (List.range (min n 4)) [] (lc9 s p r ws n way rs y7 y8 [[]] y10) rfl ⟨[[]], y10, rfl, ⟨by simp, fun r hr => by rw [List.mem_singleton.mp hr]; exact ⟨rfl, fun x hx => by cases hx⟩⟩, rfl⟩
  rw [List.length_range] at hcb hcl
  have hcl' : cb.length ≤ 16 := by
    rw [hcl]
    exact Nat.le_trans (Nat.pow_le_pow_right (by decide) (by omega : min n 4 ≤ 4)) (by decide)
  have hl := h.lk
  have q : sFor (iCall dRng1 (lCons (eCB dMin2 (lCons (eV 4) (lCons (eK (.int 4)) lNil))) lNil)) (tgN 10) lap5 (lc9 s p r ws n way rs y7 y8 [[]] y10) = .nx ρ' := (sFor_ok hi).trans e
  have z : dSl (.lst (rs.map tI)) none (some 2) = some (.lst ((rs.take 2).map tI)) := by
    show some (D.lst (cutD (rs.map tI) none (some ((2 : Nat) : Int)))) = _
    rw [cutD_take, List.map_take]
  refine ⟨cb.map (padR n) ++ rs.take 2, .st (.lst (cb.map tI)), y10', ?_, ?_⟩
  · rw [way5, sSeq_ok f1, sSeq_ok q, hρ]
    exact setX (eBin_ok (fill5_ok hcb (by omega) (by omega) hn) (eSl_ok (eV_ok rfl) poN_ok (poS_ok eK_ok) z) (by rw [dAdd_lst (by simp; omega), ← List.map_append]))
  · refine ⟨by rw [List.length_append, List.length_map]; have := hcb.l1; omega, by simp; omega, fun x hx => ?_, few_len (by simp; omega)⟩
    rcases List.mem_append.mp hx with y | y
    · obtain ⟨k, hk, rfl⟩ := List.mem_map.mp y
      have hk1 := (hcb.row k hk).1
      refine ⟨by rw [padR, List.length_append, List.length_replicate]; omega, fun x hx => ?_⟩
      rcases List.mem_append.mp hx with u | u
      · exact (hcb.row k hk).2 x u
      · exact .inl (List.eq_of_mem_replicate u)
    · exact h.row x (List.mem_of_mem_take y)
end PU.C
set_option maxHeartbeats 1000000
set_option exponentiation.threshold 5000
namespace PU.C
open PySem PySem.Spec PyProof.Rows L2 PU
theorem srtOk_rows {rs : List (List Int)} (hl : rs.length ≤ 1000) (h : ∀ r ∈ rs, r ≠ []) : srtOk (rs.map tI) = true := by
  have a1 : (rs.map tI).length ≤ sizeLine := by rw [List.length_map]; exact small hl
  have a2 : (rs.map tI).all (okd 60) = true := by
    simp only [List.all_map, List.all_eq_true]
    exact fun r _ => okd_ints 59 r
  have a3 : (rs.map tI).all (fun d => (rs.map tI).all fun e => PySem.W.alike d.py e.py) = true := by
    simp only [List.all_map, List.all_eq_true]
    intro x _
    simp only [Function.comp, List.all_eq_true]
    intro y _
    show PySem.W.alikeAll (D.pyL (x.map .int)) (D.pyL (y.map .int)) = true
    rw [pyL_ints, pyL_ints]
    exact alike_ints x y
  have a4 : (rs.map tI).all neTup = true := by
    simp only [List.all_map, List.all_eq_true]
    intro x hx
    cases x with
    | nil => exact absurd rfl (h _ hx)
    | cons a b => rfl
  unfold srtOk
  rw [decide_eq_true a1, a2, a3, a4]
  simp
/-- words drawn, as a tuple -/
theorem wordsTup {b : Nat} {s : DrS} (h : DrI b s) {ρ : Ρ} {X : Ev D} {p : Int} (h0 : svAt ρ 0 = .dr s) (hl : 0 < ρ.length) (hX : X ρ = .ok (.int p) ρ) (h1 : 1 ≤ p) (h8 : p ≤ 8) (hb : b + 8 * MN + 40 ≤ BIG) :
    ∃ (ws : List Str) (s' : DrS), eCB dTuple (lCons (eCall1 0 f__law_words (lCons (eBin dAdd (eK (.int 1)) (eCall1 0 f__law_draw (lCons X lNil))) lNil)) lNil) ρ = .ok (.tup (ws.map .str)) (ρ.set 0 (.dr s')) ∧ WOk ws ∧ DrI (b + 8 * MN + 1) s' := by
  have dv := drawV_bd s (room := p) (by omega)
  have d := ev_draw h (by omega) h0 hX (by omega) (by omega)
  have a : dAdd (.int 1) (.int (drawV s p)) = some (.int (((1 + drawV s p).toNat : Nat) : Int)) := by
    show some (D.int (1 + drawV s p)) = _
    rw [Int.toNat_of_nonneg (by omega)]
  have hm : (1 + drawV s p).toNat ≤ 8 := by omega
  have hmn : (1 + drawV s p).toNat * MN ≤ 8 * MN := Nat.mul_le_mul_right _ hm
  obtain ⟨ws, s', e, w1, w2, w3⟩ := ev_words (h.draw (room := p) (by omega)) (many := (1 + drawV s p).toNat) (by omega) hm (by omega) (ρ := ρ) (i := 0) (by rw [h0]; rfl) (eBin_ok eK_ok d a) (svAt_set_eq hl)
  refine ⟨ws, s', ?_, w1, w3.mono (by omega)⟩
  rw [List.set_set] at e
  exact eCB_ok (l1_ok e) rfl
/-- a lap's row of bits, a lot of laps -/
theorem bitLaps {b : Nat} {s : DrS} {ρ ρ1 : Ρ} {X : Ev D} {m : Nat} {ws : List Str} {k j w : Nat} (h : DrI b s) (hX : X ρ = .ok (.int m) ρ1) (h0 : svAt ρ1 0 = .dr s) (hl : 0 < ρ1.length) (hw : svAt ρ1 w = .st (.tup (ws.map .str))) (hm : m ≤ 40) (hws : ws.length ≤ 8)
    (hk : (svAt ρ1 k).own = false) (hj : (svAt ρ1 j).own = false) (k0 : 0 ≠ k) (j0 : 0 ≠ j) (w0 : 0 ≠ w) (wk : k ≠ w) (jk : k ≠ j) (hb : b + 400 ≤ BIG) :
    ∃ (rs : List (List Int)) (s' : DrS), eFz (nLc (iCall dRng1 (lCons X lNil)) (tgN k) tYesF (eCB dTuple (lCons (eFz (nLc (iAny (eV w)) (tgN j) tYesF (eCall1 0 f__law_draw (lCons (eK (.int 2)) lNil)) [j])) lNil)) [k]) ρ = .ok (.lst (rs.map tI)) (ρ1.set 0 (.dr s')) ∧
      rs.length = m ∧ (∀ r ∈ rs, r.length = ws.length ∧ ∀ x ∈ r, x = 0 ∨ x = 1) ∧ DrI (b + 400) s' := by
  have key := nLc_dr (I := iCall dRng1 (lCons X lNil)) (T := tgN k) (tt := tYesF) (te := eCB dTuple (lCons (eFz (nLc (iAny (eV w)) (tgN j) tYesF (eCall1 0 f__law_draw (lCons (eK (.int 2)) lNil)) [j])) lNil)) (vs := [k]) (ρ := ρ) (ρ1 := ρ1)
    (fun s => (ρ1.set k .un).set 0 (.dr s)) (fun (i : Nat) => D.int (i : Int)) (fun (_ : Nat) s => some (tI (drs 2 ws.length s))) (seqS (fun s => drawS s 2) ws.length) (b + 320) 8 (List.range m) s b (iRng hX (by omega)) (by simp [stFree, hk]) (by
      show ρ1.set k .un = _
      rw [List.set_comm _ _ (Ne.symm k0), ← h0, set_self]) (fun i _ s b' h' hb' => by
      have t : tgN k (D.int (i : Int)) ((ρ1.set k .un).set 0 (.dr s)) = some ((ρ1.set 0 (.dr s)).set k (.st (.int (i : Int)))) := by
        unfold tgN
        rw [List.set_comm _ _ k0, List.set_set, List.set_comm _ _ (Ne.symm k0)]
      have v0 : svAt ((ρ1.set 0 (.dr s)).set k (.st (.int (i : Int)))) 0 = .dr s := by
        rw [svAt_set_ne (Ne.symm k0), svAt_set_eq hl]
      have vw : svAt ((ρ1.set 0 (.dr s)).set k (.st (.int (i : Int)))) w = .st (.tup (ws.map .str)) := by
        rw [svAt_set_ne wk, svAt_set_ne w0, hw]
      have vj : svAt ((ρ1.set 0 (.dr s)).set k (.st (.int (i : Int)))) j = svAt ρ1 j := by
        rw [svAt_set_ne jk, svAt_set_ne j0]
      have dc := drawComp (room := 2) (k := j) (I := iAny (eV w)) (ds := ws.map .str) (ρ := (ρ1.set 0 (.dr s)).set k (.st (.int (i : Int)))) (ρ1 := (ρ1.set 0 (.dr s)).set k (.st (.int (i : Int)))) h' (by rw [List.length_map]; omega) (by rw [List.length_map]; omega) (by decide) (by decide) (iAny_tup (eV_ok vw)) v0 (by rw [vj]; exact hj) j0 (by rw [List.length_set, List.length_set]; exact hl)
      rw [List.length_map] at dc
      have e := eCB_ok (g := dTuple) (l1_ok (eFz_ok dc.1)) (show dTuple [.lst ((drs 2 ws.length s).map .int)] = some (tI (drs 2 ws.length s)) from rfl)
      have wv : wipeP (((ρ1.set 0 (.dr s)).set k (.st (.int (i : Int)))).set 0 (.dr (seqS (fun s => drawS s 2) ws.length s))) [k] = (ρ1.set k .un).set 0 (.dr (seqS (fun s => drawS s 2) ws.length s)) := by
        show (((ρ1.set 0 (.dr s)).set k (.st (.int (i : Int)))).set 0 _).set k .un = _
        rw [List.set_comm (SV.st _) _ (Ne.symm k0), List.set_set, List.set_set, List.set_comm _ _ k0]
      exact ⟨by simp only [lcStep, t, tYesF, noEx, Res.bind, if_true, e, wv], dc.2.mono (by omega)⟩) h (by rw [List.length_range]; omega) (by rw [List.length_range]; exact small (by omega))
  obtain ⟨k1, k2⟩ := key
  have sq : ∀ (xs : List Nat) (s : DrS), ∃ rs : List (List Int), seqF (fun (_ : Nat) s => some (tI (drs 2 ws.length s))) (seqS (fun s => drawS s 2) ws.length) xs s = rs.map tI ∧ rs.length = xs.length ∧ ∀ r ∈ rs, r.length = ws.length ∧ ∀ x ∈ r, x = 0 ∨ x = 1 := by
    intro xs
    induction xs with
    | nil => exact fun s => ⟨[], rfl, rfl, fun r hr => by cases hr⟩
    | cons x xs ih =>
      intro s
      obtain ⟨rs, e, l, q⟩ := ih (seqS (fun s => drawS s 2) ws.length s)
      refine ⟨drs 2 ws.length s :: rs, by simp only [seqF, e, Option.toList, List.map_cons, List.singleton_append], by rw [List.length_cons, l, List.length_cons], fun r hr => ?_⟩
      rcases List.mem_cons.mp hr with rfl | hr
      · refine ⟨drs_len 2 _ _, fun x hx => ?_⟩
        have := drs_bd (room := 2) (by decide) _ _ x hx
        omega
      · exact q r hr
  obtain ⟨rs, e, l, q⟩ := sq (List.range m) s
  rw [List.length_range] at k1 k2 l
  refine ⟨rs, _, ?_, l, q, k2.mono (by omega)⟩
  rw [eFz_ok k1, e]
  congr 1
  show ((ρ1.set k .un).set 0 _).set k (svAt ρ1 k) = _
  rw [List.set_comm _ _ k0, List.set_set, set_self]
end PU.C
set_option maxHeartbeats 1000000
set_option exponentiation.threshold 5000
namespace PU.C
open PySem PySem.Spec PyProof.Rows L2 PU
/-- a call that hands the draws' store on -/
theorem call1_ok {f : Fn} {L : Ev (List D)} {ρ ρ1 : Ρ} {ds : List D} {s s2 s' : DrS} {i : Nat} {d : D} {l : List SV} (h0 : svAt ρ i = .dr s) (hL : L ρ = .ok ds ρ1) (h1 : svAt ρ1 i = .dr s2) (hf : f (.dr s2 :: stL ds) = .ok d (.dr s' :: l)) :
    eCall1 i f L ρ = .ok d (ρ1.set i (.dr s')) := by
  have e1 : (SV.dr s).own = true := rfl
  have e2 : (SV.dr s2).own = true := rfl
  simp only [eCall1, h0, e1, if_true, hL, Res.bind, h1, e2, hf]
  rfl
theorem perm_map_inv {α β : Type} {f : α → β} : ∀ {es : List β} {L : List α}, es.Perm (L.map f) → ∃ L' : List α, L'.Perm L ∧ es = L'.map f
  | [], L, h => by
    have : L.map f = [] := h.symm.eq_nil
    have e : L = [] := by cases L with
      | nil => rfl
      | cons a b => cases this
    exact ⟨[], by rw [e], rfl⟩
  | e :: es, L, h => by
    have hm : e ∈ L.map f := h.mem_iff.mp List.mem_cons_self
    obtain ⟨x, hx, rfl⟩ := List.mem_map.mp hm
    obtain ⟨L1, L2, rfl⟩ := List.append_of_mem hx
    have h2 : (f x :: es).Perm (f x :: (L1 ++ L2).map f) := h.trans (by
      rw [List.map_append, List.map_cons, List.map_append]
      exact List.perm_middle)
    obtain ⟨L', p, e'⟩ := perm_map_inv (List.Perm.cons_inv h2)
    exact ⟨x :: L', (List.Perm.cons x p).trans List.perm_middle.symm, by rw [e', List.map_cons]⟩
variable {s : DrS} {p r : Int} {ws : List Str} {n : Nat} {way : Int} {rs : List (List Int)} {y7 y8 y9 y10 : SV}
def tW (k : Int) : Ev Bool := tV (eBin dEq (eV 5) (eK (.int k)))
def chainW (rest : Sv) : Sv := sSeq (sIf (tW 1) way1 sNop) (sSeq (sIf (tW 2) way2 sNop) (sSeq (sIf (tW 3) way3 sNop) (sSeq (sIf (tW 4) way4 sNop) (sSeq (sIf (tW 5) way5 sNop) rest))))
theorem tk {k : Int} {B : Sv} {ρ : Ρ} (h : way = k) (e : B (lc s p r ws n way rs y7 y8 y9 y10) = .nx ρ) : sIf (tW k) B sNop (lc s p r ws n way rs y7 y8 y9 y10) = .nx ρ := (takeT h).trans e
theorem sk {k : Int} {B : Sv} (h : way ≠ k) : sIf (tW k) B sNop (lc s p r ws n way rs y7 y8 y9 y10) = .nx (lc s p r ws n way rs y7 y8 y9 y10) := skipT h
theorem P_ways {rest : Sv} (hn : n ≤ 8) (h10 : y10.own = false) (h : RowsOk n 24 rs) :
    ∃ rs' y7' y8' y9' y10', chainW rest (lc s p r ws n way rs y7 y8 y9 y10) = rest (lc s p r ws n way rs' y7' y8' y9' y10') ∧ SOk n rs' := by
  unfold chainW
  by_cases h1 : way = 1
  · obtain ⟨rs', e, q⟩ := P_way1 (s := s) (p := p) (r := r) (ws := ws) (way := way) (rs := rs) (y7 := y7) (y8 := y8) (y9 := y9) hn h10
    exact ⟨rs', y7, y8, y9, y10, by rw [sSeq_ok (tk h1 e), sSeq_ok (sk (by omega)), sSeq_ok (sk (by omega)), sSeq_ok (sk (by omega)), sSeq_ok (sk (by omega))], q.sok (by omega)⟩
  rw [sSeq_ok (sk h1)]
  by_cases h2 : way = 2
  · obtain ⟨rs', e, q⟩ := P_way2 (s := s) (p := p) (r := r) (ws := ws) (way := way) (rs := rs) (y7 := y7) (y8 := y8) (y9 := y9) hn h10
    exact ⟨rs', y7, y8, y9, y10, by rw [sSeq_ok (tk h2 e), sSeq_ok (sk (by omega)), sSeq_ok (sk (by omega)), sSeq_ok (sk (by omega))], q.sok (by omega)⟩
  rw [sSeq_ok (sk h2)]
  by_cases h3 : way = 3
  · obtain ⟨rs', y7', e, q⟩ := P_way3 (s := s) (p := p) (r := r) (ws := ws) (way := way) (y7 := y7) (y8 := y8) (y9 := y9) hn h10 h
    exact ⟨rs', y7', y8, y9, y10, by rw [sSeq_ok (tk h3 e), sSeq_ok (sk (by omega)), sSeq_ok (sk (by omega))], q⟩
  rw [sSeq_ok (sk h3)]
  by_cases h4 : way = 4
  · obtain ⟨rs', y8', e, q⟩ := P_way4 (s := s) (p := p) (r := r) (ws := ws) (way := way) (y7 := y7) (y8 := y8) (y9 := y9) hn h10 h
    exact ⟨rs', y7, y8', y9, y10, by rw [sSeq_ok (tk h4 e), sSeq_ok (sk (by omega))], q⟩
  rw [sSeq_ok (sk h4)]
  by_cases h5 : way = 5
  · obtain ⟨rs', y9', y10', e, q⟩ := P_way5 (s := s) (p := p) (r := r) (ws := ws) (way := way) (y7 := y7) (y8 := y8) (y9 := y9) (y10 := y10) hn h
    exact ⟨rs', y7, y8, y9', y10', by rw [sSeq_ok (tk h5 e)], q⟩
  · exact ⟨rs, y7, y8, y9, y10, by rw [sSeq_ok (sk h5)], h.sok (by omega)⟩
/-! ### the end: shuffled, cut, sorted -/
noncomputable def cutC : Ev D := eSl (eCall1 0 f__law_shuffled (lCons (eCB dSortSet (lCons (eV 6) lNil)) lNil)) poN (poS (eV 2))
noncomputable def clsE (i j : Nat) : Ev D := eTup (lCons (eK (.str "class")) (lCons (eV i) (lCons (eCB dTuple (lCons (eCB dSorted (lCons (eV j) lNil)) lNil)) lNil)))
/-- ('class', words, tuple(sorted(rows))) -/
theorem cls_ok {ρ : Ρ} {i j : Nat} {ws : List Str} {L : List (List Int)} (hi : svAt ρ i = .st (.tup (ws.map .str))) (hj : svAt ρ j = .st (.lst (L.map tI))) (hw : WOk ws) (h1 : 1 ≤ L.length) (h24 : L.length ≤ 24) (nd : L.Nodup) (h : ∀ x ∈ L, x.length = ws.length ∧ ∀ y ∈ x, y = 0 ∨ y = 1) :
    ∃ ys, clsE i j ρ = .ok (cls ws ys) ρ ∧ COk ws ys := by
  obtain ⟨ys, e, pm, asc⟩ := srt_rows L
  have hne : ∀ x ∈ L, x ≠ [] := fun x hx z => by
    have := (h x hx).1
    rw [z] at this
    have := hw.len1
    simp at *
    omega
  have so : dSorted [.lst (L.map tI)] = some (.lst (ys.map tI)) := by
    show (if srtOk (L.map tI) = true then some (D.lst (srt (L.map tI))) else none) = _
    rw [if_pos (srtOk_rows (by omega) hne), e]
  refine ⟨ys, eTup_ok (lCons_ok eK_ok (l2_ok (eV_ok hi) (eCB_ok (l1_ok (eCB_ok (l1_ok (eV_ok hj)) so)) rfl))) (by simp), ⟨hw, by rw [pm.length_eq]; exact h1, by rw [pm.length_eq]; exact h24, fun x hx => h x (pm.mem_iff.mp hx), asc nd⟩⟩
theorem P_cut {b R : Nat} (h : DrI b s) (hb : b + 100 ≤ BIG) (hr : r = (R : Int)) (hR : 1 ≤ R) (hn : 1 ≤ n) (hs : SOk n rs) :
    ∃ (L : List (List Int)) (s' : DrS), sSet 6 cutC (lc s p r ws n way rs y7 y8 y9 y10) = .nx (lc s' p r ws n way L y7 y8 y9 y10) ∧ 1 ≤ L.length ∧ L.length ≤ R ∧ L.Nodup ∧ (∀ x ∈ L, x.length = n ∧ ∀ y ∈ x, y = 0 ∨ y = 1) ∧ DrI (b + 100) s' := by
  obtain ⟨L, e, nd, mem⟩ := P_sortset hn hs.few hs.row
  have hL : L.length < 63 := hs.few L nd fun x hx => (mem x).mp hx
  have hL1 : 1 ≤ L.length := by
    obtain ⟨x, hx⟩ : ∃ x, x ∈ rs := by
      cases rs with
      | nil => exact absurd hs.l1 (by simp)
      | cons a b => exact ⟨a, List.mem_cons_self⟩
    exact List.length_pos_of_mem ((mem x).mpr hx)
  have ok59 : (L.map tI).all (okd 59) = true := by
    simp only [List.all_map, List.all_eq_true]
    exact fun x _ => okd_ints 58 x
  obtain ⟨es, s', e2, pm, h'⟩ := ev_shuffled h (ds := L.map tI) (by rw [List.length_map]; omega) ok59 (by rw [List.length_map]; omega) (ρ := lc s p r ws n way rs y7 y8 y9 y10) (i := 0) (X := eCB dSortSet (lCons (eV 6) lNil)) rfl (eCB_ok (l1_ok (eV_ok rfl)) e) rfl
  obtain ⟨L', pm', rfl⟩ := perm_map_inv pm
  rw [List.length_map] at h'
  have z : dSl (.lst (L'.map tI)) none (some r) = some (.lst ((L'.take R).map tI)) := by
    rw [hr]
    show some (D.lst (cutD (L'.map tI) none (some (R : Int)))) = _
    rw [cutD_take, List.map_take]
  have hl := pm'.length_eq
  refine ⟨L'.take R, s', ?_, by rw [List.length_take]; omega, by rw [List.length_take]; omega, List.Nodup.sublist (List.take_sublist _ _) (pm'.nodup_iff.mpr nd), fun x hx => hs.row x ((mem x).mp (pm'.mem_iff.mp (List.mem_of_mem_take hx))), h'.mono (by omega)⟩
  exact (sSet_ok (eSl_ok e2 poN_ok (poS_ok (eV_ok rfl)) z)).trans rfl
end PU.C
set_option maxHeartbeats 1000000
set_option exponentiation.threshold 5000
namespace PU.C
open PySem PySem.Spec PyProof.Rows L2 PU
/-- what one class costs at most -/
def KC : Nat := 8 * MN + 800
noncomputable def wordsE (X : Ev D) : Ev D := eCB dTuple (lCons (eCall1 0 f__law_words (lCons (eBin dAdd (eK (.int 1)) (eCall1 0 f__law_draw (lCons X lNil))) lNil)) lNil)
noncomputable def found0 : Ev D := eFz (nLc (iCall dRng1 (lCons (eBin dAdd (eK (.int 1)) (eCall1 0 f__law_draw (lCons (eV 2) lNil))) lNil)) (tgN 11) tYesF (eCB dTuple (lCons (eFz (nLc (iAny (eV 3)) (tgN 14) tYesF (eCall1 0 f__law_draw (lCons (eK (.int 2)) lNil)) [14])) lNil)) [11])
theorem B_class_eq : B__law_class = sSeq (sSet 3 (wordsE (eV 1))) (sSeq (sAsg (tgT [4, 5]) (eTup (lCons (eCB dLen (lCons (eV 3) lNil)) (lCons (eCall1 0 f__law_draw (lCons (eK (.int 7)) lNil)) lNil)))) (sSeq (sSet 6 found0) (chainW (sSeq (sSet 6 cutC) (sRet (clsE 3 6)))))) := rfl
def lcW (s : DrS) (p r : Int) (ws : List Str) : Ρ := [.dr s, .st (.int p), .st (.int r), .st (.tup (ws.map .str)), .un, .un, .un, .un, .un, .un, .un, .un, .un, .un, .un, .un, .un]
def lcN (s : DrS) (p r : Int) (ws : List Str) (n : Nat) (way : Int) : Ρ := [.dr s, .st (.int p), .st (.int r), .st (.tup (ws.map .str)), .st (.int n), .st (.int way), .un, .un, .un, .un, .un, .un, .un, .un, .un, .un, .un]
def lc0 (s : DrS) (p r : Int) : Ρ := [.dr s, .st (.int p), .st (.int r), .un, .un, .un, .un, .un, .un, .un, .un, .un, .un, .un, .un, .un, .un]
theorem bud1 {b m : Nat} : b + 8 * m + 1 + 1 + 1 + 400 + 100 ≤ b + (8 * m + 800) := by omega
theorem bud2 {b m B : Nat} (h : b + (8 * m + 800) ≤ B) : b + 8 * m + 1 + 1 + 1 + 400 + 100 ≤ B ∧ b + 8 * m + 1 + 1 + 1 + 400 ≤ B ∧ b + 8 * m + 1 + 1 ≤ B ∧ b + 8 * m + 1 ≤ B ∧ b + 8 * m + 40 ≤ B := by omega
theorem P_class {b : Nat} {s : DrS} {p r : Int} (h : DrI b s) (hp1 : 1 ≤ p) (hp8 : p ≤ 8) (hr1 : 1 ≤ r) (hr24 : r ≤ 24) (hb : b + KC ≤ BIG) :
    ∃ (ws : List Str) (ys : List (List Int)) (s' : DrS) (l : List SV), f__law_class [.dr s, .st (.int p), .st (.int r)] = .ok (cls ws ys) (.dr s' :: l) ∧ COk ws ys ∧ DrI (b + KC) s' := by
  unfold KC at hb ⊢
  have t1 : r = (r.toNat : Int) := by omega
  have t2 : 1 ≤ r.toNat := by omega
  have t3 : r.toNat ≤ 24 := by omega
  have r0 : 0 < r := by omega
  have r1 : r ≤ 1048576 := by omega
  obtain ⟨u1, u2, u3, u4, u5⟩ := bud2 hb
  clear hb
  obtain ⟨ws, s1, e1, hw, h1⟩ := wordsTup h (ρ := lc0 s p r) (X := eV 1) (p := p) rfl (by show 0 < 17; decide) (eV_ok rfl) hp1 hp8 u5
  have f1 : sSet 3 (wordsE (eV 1)) (lc0 s p r) = .nx (lcW s1 p r ws) := (sSet_ok e1).trans rfl
  have dl : dLen [.tup (ws.map .str)] = some (.int (ws.length : Int)) := by
    show some (D.int ((ws.map D.str).length : Int)) = _
    rw [List.length_map]
  have d7 := ev_draw h1 u4 (ρ := lcW s1 p r ws) (i := 0) (X := eK (.int 7)) (room := 7) rfl eK_ok (by decide) (by decide)
  have f2 : sAsg (tgT [4, 5]) (eTup (lCons (eCB dLen (lCons (eV 3) lNil)) (lCons (eCall1 0 f__law_draw (lCons (eK (.int 7)) lNil)) lNil))) (lcW s1 p r ws) = .nx (lcN (drawS s1 7) p r ws ws.length (drawV s1 7)) :=
    sAsg_ok (eTup_ok (l2_ok (eCB_ok (l1_ok (eV_ok rfl)) dl) d7) (by simp)) rfl
  have h2 := h1.draw (room := 7) (by decide)
  have dv := drawV_bd (drawS s1 7) (room := r) r0
  have dr := ev_draw h2 u3 (ρ := lcN (drawS s1 7) p r ws ws.length (drawV s1 7)) (i := 0) (X := eV 2) (room := r) rfl (eV_ok rfl) r0 r1
  have t4 : 0 ≤ 1 + drawV (drawS s1 7) r := by omega
  have t5 : 1 ≤ (1 + drawV (drawS s1 7) r).toNat := by omega
  have t6 : (1 + drawV (drawS s1 7) r).toNat ≤ 24 := by omega
  have a : dAdd (.int 1) (.int (drawV (drawS s1 7) r)) = some (.int (((1 + drawV (drawS s1 7) r).toNat : Nat) : Int)) := by
    show some (D.int (1 + drawV (drawS s1 7) r)) = _
    rw [Int.toNat_of_nonneg t4]
  obtain ⟨rs, s3, e3, l3, q3, h3⟩ := bitLaps (h2.draw (room := r) r0) (ρ := lcN (drawS s1 7) p r ws ws.length (drawV s1 7)) (ρ1 := (lcN (drawS s1 7) p r ws ws.length (drawV s1 7)).set 0 (.dr (drawS (drawS s1 7) r))) (k := 11) (j := 14) (w := 3) (ws := ws) (eBin_ok eK_ok dr a) rfl (by show 0 < 17; decide) rfl (Nat.le_trans t6 (by decide)) hw.len8 rfl rfl (by decide) (by decide) (by decide) (by decide) (by decide) u2
  have f3 : sSet 6 found0 (lcN (drawS s1 7) p r ws ws.length (drawV s1 7)) = .nx (lc s3 p r ws ws.length (drawV s1 7) rs .un .un .un .un) := (sSet_ok e3).trans rfl
  have ro : RowsOk ws.length 24 rs := ⟨by rw [l3]; exact t5, by rw [l3]; exact t6, q3⟩
  obtain ⟨rs', y7, y8, y9, y10, e4, so⟩ := P_ways (s := s3) (p := p) (r := r) (ws := ws) (way := drawV s1 7) (y7 := .un) (y8 := .un) (y9 := .un) (y10 := .un) (rest := sSeq (sSet 6 cutC) (sRet (clsE 3 6))) hw.len8 rfl ro
  obtain ⟨L, s5, e5, g1, g2, nd, g3, h5⟩ := P_cut (s := s3) (p := p) (r := r) (ws := ws) (way := drawV s1 7) (y7 := y7) (y8 := y8) (y9 := y9) (y10 := y10) (R := r.toNat) h3 u1 t1 t2 hw.len1 so
  obtain ⟨ys, e6, co⟩ := cls_ok (ρ := lc s5 p r ws ws.length (drawV s1 7) L y7 y8 y9 y10) (i := 3) (j := 6) (ws := ws) (L := L) rfl rfl hw g1 (Nat.le_trans g2 t3) nd g3
  have fin : B__law_class (lc0 s p r) = .rt (cls ws ys) (lc s5 p r ws ws.length (drawV s1 7) L y7 y8 y9 y10) := by
    rw [B_class_eq, sSeq_ok f1, sSeq_ok f2, sSeq_ok f3, e4, sSeq_ok e5]
    exact sRet_ok e6
  have g : f__law_class [.dr s, .st (.int p), .st (.int r)] = noEx (runDef 17 B__law_class [.dr s, .st (.int p), .st (.int r)]) := rfl
  have st : ([.dr s, .st (.int p), .st (.int r)] : List SV) ++ List.replicate (17 - ([.dr s, .st (.int p), .st (.int r)] : List SV).length) SV.un = lc0 s p r := rfl
  refine ⟨ws, ys, s5, [.st (.int p), .st (.int r), .st (.tup (ws.map .str)), .st (.int ws.length), .st (.int (drawV s1 7)), .st (.lst (L.map tI)), y7, y8, y9, y10, .un, .un, .un, .un, .un, .un], ?_, co, h5.mono bud1⟩
  rw [g]
  exact runDef_rt (n := 17) (B := B__law_class) (by rw [st]; exact fin)
theorem ev_class {b : Nat} {s : DrS} {p r : Int} (h : DrI b s) (hp1 : 1 ≤ p) (hp8 : p ≤ 8) (hr1 : 1 ≤ r) (hr24 : r ≤ 24) (hb : b + KC ≤ BIG) {ρ : Ρ} {X Y : Ev D} (h0 : svAt ρ 0 = .dr s) (hX : X ρ = .ok (.int p) ρ) (hY : Y ρ = .ok (.int r) ρ) :
    ∃ (ws : List Str) (ys : List (List Int)) (s' : DrS), eCall1 0 f__law_class (lCons X (lCons Y lNil)) ρ = .ok (cls ws ys) (ρ.set 0 (.dr s')) ∧ COk ws ys ∧ DrI (b + KC) s' := by
  obtain ⟨ws, ys, s', l, e, co, h'⟩ := P_class h hp1 hp8 hr1 hr24 hb
  exact ⟨ws, ys, s', call1_ok h0 (l2_ok hX hY) h0 e, co, h'⟩
end PU.C
set_option maxHeartbeats 1000000
set_option exponentiation.threshold 5000
namespace PU.C
open PySem PySem.Spec PyProof.Rows L2 PU
/-! ### _law_sh_labels -/
def cubeL : Nat → List (List Int)
  | 0 => [[]]
  | k + 1 => ((cubeL k).map fun r => r ++ [0]) ++ (cubeL k).map fun r => r ++ [1]
theorem cubeL_cb : ∀ k, Cb k (cubeL k)
  | 0 => ⟨by simp [cubeL], fun r hr => by rw [List.mem_singleton.mp hr]; exact ⟨rfl, fun x hx => by cases hx⟩⟩
  | k + 1 => (cubeL_cb k).ext
theorem cubeL_len : ∀ k, (cubeL k).length = 2 ^ k
  | 0 => rfl
  | k + 1 => by rw [cubeL, List.length_append, List.length_map, List.length_map, cubeL_len k, Nat.pow_succ]; omega
theorem cubeL_nd : ∀ k, (cubeL k).Nodup
  | 0 => by simp [cubeL]
  | k + 1 => by
    have ih := cubeL_nd k
    have inj : ∀ (x : Int), ((cubeL k).map fun r => r ++ [x]).Nodup := fun x => by
      unfold List.Nodup
      rw [List.pairwise_map]
      exact ih.imp fun h e => h (List.append_cancel_right e)
    rw [cubeL, List.nodup_append]
    refine ⟨inj 0, inj 1, fun a ha b hb e => ?_⟩
    obtain ⟨u, _, rfl⟩ := List.mem_map.mp ha
    obtain ⟨v, _, rfl⟩ := List.mem_map.mp hb
    have := congrArg List.getLast? e
    simp at this
theorem cubeL_zero : ∀ k, List.replicate k (0 : Int) ∈ cubeL k
  | 0 => List.mem_singleton.mpr rfl
  | k + 1 => List.mem_append_left _ (List.mem_map.mpr ⟨_, cubeL_zero k, by rw [← List.replicate_succ']⟩)
def AscR (L : List (List Int)) : Prop := L.Pairwise fun a b => dlt (tI a) (tI b) = true
theorem asc_of_zip : ∀ {L : List (List Int)}, (∀ p ∈ L.zip L.tail, dlt (tI p.1) (tI p.2) = true) → AscR L
  | [], _ => List.Pairwise.nil
  | [x], _ => List.pairwise_singleton _ _
  | x :: y :: L, h => by
    have ih : AscR (y :: L) := asc_of_zip fun p hp => h p (List.mem_cons_of_mem _ hp)
    refine List.pairwise_cons.mpr ⟨fun z hz => ?_, ih⟩
    have xy : dlt (tI x) (tI y) = true := h (x, y) List.mem_cons_self
    rcases List.mem_cons.mp hz with e | hz
    · rw [e]; exact xy
    · exact (dlt_rows x z).mpr (List.lt_trans ((dlt_rows x y).mp xy) ((dlt_rows y z).mp ((List.pairwise_cons.mp ih).1 z hz)))
theorem AscR.zip {L : List (List Int)} (h : AscR L) : ∀ p ∈ L.zip L.tail, dlt (tI p.1) (tI p.2) = true := pair_zip (R := fun a b => dlt (tI a) (tI b) = true) L h
theorem AscR.nd {L : List (List Int)} (h : AscR L) : L.Nodup := h.imp fun {a b} q e => by
  rw [e] at q
  exact List.lt_irrefl _ ((dlt_rows b b).mp q)
def lb (n : Int) (cb : List (List Int)) (y2 : SV) : Ρ := [.st (.int n), .st (.lst (cb.map tI)), y2, .un]
def lapL : Sv := sSet 1 (eBin dAdd (extE 1 3 0) (extE 1 3 1))
theorem B_labels_eq : B__law_sh_labels = sSeq (sSet 1 (eLst (lCons (eTup lNil) lNil))) (sSeq (sFor (iCall dRng1 (lCons (eV 0) lNil)) (tgN 2) lapL) (sRet (eCB dSorted (lCons (eV 1) lNil)))) := rfl
theorem lapL_ok {n : Int} {m : Nat} {cb : List (List Int)} {y2 : SV} (h : Cb m cb) (hl : cb.length ≤ 400) (hm : m ≤ 8) :
    lapL (lb n cb y2) = .nx (lb n ((cb.map fun r => r ++ [0]) ++ cb.map fun r => r ++ [1]) y2) := by
  have e0 := ext_ok (ρ := lb n cb y2) (i := 1) (k := 3) (x := 0) (cb := cb) (m := 8) rfl rfl (by show 3 < 4; decide) (by omega) (fun r hr => by rw [(h.row r hr).1]; exact hm) (by decide)
  have e1 := ext_ok (ρ := lb n cb y2) (i := 1) (k := 3) (x := 1) (cb := cb) (m := 8) rfl rfl (by show 3 < 4; decide) (by omega) (fun r hr => by rw [(h.row r hr).1]; exact hm) (by decide)
  unfold lapL
  rw [sSet_ok (eBin_ok e0 e1 (by rw [dAdd_lst (by simp; omega), ← List.map_append]))]
  exact rfl
theorem P_labels {n : Nat} (h1 : 1 ≤ n) (h5 : n ≤ 5) : ∃ ys : List (List Int), Vl (f__law_sh_labels [.st (.int n)]) (.lst (ys.map tI)) ∧ ys.Perm (cubeL n) ∧ AscR ys := by
  have p5 : ∀ k, k ≤ 5 → 2 ^ k ≤ 32 := fun k hk => Nat.le_trans (Nat.pow_le_pow_right (by decide) hk) (by decide)
  have f1 : sSet 1 (eLst (lCons (eTup lNil) lNil)) [.st (.int n), .un, .un, .un] = .nx (lb n [[]] .un) := (sSet_ok (eLst_ok (l1_ok (eTup_ok lNil_ok (by simp))) (by simp))).trans rfl
  have hi : iCall dRng1 (lCons (eV 0) lNil) (lb n [[]] .un) = .ok ((List.range n).map fun (i : Nat) => D.int (i : Int)) (lb n [[]] .un) := iRng (eV_ok rfl) (by omega)
  obtain ⟨ρ', e, y2, hρ⟩ := forL_pre (T := tgN 2) (B := lapL) (fun (i : Nat) => D.int (i : Int)) (fun done ρ => ∃ y2, ρ = lb n (cubeL done.length) y2) (List.range n) (fun done x rest ρ e ⟨y2, hρ⟩ => by
    have hd : done.length < n := by
      have := congrArg List.length e
      simp at this
      omega
    refine ⟨lb n (cubeL done.length) (.st (.int x)), _, congrArg some (by rw [hρ]; exact rfl), lapL_ok (cubeL_cb _) (by rw [cubeL_len]; have := p5 done.length (by omega); omega) (by omega), .st (.int x), ?_⟩
    rw [List.length_append]
    exact rfl) (List.range n) [] (lb n [[]] .un) rfl ⟨.un, rfl⟩
  rw [List.length_range] at hρ
  obtain ⟨ys, es, pm, asc⟩ := srt_rows (cubeL n)
  have so : dSorted [.lst ((cubeL n).map tI)] = some (.lst (ys.map tI)) := by
    show (if srtOk ((cubeL n).map tI) = true then some (D.lst (srt ((cubeL n).map tI))) else none) = _
    rw [if_pos (srtOk_rows (by rw [cubeL_len]; have := p5 n h5; omega) fun x hx z => by
      have := ((cubeL_cb n).row x hx).1
      rw [z] at this
      simp at this
      omega), es]
  refine ⟨ys, ⟨lb n (cubeL n) y2, ?_⟩, pm, asc_of_zip (asc (cubeL_nd n))⟩
  have q : sFor (iCall dRng1 (lCons (eV 0) lNil)) (tgN 2) lapL (lb n [[]] .un) = .nx ρ' := (sFor_ok hi).trans e
  have fin : B__law_sh_labels [.st (.int n), .un, .un, .un] = .rt (.lst (ys.map tI)) (lb n (cubeL n) y2) := by
    rw [B_labels_eq, sSeq_ok f1, sSeq_ok q, hρ]
    exact sRet_ok (eCB_ok (l1_ok (eV_ok rfl)) so)
  have g : f__law_sh_labels [.st (.int n)] = noEx (runDef 4 B__law_sh_labels [.st (.int n)]) := rfl
  rw [g]
  exact runDef_rt (n := 4) (B := B__law_sh_labels) fin
end PU.C
set_option maxHeartbeats 1000000
set_option exponentiation.threshold 5000
namespace PU.C
open PySem PySem.Spec PyProof.Rows L2 PU
/-! ### a dict whose keys are rows -/
def kvR (r : List Int) : D × D := (tI r, .bl true)
def addR (rows : List (List Int)) (r : List Int) : List (List Int) := if r ∈ rows then rows else rows ++ [r]
theorem keys_ints : ∀ r : List Int, keysOf (r.map D.int) = some (r.map Sum.inl)
  | [] => rfl
  | x :: r => by simp only [List.map_cons, keysOf, keys_ints r]; rfl
theorem tk_tI (r : List Int) : tkOf (tI r) = some (r.map Sum.inl) := keys_ints r
theorem inl_inj : ∀ {a b : List Int}, (a.map (Sum.inl : Int → Key)) = b.map Sum.inl → a = b
  | [], [], _ => rfl
  | x :: a, y :: b, h => by
    simp only [List.map_cons, List.cons.injEq, Sum.inl.injEq] at h
    rw [h.1, inl_inj h.2]
  | [], _ :: _, h => by simp at h
  | _ :: _, [], h => by simp at h
theorem tkD_inl (r : List Int) : tkD (r.map Sum.inl) = tI r := by
  unfold tkD tI
  rw [List.map_map]
  exact rfl
theorem put_rows (rows : List (List Int)) (r : List Int) : putD (rows.map kvR) (r.map Sum.inl) (.bl true) = (addR rows r).map kvR := by
  have hh : hasD (rows.map kvR) (r.map Sum.inl) = decide (r ∈ rows) := by
    unfold hasD
    rw [List.any_map]
    by_cases h : r ∈ rows
    · rw [decide_eq_true h, List.any_eq_true]
      exact ⟨r, h, by simp [kvR, tk_tI]⟩
    · rw [decide_eq_false h, List.any_eq_false]
      intro x hx
      simp only [Function.comp, kvR, tk_tI, decide_eq_true_eq, Option.some.injEq]
      intro e
      exact h (inl_inj e ▸ hx)
  unfold putD addR
  by_cases h : r ∈ rows
  · rw [hh, decide_eq_true h, if_pos rfl, if_pos h, List.map_map]
    refine List.map_congr_left fun x _ => ?_
    simp only [Function.comp]
    split <;> rfl
  · rw [hh, decide_eq_false h, if_neg (by simp), if_neg h, List.map_append, tkD_inl]
    exact rfl
theorem addR_nd {rows : List (List Int)} {r : List Int} (h : rows.Nodup) : (addR rows r).Nodup := by
  unfold addR
  split
  · exact h
  · rename_i hn
    refine List.nodup_append.mpr ⟨h, by simp, fun a ha b hb e => hn ?_⟩
    rw [← List.mem_singleton.mp hb, ← e]
    exact ha
theorem addR_len (rows : List (List Int)) (r : List Int) : rows.length ≤ (addR rows r).length ∧ (addR rows r).length ≤ rows.length + 1 := by
  unfold addR
  split
  · omega
  · rw [List.length_append, List.length_singleton]; omega
theorem mem_addR {rows : List (List Int)} {r x : List Int} (h : x ∈ addR rows r) : x ∈ rows ∨ x = r := by
  unfold addR at h
  split at h
  · exact .inl h
  · rcases List.mem_append.mp h with h | h
    · exact .inl h
    · exact .inr (List.mem_singleton.mp h)
/-- rows of noughts and ones, all unlike -/
structure NdR (n : Nat) (rows : List (List Int)) : Prop where
  l1 : 1 ≤ rows.length
  nd : rows.Nodup
  row : ∀ r ∈ rows, r.length = n ∧ ∀ x ∈ r, x = 0 ∨ x = 1
theorem NdR.add {n : Nat} {rows : List (List Int)} {r : List Int} (h : NdR n rows) (hr : r.length = n ∧ ∀ x ∈ r, x = 0 ∨ x = 1) : NdR n (addR rows r) where
  l1 := Nat.le_trans h.l1 (addR_len rows r).1
  nd := addR_nd h.nd
  row := fun x hx => by
    rcases mem_addR hx with z | z
    · exact h.row x z
    · rw [z]; exact hr
theorem dput_ok {ρ : Ρ} {i k : Nat} {rows : List (List Int)} {r : List Int} (hi : svAt ρ i = .od (rows.map kvR)) (hk : svAt ρ k = .st (tI r)) (hl : rows.length ≤ 900) : sDPutO i (eV k) (eK (.bl true)) ρ = .nx (ρ.set i (.od ((addR rows r).map kvR))) := by
  have z : (rows.map kvR).length < sizeLine := by
    rw [List.length_map]
    exact Nat.lt_of_lt_of_le (by omega : rows.length < 1000) (by decide)
  have ek : eV k ρ = .ok (tI r) ρ := eV_ok hk
  simp only [sDPutO, hi, eK, ofE, ek, tk_tI, z, if_true, put_rows]
end PU.C
set_option maxHeartbeats 1000000
set_option exponentiation.threshold 5000
namespace PU.C
open PySem PySem.Spec PyProof.Rows L2 PU
/-! ### _law_sh_closed: one lap -/
def cl (s : DrS) (p m : Int) (ws : List Str) (n : Nat) (rows : List (List Int)) (y6 y7 y8 y9 y10 : SV) : Ρ :=
  [.dr s, .st (.int p), .st (.int m), .st (.tup (ws.map .str)), .st (.int n), .od (rows.map kvR), y6, y7, y8, y9, y10, .un, .un, .un, .un]
def clB (s : DrS) (p m : Int) (ws : List Str) (n : Nat) (rows : List (List Int)) (y6 y7 : SV) (cb : List (List Int)) (y9 y10 : SV) : Ρ := cl s p m ws n rows y6 y7 (.st (.lst (cb.map tI))) y9 y10
variable {s : DrS} {p m : Int} {ws : List Str} {n : Nat} {rows : List (List Int)} {y6 y7 y8 y9 y10 : SV}
noncomputable def topE : Ev D := eFz (nLc (iAny (eV 3)) (tgN 13) tYesF (eCall1 0 f__law_draw (lCons (eK (.int 2)) lNil)) [13])
def lapT : Sv := sSet 8 (eBin dAdd (extE 8 10 0) (eIf (tV (eBin dEq (eV 9) (eK (.int 1)))) (extE 8 10 1) (eLst lNil)))
noncomputable def lapC : Sv := (sSeq (sPar 7 8 (lCons topE (lCons (eLst (lCons (eTup lNil) lNil)) lNil)))
  (sSeq (sFor (iAny (eV 7)) (tgN 9) lapT)
  (sIf (tV (eBin dLe (eBin dAdd (eCB dLen (lCons (eV 8) lNil)) (eODLen 5)) (eV 2)))
  (sFor (iAny (eV 8)) (tgN 10) (sDPutO 5 (eV 10) (eK (.bl true))))
  sNop)))
theorem top_ok {b : Nat} (h : DrI b s) (hb : b + 20 ≤ BIG) (hw : ws.length ≤ 8) {ρ : Ρ} (h0 : svAt ρ 0 = .dr s) (h3 : svAt ρ 3 = .st (.tup (ws.map .str))) (h13 : (svAt ρ 13).own = false) (hl : 0 < ρ.length) :
    ∃ (ts : List Int) (s' : DrS), topE ρ = .ok (.lst (ts.map .int)) (ρ.set 0 (.dr s')) ∧ ts.length = ws.length ∧ (∀ x ∈ ts, x = 0 ∨ x = 1) ∧ DrI (b + 8) s' := by
  have dc := drawComp (room := 2) (k := 13) (I := iAny (eV 3)) (ds := ws.map .str) (ρ := ρ) (ρ1 := ρ) h (by rw [List.length_map]; omega) (by rw [List.length_map]; omega) (by decide) (by decide) (iAny_tup (eV_ok h3)) h0 h13 (by decide) hl
  rw [List.length_map] at dc
  refine ⟨drs 2 ws.length s, _, eFz_ok dc.1, drs_len 2 _ _, fun x hx => ?_, dc.2.mono (by omega)⟩
  have := drs_bd (room := 2) (by decide) _ _ x hx
  omega
theorem lapT_ok {k : Nat} {cb : List (List Int)} {x : Int} (h : Cb k cb) (hk : k ≤ 8) (hl : cb.length ≤ 400) (h10 : y10.own = false) :
    ∃ cb', lapT (clB s p m ws n rows y6 y7 cb (.st (.int x)) y10) = .nx (clB s p m ws n rows y6 y7 cb' (.st (.int x)) y10) ∧ Cb (k + 1) cb' ∧ cb'.length ≤ 2 * cb.length := by
  have e0 := ext_ok (ρ := clB s p m ws n rows y6 y7 cb (.st (.int x)) y10) (i := 8) (k := 10) (x := 0) (cb := cb) (m := 8) rfl h10 (by show 10 < 15; decide) (by omega) (fun r hr => by rw [(h.row r hr).1]; exact hk) (by decide)
  have e1 := ext_ok (ρ := clB s p m ws n rows y6 y7 cb (.st (.int x)) y10) (i := 8) (k := 10) (x := 1) (cb := cb) (m := 8) rfl h10 (by show 10 < 15; decide) (by omega) (fun r hr => by rw [(h.row r hr).1]; exact hk) (by decide)
  have t : tV (eBin dEq (eV 9) (eK (.int 1))) (clB s p m ws n rows y6 y7 cb (.st (.int x)) y10) = .ok (decide (x = 1)) (clB s p m ws n rows y6 y7 cb (.st (.int x)) y10) := tV_ok (eBin_ok (eV_ok rfl) eK_ok (dEq_int x 1))
  have full := h.ext
  by_cases hx : x = 1
  · rw [decide_eq_true hx] at t
    refine ⟨(cb.map fun r => r ++ [0]) ++ cb.map fun r => r ++ [1], ?_, full, by simp; omega⟩
    unfold lapT
    rw [sSet_ok (eBin_ok e0 ((eIf_t t).trans e1) (by rw [dAdd_lst (by simp; omega), ← List.map_append]))]
    exact rfl
  · rw [decide_eq_false hx] at t
    refine ⟨cb.map fun r => r ++ [0], ?_, ⟨by rw [List.length_map]; exact h.l1, fun r hr => full.row r (List.mem_append_left _ hr)⟩, by simp; omega⟩
    unfold lapT
    rw [sSet_ok (eBin_ok e0 ((eIf_f t).trans (eLst_ok lNil_ok (by simp))) (by rw [dAdd_lst (by simp; omega), List.append_nil]))]
    exact rfl
theorem tops_ok (ts : List Int) (hl : ts.length ≤ 8) (h10 : y10.own = false) (h9 : y9.own = false) :
    ∃ cb y9', sFor (iAny (eV 7)) (tgN 9) lapT (clB s p m ws n rows y6 (.st (.lst (ts.map .int))) [[]] y9 y10) = .nx (clB s p m ws n rows y6 (.st (.lst (ts.map .int))) cb y9' y10) ∧ Cb ts.length cb ∧ cb.length ≤ 256 ∧ y9'.own = false := by
  have hi : iAny (eV 7) (clB s p m ws n rows y6 (.st (.lst (ts.map .int))) [[]] y9 y10) = .ok (ts.map .int) (clB s p m ws n rows y6 (.st (.lst (ts.map .int))) [[]] y9 y10) := iAny_lst (eV_ok rfl)
  have p8 : ∀ k, k ≤ 8 → 2 ^ k ≤ 256 := fun k hk => Nat.le_trans (Nat.pow_le_pow_right (by decide) hk) (by decide)
  obtain ⟨ρ', e, cb, y9', hρ, hcb, hcl, h9'⟩ := forL_pre (T := tgN 9) (B := lapT) (D.int) (fun done ρ => ∃ cb y9', ρ = clB s p m ws n rows y6 (.st (.lst (ts.map .int))) cb y9' y10 ∧ Cb done.length cb ∧ cb.length ≤ 2 ^ done.length ∧ y9'.own = false) ts (fun done x rest ρ e ⟨cb, y9', hρ, hcb, hcl, _⟩ => by
    have hd : done.length < 8 := by
      have := congrArg List.length e
      simp at this
      omega
    obtain ⟨cb', e', hcb', hcl'⟩ := lapT_ok (s := s) (p := p) (m := m) (ws := ws) (n := n) (rows := rows) (y6 := y6) (y7 := .st (.lst (ts.map .int))) (y10 := y10) (x := x) hcb (by omega) (by have := p8 done.length (by omega); omega) h10
    refine ⟨clB s p m ws n rows y6 (.st (.lst (ts.map .int))) cb (.st (.int x)) y10, _, congrArg some (by rw [hρ]; exact rfl), e', cb', .st (.int x), rfl, by rw [List.length_append]; exact hcb', ?_, rfl⟩
    rw [List.length_append, List.length_singleton, Nat.pow_succ]
    omega) ts [] (clB s p m ws n rows y6 (.st (.lst (ts.map .int))) [[]] y9 y10) rfl ⟨[[]], y9, rfl, ⟨by simp, fun r hr => by rw [List.mem_singleton.mp hr]; exact ⟨rfl, fun x hx => by cases hx⟩⟩, Nat.le_refl _, h9⟩
  exact ⟨cb, y9', (sFor_ok hi).trans (e.trans (congrArg SRes.nx hρ)), hcb, Nat.le_trans hcl (p8 _ hl), h9'⟩
theorem puts_ok {k : Nat} (cb : List (List Int)) (hcb : Cb k cb) (hk : NdR k rows) (hl : rows.length + cb.length ≤ 900) :
    ∃ rows' y10', sFor (iAny (eV 8)) (tgN 10) (sDPutO 5 (eV 10) (eK (.bl true))) (clB s p m ws n rows y6 y7 cb y9 y10) = .nx (clB s p m ws n rows' y6 y7 cb y9 y10') ∧ NdR k rows' ∧ rows'.length ≤ rows.length + cb.length ∧ (y10' = y10 ∨ ∃ d, y10' = .st d) := by
  have hi : iAny (eV 8) (clB s p m ws n rows y6 y7 cb y9 y10) = .ok (cb.map tI) (clB s p m ws n rows y6 y7 cb y9 y10) := iAny_lst (eV_ok rfl)
  obtain ⟨ρ', e, rows', y10', hρ, h1, h2, h3⟩ := forL_pre (T := tgN 10) (B := sDPutO 5 (eV 10) (eK (.bl true))) tI (fun done ρ => ∃ rows' y10', ρ = clB s p m ws n rows' y6 y7 cb y9 y10' ∧ NdR k rows' ∧ rows'.length ≤ rows.length + done.length ∧ (y10' = y10 ∨ ∃ d, y10' = .st d)) cb (fun done x rest ρ e ⟨rows', y10', hρ, h1, h2, _⟩ => by
    have hd : done.length < cb.length := by
      have := congrArg List.length e
      simp at this
      omega
    have hx : x ∈ cb := by rw [← e]; simp
    refine ⟨clB s p m ws n rows' y6 y7 cb y9 (.st (tI x)), _, congrArg some (by rw [hρ]; exact rfl), (dput_ok (rows := rows') (r := x) rfl rfl (by omega)).trans rfl, addR rows' x, .st (tI x), rfl, h1.add (hcb.row x hx), ?_, .inr ⟨_, rfl⟩⟩
    rw [List.length_append, List.length_singleton]
    have := (addR_len rows' x).2
    omega) cb [] (clB s p m ws n rows y6 y7 cb y9 y10) rfl ⟨rows, y10, rfl, hk, by simp, .inl rfl⟩
  exact ⟨rows', y10', (sFor_ok hi).trans (e.trans (congrArg SRes.nx hρ)), h1, h2, h3⟩
theorem lapC_ok {b M : Nat} (h : DrI b s) (hb : b + 20 ≤ BIG) (hw : ws.length ≤ 8) (hn : n = ws.length) (hm : m = (M : Int)) (hM : M ≤ 24) (hk : NdR n rows) (hl : rows.length ≤ M) (h10 : y10.own = false) (h9 : y9.own = false) :
    ∃ s' rows' y7' y8' y9' y10', lapC (cl s p m ws n rows y6 y7 y8 y9 y10) = .nx (cl s' p m ws n rows' y6 y7' y8' y9' y10') ∧ NdR n rows' ∧ rows'.length ≤ M ∧ y10'.own = false ∧ y9'.own = false ∧ DrI (b + 8) s' := by
  obtain ⟨ts, s', e1, l1, q1, h1⟩ := top_ok h hb hw (ρ := cl s p m ws n rows y6 y7 y8 y9 y10) rfl rfl rfl (by show 0 < 15; decide)
  have f1 : sPar 7 8 (lCons topE (lCons (eLst (lCons (eTup lNil) lNil)) lNil)) (cl s p m ws n rows y6 y7 y8 y9 y10) = .nx (clB s' p m ws n rows y6 (.st (.lst (ts.map .int))) [[]] y9 y10) := by
    have z := l2_ok e1 (eLst_ok (l1_ok (eTup_ok (ρ := (cl s p m ws n rows y6 y7 y8 y9 y10).set 0 (.dr s')) lNil_ok (by simp))) (by simp))
    unfold sPar
    rw [z]
    exact rfl
  obtain ⟨cb, y9', e2, hcb, hcl, h9'⟩ := tops_ok (s := s') (p := p) (m := m) (ws := ws) (n := n) (rows := rows) (y6 := y6) (y9 := y9) (y10 := y10) ts (by omega) h10 h9
  have hcb' : Cb n cb := by rw [hn, ← l1]; exact hcb
  have dl : dLen [.lst (cb.map tI)] = some (.int (cb.length : Int)) := by
    show some (D.int ((cb.map tI).length : Int)) = _
    rw [List.length_map]
  have ol : eODLen 5 (clB s' p m ws n rows y6 (.st (.lst (ts.map .int))) cb y9' y10) = .ok (.int (rows.length : Int)) (clB s' p m ws n rows y6 (.st (.lst (ts.map .int))) cb y9' y10) := by
    show Res.ok (D.int ((rows.map kvR).length : Int)) _ = _
    rw [List.length_map]
  have a : dAdd (.int (cb.length : Int)) (.int (rows.length : Int)) = some (.int ((cb.length + rows.length : Nat) : Int)) := rfl
  have le : dLe (.int ((cb.length + rows.length : Nat) : Int)) (.int m) = some (.bl (decide (cb.length + rows.length ≤ M))) := by
    show some (D.bl (decide (((cb.length + rows.length : Nat) : Int) ≤ m))) = _
    rw [hm]
    congr 2
    exact decide_eq_decide.mpr (by omega)
  have t := tV_ok (eBin_ok (eBin_ok (eCB_ok (l1_ok (eV_ok (ρ := clB s' p m ws n rows y6 (.st (.lst (ts.map .int))) cb y9' y10) (i := 8) rfl)) dl) ol a) (eV_ok (i := 2) (d := .int m) rfl) le)
  by_cases hc : cb.length + rows.length ≤ M
  · rw [decide_eq_true hc] at t
    obtain ⟨rows', y10', e3, g1, g2, g3⟩ := puts_ok (s := s') (p := p) (m := m) (ws := ws) (n := n) (rows := rows) (y6 := y6) (y7 := .st (.lst (ts.map .int))) (y9 := y9') (y10 := y10) cb hcb' hk (by omega)
    refine ⟨s', rows', .st (.lst (ts.map .int)), .st (.lst (cb.map tI)), y9', y10', ?_, g1, by omega, ?_, h9', h1⟩
    · unfold lapC
      rw [sSeq_ok f1, sSeq_ok e2, sIf_t t, e3]
      exact rfl
    · rcases g3 with z | ⟨d, z⟩
      · rw [z]; exact h10
      · rw [z]; exact rfl
  · rw [decide_eq_false hc] at t
    refine ⟨s', rows, .st (.lst (ts.map .int)), .st (.lst (cb.map tI)), y9', y10, ?_, hk, hl, h10, h9', h1⟩
    unfold lapC
    rw [sSeq_ok f1, sSeq_ok e2, sIf_f t]
    exact rfl
end PU.C
set_option maxHeartbeats 1000000
set_option exponentiation.threshold 5000
namespace PU.C
open PySem PySem.Spec PyProof.Rows L2 PU
variable {s : DrS} {p m : Int} {ws : List Str} {n : Nat} {rows : List (List Int)} {y6 y7 y8 y9 y10 : SV}
/-! ### _law_sh_closed: the rows turned -/
def flipR (tn r : List Int) : List Int := (r.zip tn).map fun q => if q.2 = 0 then q.1 else 1 - q.1
def c2 (s : DrS) (p m : Int) (ws : List Str) (n : Nat) (d5 : SV) (y6 y7 y8 y9 y10 : SV) (tn : List Int) : Ρ :=
  [.dr s, .st (.int p), .st (.int m), .st (.tup (ws.map .str)), .st (.int n), d5, y6, y7, y8, y9, y10, .st (.lst (tn.map .int)), .un, .un, .un]
def flipE : Ev D := eCB dTuple (lCons (eFz (nLc (iCall dZip (lCons (eV 10) (lCons (eV 11) lNil))) (tgT [9, 14]) tYesF (eIf (tV (eBin dEq (eV 14) (eK (.int 0)))) (eV 9) (eBin dSub (eK (.int 1)) (eV 9))) [9, 14])) lNil)
theorem zip_ints (r t : List Int) : dZip [tI r, .lst (t.map .int)] = some ((r.zip t).map fun q => D.tup [.int q.1, .int q.2]) := by
  show some (zipD (r.map .int) (t.map .int)) = _
  unfold zipD
  rw [List.zip_map, List.map_map]
  exact rfl
theorem flipE_ok {d5 : SV} {tn r : List Int} (h9 : y9.own = false) (hr : r.length ≤ 900) : flipE (c2 s p m ws n d5 y6 y7 y8 y9 (.st (tI r)) tn) = .ok (tI (flipR tn r)) (c2 s p m ws n d5 y6 y7 y8 y9 (.st (tI r)) tn) := by
  have c := nLc_map (I := iCall dZip (lCons (eV 10) (lCons (eV 11) lNil))) (T := tgT [9, 14]) (tt := tYesF) (te := eIf (tV (eBin dEq (eV 14) (eK (.int 0)))) (eV 9) (eBin dSub (eK (.int 1)) (eV 9))) (vs := [9, 14])
    (ρ := c2 s p m ws n d5 y6 y7 y8 y9 (.st (tI r)) tn) (ρ1 := c2 s p m ws n d5 y6 y7 y8 y9 (.st (tI r)) tn) (r.zip tn) (fun q => D.tup [.int q.1, .int q.2]) (fun q => D.int (if q.2 = 0 then q.1 else 1 - q.1)) (iCall_ok (l2_ok (eV_ok rfl) (eV_ok rfl)) (zip_ints r tn)) (by show (!y9.own && (!SV.un.own && true)) = true; rw [h9]; rfl) (fun q _ => by
      have t : tV (eBin dEq (eV 14) (eK (.int 0))) [.dr s, .st (.int p), .st (.int m), .st (.tup (ws.map .str)), .st (.int n), d5, y6, y7, y8, .st (.int q.1), .st (tI r), .st (.lst (tn.map .int)), .un, .un, .st (.int q.2)] = .ok (decide (q.2 = 0)) [.dr s, .st (.int p), .st (.int m), .st (.tup (ws.map .str)), .st (.int n), d5, y6, y7, y8, .st (.int q.1), .st (tI r), .st (.lst (tn.map .int)), .un, .un, .st (.int q.2)] := tV_ok (eBin_ok (eV_ok rfl) eK_ok (dEq_int q.2 0))
      have g : tgT [9, 14] (D.tup [.int q.1, .int q.2]) (wipeP (c2 s p m ws n d5 y6 y7 y8 y9 (.st (tI r)) tn) [9, 14]) = some [.dr s, .st (.int p), .st (.int m), .st (.tup (ws.map .str)), .st (.int n), d5, y6, y7, y8, .st (.int q.1), .st (tI r), .st (.lst (tn.map .int)), .un, .un, .st (.int q.2)] := rfl
      have e : eIf (tV (eBin dEq (eV 14) (eK (.int 0)))) (eV 9) (eBin dSub (eK (.int 1)) (eV 9)) [.dr s, .st (.int p), .st (.int m), .st (.tup (ws.map .str)), .st (.int n), d5, y6, y7, y8, .st (.int q.1), .st (tI r), .st (.lst (tn.map .int)), .un, .un, .st (.int q.2)] = .ok (.int (if q.2 = 0 then q.1 else 1 - q.1)) [.dr s, .st (.int p), .st (.int m), .st (.tup (ws.map .str)), .st (.int n), d5, y6, y7, y8, .st (.int q.1), .st (tI r), .st (.lst (tn.map .int)), .un, .un, .st (.int q.2)] := by
        by_cases h : q.2 = 0
        · rw [decide_eq_true h] at t
          rw [eIf_t t, if_pos h]
          exact eV_ok rfl
        · rw [decide_eq_false h] at t
          rw [eIf_f t, if_neg h]
          exact eBin_ok eK_ok (eV_ok rfl) rfl
      simp only [lcStep, g, tYesF, noEx, Res.bind, if_true, e]
      exact rfl) (small (by rw [List.length_zip]; omega))
  unfold flipE
  rw [eCB_ok (l1_ok (eFz_ok c)) (show dTuple [.lst ((r.zip tn).map fun q => D.int (if q.2 = 0 then q.1 else 1 - q.1))] = some (tI (flipR tn r)) by
    show some (D.tup _) = _
    unfold tI flipR
    rw [List.map_map]
    exact rfl)]
theorem flip_len {tn r : List Int} (h : tn.length = r.length) : (flipR tn r).length = r.length := by
  unfold flipR
  rw [List.length_map, List.length_zip, h, Nat.min_self]
theorem flip_01 {tn r : List Int} (h : ∀ x ∈ r, x = 0 ∨ x = 1) : ∀ x ∈ flipR tn r, x = 0 ∨ x = 1 := fun x hx => by
  obtain ⟨q, hq, rfl⟩ := List.mem_map.mp hx
  have := h q.1 (List.of_mem_zip hq).1
  split <;> omega
theorem flip_inj : ∀ {tn a b : List Int}, a.length = tn.length → b.length = tn.length → flipR tn a = flipR tn b → a = b
  | [], [], [], _, _, _ => rfl
  | t :: tn, x :: a, y :: b, h1, h2, h => by
    have h' : (if t = 0 then x else 1 - x) = (if t = 0 then y else 1 - y) ∧ flipR tn a = flipR tn b := by
      unfold flipR at h ⊢
      simp only [List.zip_cons_cons, List.map_cons, List.cons.injEq] at h
      exact h
    have e : x = y := by
      have := h'.1
      split at this <;> omega
    rw [e, flip_inj (by simpa using h1) (by simpa using h2) h'.2]
  | [], _ :: _, _, h, _, _ => by simp at h
  | [], [], _ :: _, _, h, _ => by simp at h
  | _ :: _, [], _, h, _, _ => by simp at h
  | _ :: _, _ :: _, [], _, h, _ => by simp at h
theorem flips_ok {tn : List Int} (h9 : y9.own = false) (h10 : y10.own = false) (hr : ∀ r ∈ rows, r.length ≤ 900) (hl : rows.length ≤ 900) :
    eFz (nLc (iAny (eTakeD 5)) (tgN 10) tYesF flipE [10]) (c2 s p m ws n (.od (rows.map kvR)) y6 y7 y8 y9 y10 tn) = .ok (.lst ((rows.map (flipR tn)).map tI)) (c2 s p m ws n (.st (.dct (rows.map kvR))) y6 y7 y8 y9 y10 tn) := by
  have it : iAny (eTakeD 5) (c2 s p m ws n (.od (rows.map kvR)) y6 y7 y8 y9 y10 tn) = .ok (rows.map tI) (c2 s p m ws n (.st (.dct (rows.map kvR))) y6 y7 y8 y9 y10 tn) := by
    have e : eTakeD 5 (c2 s p m ws n (.od (rows.map kvR)) y6 y7 y8 y9 y10 tn) = .ok (.dct (rows.map kvR)) (c2 s p m ws n (.st (.dct (rows.map kvR))) y6 y7 y8 y9 y10 tn) := rfl
    unfold iAny
    rw [e]
    show lift (some ((rows.map kvR).map (·.1))) _ = _
    rw [List.map_map]
    exact rfl
  have c := itmComp (ρ := c2 s p m ws n (.od (rows.map kvR)) y6 y7 y8 y9 y10 tn) (ρ1 := c2 s p m ws n (.st (.dct (rows.map kvR))) y6 y7 y8 y9 y10 tn) (I := iAny (eTakeD 5)) (te := flipE) (k := 10) rows tI (fun r => tI (flipR tn r)) it (by omega) h10 fun r hx =>
    flipE_ok (s := s) (p := p) (m := m) (ws := ws) (n := n) (d5 := .st (.dct (rows.map kvR))) (y6 := y6) (y7 := y7) (y8 := y8) (y9 := y9) (tn := tn) h9 (hr r hx)
  rw [eFz_ok c, List.map_map]
  exact rfl
end PU.C
set_option maxHeartbeats 1000000
set_option exponentiation.threshold 5000
namespace PU.C
open PySem PySem.Spec PyProof.Rows L2 PU
noncomputable def turnE : Ev D := eIf (tV (eBin dEq (eCall1 0 f__law_draw (lCons (eK (.int 2)) lNil)) (eK (.int 0)))) topE (eBin dMulW (eLst (lCons (eK (.int 0)) lNil)) (eV 4))
theorem B_closed_eq : B__law_sh_closed = sSeq (sSet 3 (wordsE (eV 1))) (sSeq (sParSD 4 5 (eCB dLen (lCons (eV 3) lNil))) (sSeq (sDPutO 5 (eBin dMulW (eTup (lCons (eK (.int 0)) lNil)) (eV 4)) (eK (.bl true))) (sSeq (sFor (iCall dRng1 (lCons (eBin dAdd (eK (.int 1)) (eCall1 0 f__law_draw (lCons (eK (.int 4)) lNil))) lNil)) (tgN 6) lapC)
  (sSeq (sSet 11 turnE) (sSeq (sSet 12 (eFz (nLc (iAny (eTakeD 5)) (tgN 10) tYesF flipE [10]))) (sRet (clsE 3 12))))))) := rfl
theorem mul_tup (n : Nat) (h : n ≤ 1000) : dMulW (.tup [.int 0]) (.int (n : Int)) = some (tI (List.replicate n 0)) := by
  show (if [D.int 0] ≠ [] ∧ (-1000 : Int) ≤ (n : Int) ∧ (n : Int) ≤ 1000 ∧ [D.int 0].length ≤ 1000 then _ else _) = _
  rw [if_pos ⟨by simp, by omega, by omega, by simp⟩, Int.toNat_natCast, flat_rep]
  exact rfl
theorem mul_lst (n : Nat) (h : n ≤ 1000) : dMulW (.lst [.int 0]) (.int (n : Int)) = some (.lst ((List.replicate n (0 : Int)).map .int)) := by
  have z : [D.int 0].length * ((n : Int)).toNat ≤ sizeLine := by
    rw [Int.toNat_natCast]
    exact small (by simp; omega)
  unfold dMulW
  dsimp only
  rw [if_pos ⟨by omega, by omega, z⟩, Int.toNat_natCast, flat_rep]
theorem dput_E {ρ : Ρ} {i : Nat} {f : Ev D} {rows : List (List Int)} {r : List Int} (hi : svAt ρ i = .od (rows.map kvR)) (ek : f ρ = .ok (tI r) ρ) (hl : rows.length ≤ 900) : sDPutO i f (eK (.bl true)) ρ = .nx (ρ.set i (.od ((addR rows r).map kvR))) := by
  have z : (rows.map kvR).length < sizeLine := by
    rw [List.length_map]
    exact Nat.lt_of_lt_of_le (by omega : rows.length < 1000) (by decide)
  simp only [sDPutO, hi, eK, ofE, ek, tk_tI, z, if_true, put_rows]
def c0 (s : DrS) (p m : Int) : Ρ := [.dr s, .st (.int p), .st (.int m), .un, .un, .un, .un, .un, .un, .un, .un, .un, .un, .un, .un]
def c1 (s : DrS) (p m : Int) (ws : List Str) : Ρ := [.dr s, .st (.int p), .st (.int m), .st (.tup (ws.map .str)), .un, .un, .un, .un, .un, .un, .un, .un, .un, .un, .un]
theorem turn_ok {b : Nat} {s : DrS} {p m : Int} {ws : List Str} {rows : List (List Int)} {y6 y7 y8 y9 y10 : SV} (h : DrI b s) (hb : b + 40 ≤ BIG) (hw : ws.length ≤ 8) :
    ∃ (ts : List Int) (s' : DrS), turnE (cl s p m ws ws.length rows y6 y7 y8 y9 y10) = .ok (.lst (ts.map .int)) (cl s' p m ws ws.length rows y6 y7 y8 y9 y10) ∧ ts.length = ws.length ∧ DrI (b + 9) s' := by
  have d := ev_draw h (by omega) (ρ := cl s p m ws ws.length rows y6 y7 y8 y9 y10) (i := 0) (X := eK (.int 2)) (room := 2) rfl eK_ok (by decide) (by decide)
  have t := tV_ok (eBin_ok d eK_ok (dEq_int (drawV s 2) 0))
  have h1 := h.draw (room := 2) (by decide)
  by_cases hz : drawV s 2 = 0
  · rw [decide_eq_true hz] at t
    obtain ⟨ts, s', e1, l1, _, h2⟩ := top_ok h1 (by omega) hw (ρ := (cl s p m ws ws.length rows y6 y7 y8 y9 y10).set 0 (.dr (drawS s 2))) rfl rfl rfl (by show 0 < 15; decide)
    refine ⟨ts, s', ?_, l1, h2.mono (by omega)⟩
    unfold turnE
    rw [eIf_t t, e1]
    exact rfl
  · rw [decide_eq_false hz] at t
    refine ⟨List.replicate ws.length 0, drawS s 2, ?_, List.length_replicate, h1.mono (by omega)⟩
    unfold turnE
    rw [eIf_f t]
    exact eBin_ok (eLst_ok (l1_ok eK_ok) (by simp)) (eV_ok rfl) (mul_lst _ (by omega))
theorem budC {b m B : Nat} (h : b + (8 * m + 800) ≤ B) : b + 8 * m + 1 + 1 + 64 + 40 ≤ B ∧ b + 8 * m + 1 + 1 ≤ B ∧ b + 8 * m + 1 ≤ B ∧ b + 8 * m + 40 ≤ B ∧ (∀ k, k ≤ 4 → b + 8 * m + 1 + 1 + 8 * k + 20 ≤ B) ∧ b + 8 * m + 1 + 1 + 8 * 4 + 40 ≤ B := ⟨by omega, by omega, by omega, by omega, fun k hk => by omega, by omega⟩
theorem budD {b m k : Nat} (hk : k ≤ 4) : b + 8 * m + 1 + 1 + 8 * k + 9 ≤ b + (8 * m + 800) := by omega
theorem P_closed {b : Nat} {s : DrS} {p m : Int} (h : DrI b s) (hp1 : 1 ≤ p) (hp8 : p ≤ 8) (hm1 : 1 ≤ m) (hm24 : m ≤ 24) (hb : b + KC ≤ BIG) :
    ∃ (ws : List Str) (ys : List (List Int)) (s' : DrS) (l : List SV), f__law_sh_closed [.dr s, .st (.int p), .st (.int m)] = .ok (cls ws ys) (.dr s' :: l) ∧ COk ws ys ∧ DrI (b + KC) s' := by
  unfold KC at hb ⊢
  have t1 : m = (m.toNat : Int) := by omega
  have t2 : 1 ≤ m.toNat := by omega
  have t3 : m.toNat ≤ 24 := by omega
  obtain ⟨u1, u2, u3, u4, u5, u6⟩ := budC hb
  clear hb
  obtain ⟨ws, s1, e1, hw, h1⟩ := wordsTup h (ρ := c0 s p m) (X := eV 1) (p := p) rfl (by show 0 < 15; decide) (eV_ok rfl) hp1 hp8 u4
  have w8 := hw.len8
  have w1 := hw.len1
  have f1 : sSet 3 (wordsE (eV 1)) (c0 s p m) = .nx (c1 s1 p m ws) := (sSet_ok e1).trans rfl
  have dl : dLen [.tup (ws.map .str)] = some (.int (ws.length : Int)) := by
    show some (D.int ((ws.map D.str).length : Int)) = _
    rw [List.length_map]
  have f2 : sParSD 4 5 (eCB dLen (lCons (eV 3) lNil)) (c1 s1 p m ws) = .nx (cl s1 p m ws ws.length [] .un .un .un .un .un) := by
    have z := eCB_ok (l1_ok (eV_ok (ρ := c1 s1 p m ws) (i := 3) rfl)) dl
    unfold sParSD
    rw [z]
    exact rfl
  have f3 : sDPutO 5 (eBin dMulW (eTup (lCons (eK (.int 0)) lNil)) (eV 4)) (eK (.bl true)) (cl s1 p m ws ws.length [] .un .un .un .un .un) = .nx (cl s1 p m ws ws.length [List.replicate ws.length 0] .un .un .un .un .un) :=
    (dput_E (rows := []) (r := List.replicate ws.length 0) rfl (eBin_ok (eTup_ok (l1_ok eK_ok) (by simp)) (eV_ok rfl) (mul_tup _ (by omega))) (by simp)).trans rfl
  have n0 : NdR ws.length [List.replicate ws.length 0] := ⟨by simp, by simp, fun r hr => by
    rw [List.mem_singleton.mp hr]
    exact ⟨List.length_replicate, fun x hx => .inl (List.eq_of_mem_replicate hx)⟩⟩
  have dv := drawV_bd s1 (room := 4) (by decide)
  have t4 : 0 ≤ 1 + drawV s1 4 := by omega
  have t5 : (1 + drawV s1 4).toNat ≤ 4 := by omega
  have d4 := ev_draw h1 u3 (ρ := cl s1 p m ws ws.length [List.replicate ws.length 0] .un .un .un .un .un) (i := 0) (X := eK (.int 4)) (room := 4) rfl eK_ok (by decide) (by decide)
  have a : dAdd (.int 1) (.int (drawV s1 4)) = some (.int (((1 + drawV s1 4).toNat : Nat) : Int)) := by
    show some (D.int (1 + drawV s1 4)) = _
    rw [Int.toNat_of_nonneg t4]
  have hi : iCall dRng1 (lCons (eBin dAdd (eK (.int 1)) (eCall1 0 f__law_draw (lCons (eK (.int 4)) lNil))) lNil) (cl s1 p m ws ws.length [List.replicate ws.length 0] .un .un .un .un .un) = .ok ((List.range (1 + drawV s1 4).toNat).map fun (i : Nat) => D.int (i : Int)) (cl (drawS s1 4) p m ws ws.length [List.replicate ws.length 0] .un .un .un .un .un) :=
    (iRng (eBin_ok eK_ok d4 a) (by omega)).trans rfl
  have h2 := h1.draw (room := 4) (by decide)
  obtain ⟨ρ', e, s3, rows, y6, y7, y8, y9, y10, hρ, g1, g2, g3, g4, h3⟩ := forL_pre (T := tgN 6) (B := lapC) (fun (i : Nat) => D.int (i : Int)) (fun done ρ => ∃ s' rows y6 y7 y8 y9 y10, ρ = cl s' p m ws ws.length rows y6 y7 y8 y9 y10 ∧ NdR ws.length rows ∧ rows.length ≤ m.toNat ∧ y10.own = false ∧ y9.own = false ∧ DrI (b + 8 * MN + 1 + 1 + 8 * done.length) s')
    (List.range (1 + drawV s1 4).toNat) (fun done x rest ρ e ⟨s', rows, y6, y7, y8, y9, y10, hρ, g1, g2, g3, g4, h'⟩ => by
    have hd : done.length ≤ 4 := by
      have := congrArg List.length e
      simp at this
      omega
    obtain ⟨s2, rows2, y7', y8', y9', y10', e2, k1, k2, k3, k4, k5⟩ := lapC_ok (s := s') (p := p) (m := m) (ws := ws) (n := ws.length) (rows := rows) (y6 := .st (.int x)) (y7 := y7) (y8 := y8) (y9 := y9) (y10 := y10) h' (u5 _ hd) w8 rfl t1 t3 g1 g2 g3 g4
    refine ⟨cl s' p m ws ws.length rows (.st (.int x)) y7 y8 y9 y10, _, congrArg some (by rw [hρ]; exact rfl), e2, s2, rows2, .st (.int x), y7', y8', y9', y10', rfl, k1, k2, k3, k4, ?_⟩
    rw [List.length_append, List.length_singleton, Nat.mul_add]
    exact k5) (List.range (1 + drawV s1 4).toNat) [] (cl (drawS s1 4) p m ws ws.length [List.replicate ws.length 0] .un .un .un .un .un) rfl ⟨drawS s1 4, _, .un, .un, .un, .un, .un, rfl, n0, by simpa using t2, rfl, rfl, h2⟩
  rw [List.length_range] at h3
  have f4 : sFor (iCall dRng1 (lCons (eBin dAdd (eK (.int 1)) (eCall1 0 f__law_draw (lCons (eK (.int 4)) lNil))) lNil)) (tgN 6) lapC (cl s1 p m ws ws.length [List.replicate ws.length 0] .un .un .un .un .un) = .nx (cl s3 p m ws ws.length rows y6 y7 y8 y9 y10) := (sFor_ok hi).trans (e.trans (congrArg SRes.nx hρ))
  have t6 : 8 * (1 + drawV s1 4).toNat ≤ 8 * 4 := Nat.mul_le_mul_left _ t5
  obtain ⟨tn, s5, e5, l5, h5⟩ := turn_ok (s := s3) (p := p) (m := m) (ws := ws) (rows := rows) (y6 := y6) (y7 := y7) (y8 := y8) (y9 := y9) (y10 := y10) h3 (Nat.le_trans (Nat.add_le_add_right (Nat.add_le_add_left t6 _) _) u6) w8
  have f5 : sSet 11 turnE (cl s3 p m ws ws.length rows y6 y7 y8 y9 y10) = .nx (c2 s5 p m ws ws.length (.od (rows.map kvR)) y6 y7 y8 y9 y10 tn) := (sSet_ok e5).trans rfl
  have rl : ∀ r ∈ rows, r.length ≤ 900 := fun r hr => by rw [(g1.row r hr).1]; exact Nat.le_trans w8 (by decide)
  have e6 := flips_ok (s := s5) (p := p) (m := m) (ws := ws) (n := ws.length) (rows := rows) (y6 := y6) (y7 := y7) (y8 := y8) (tn := tn) g4 g3 rl (Nat.le_trans g2 (Nat.le_trans t3 (by decide)))
  have f6 := sSet_ok (i := 12) e6
  have nd : (rows.map (flipR tn)).Nodup := by
    unfold List.Nodup
    rw [List.pairwise_map]
    exact List.Pairwise.imp_of_mem (fun {u v} hu hv ne z => ne (flip_inj (by rw [(g1.row u hu).1, l5]) (by rw [(g1.row v hv).1, l5]) z)) g1.nd
  obtain ⟨ys, e7, co⟩ := cls_ok (ρ := (c2 s5 p m ws ws.length (.st (.dct (rows.map kvR))) y6 y7 y8 y9 y10 tn).set 12 (.st (.lst ((rows.map (flipR tn)).map tI)))) (i := 3) (j := 12) (ws := ws) (L := rows.map (flipR tn)) rfl rfl hw (by rw [List.length_map]; exact g1.l1) (by rw [List.length_map]; exact Nat.le_trans g2 t3) nd fun x hx => by
    obtain ⟨r, hr, rfl⟩ := List.mem_map.mp hx
    exact ⟨by rw [flip_len (by rw [l5, (g1.row r hr).1]), (g1.row r hr).1], flip_01 (g1.row r hr).2⟩
  have fin : B__law_sh_closed (c0 s p m) = .rt (cls ws ys) ((c2 s5 p m ws ws.length (.st (.dct (rows.map kvR))) y6 y7 y8 y9 y10 tn).set 12 (.st (.lst ((rows.map (flipR tn)).map tI)))) := by
    rw [B_closed_eq, sSeq_ok f1, sSeq_ok f2, sSeq_ok f3, sSeq_ok f4, sSeq_ok f5, sSeq_ok f6]
    exact sRet_ok e7
  have g : f__law_sh_closed [.dr s, .st (.int p), .st (.int m)] = noEx (runDef 15 B__law_sh_closed [.dr s, .st (.int p), .st (.int m)]) := rfl
  have st : ([.dr s, .st (.int p), .st (.int m)] : List SV) ++ List.replicate (15 - ([.dr s, .st (.int p), .st (.int m)] : List SV).length) SV.un = c0 s p m := rfl
  refine ⟨ws, ys, s5, [.st (.int p), .st (.int m), .st (.tup (ws.map .str)), .st (.int ws.length), .st (.dct (rows.map kvR)), y6, y7, y8, y9, y10, .st (.lst (tn.map .int)), .st (.lst ((rows.map (flipR tn)).map tI)), .un, .un], ?_, co, h5.mono (budD t5)⟩
  rw [g]
  exact runDef_rt (n := 15) (B := B__law_sh_closed) (by rw [st]; exact fin)
theorem ev_closed {b : Nat} {s : DrS} {p r : Int} (h : DrI b s) (hp1 : 1 ≤ p) (hp8 : p ≤ 8) (hr1 : 1 ≤ r) (hr24 : r ≤ 24) (hb : b + KC ≤ BIG) {ρ : Ρ} {X Y : Ev D} (h0 : svAt ρ 0 = .dr s) (hX : X ρ = .ok (.int p) ρ) (hY : Y ρ = .ok (.int r) ρ) :
    ∃ (ws : List Str) (ys : List (List Int)) (s' : DrS), eCall1 0 f__law_sh_closed (lCons X (lCons Y lNil)) ρ = .ok (cls ws ys) (ρ.set 0 (.dr s')) ∧ COk ws ys ∧ DrI (b + KC) s' := by
  obtain ⟨ws, ys, s', l, e, co, h'⟩ := P_closed h hp1 hp8 hr1 hr24 hb
  exact ⟨ws, ys, s', call1_ok h0 (l2_ok hX hY) h0 e, co, h'⟩
end PU.C
set_option maxHeartbeats 1000000
set_option exponentiation.threshold 5000
namespace PU.C
open PySem PySem.Spec PyProof.Rows L2 PU
/-- words drawn, as a tuple; not more than asked -/
theorem wordsTup' {b : Nat} {s : DrS} (h : DrI b s) {ρ : Ρ} {X : Ev D} {p : Int} (h0 : svAt ρ 0 = .dr s) (hl : 0 < ρ.length) (hX : X ρ = .ok (.int p) ρ) (h1 : 1 ≤ p) (h8 : p ≤ 8) (hb : b + 8 * MN + 40 ≤ BIG) :
    ∃ (ws : List Str) (s' : DrS), eCB dTuple (lCons (eCall1 0 f__law_words (lCons (eBin dAdd (eK (.int 1)) (eCall1 0 f__law_draw (lCons X lNil))) lNil)) lNil) ρ = .ok (.tup (ws.map .str)) (ρ.set 0 (.dr s')) ∧ WOk ws ∧ DrI (b + 8 * MN + 1) s' ∧ (ws.length : Int) ≤ p := by
  have dv := drawV_bd s (room := p) (by omega)
  have d := ev_draw h (by omega) h0 hX (by omega) (by omega)
  have a : dAdd (.int 1) (.int (drawV s p)) = some (.int (((1 + drawV s p).toNat : Nat) : Int)) := by
    show some (D.int (1 + drawV s p)) = _
    rw [Int.toNat_of_nonneg (by omega)]
  have hm : (1 + drawV s p).toNat ≤ 8 := by omega
  have hmn : (1 + drawV s p).toNat * MN ≤ 8 * MN := Nat.mul_le_mul_right _ hm
  obtain ⟨ws, s', e, w1, w2, w3⟩ := ev_words (h.draw (room := p) (by omega)) (many := (1 + drawV s p).toNat) (by omega) hm (by omega) (ρ := ρ) (i := 0) (by rw [h0]; rfl) (eBin_ok eK_ok d a) (svAt_set_eq hl)
  refine ⟨ws, s', ?_, w1, w3.mono (by omega), by rw [w2]; omega⟩
  rw [List.set_set] at e
  exact eCB_ok (l1_ok e) rfl

theorem fm_filter {α β : Type} (p : α → Bool) (g : α → β) : ∀ xs : List α, (xs.filterMap fun x => if p x = true then some (g x) else none) = (xs.filter p).map g
  | [] => rfl
  | x :: xs => by
    rw [List.filterMap_cons, List.filter_cons]
    cases h : p x with
    | true => simp only [if_true, List.map_cons, fm_filter p g xs]
    | false => simp only [Bool.false_eq_true, if_false, fm_filter p g xs]
/-- [e for x in xs if ..], nothing changed -/
theorem fltComp {α : Type} {ρ ρ1 : Ρ} {I : Ev (List D)} {tt : Ev Bool} {te : Ev D} {k : Nat} (xs : List α) (f g : α → D) (p : α → Bool) (hI : I ρ = .ok (xs.map f) ρ1) (h : xs.length ≤ 1000) (hk : (svAt ρ1 k).own = false)
    (ht : ∀ x ∈ xs, tt (ρ1.set k (.st (f x))) = .ok (p x) (ρ1.set k (.st (f x)))) (hg : ∀ x ∈ xs, p x = true → te (ρ1.set k (.st (f x))) = .ok (g x) (ρ1.set k (.st (f x)))) : nLc I (tgN k) tt te [k] ρ = .ok ((xs.filter p).map g) ρ1 := by
  rw [← fm_filter]
  refine nLc_fm xs f (fun x => if p x = true then some (g x) else none) hI (by simp [stFree, hk]) (fun x hx => ?_) (small h)
  have t : tgN k (f x) (wipeP ρ1 [k]) = some (ρ1.set k (.st (f x))) := by
    show some ((ρ1.set k .un).set k _) = _
    rw [List.set_set]
  have w : wipeP (ρ1.set k (.st (f x))) [k] = wipeP ρ1 [k] := by
    show (ρ1.set k _).set k .un = ρ1.set k .un
    rw [List.set_set]
  cases hp : p x with
  | true => simp only [lcStep, t, ht x hx, hp, noEx, Res.bind, if_true, hg x hx hp, w]
  | false => simp only [lcStep, t, ht x hx, hp, noEx, Res.bind, Bool.false_eq_true, if_false, w]
/-- [x for x in xs if draw(room) > 0] -/
theorem drawFlt {α : Type} {b : Nat} {s : DrS} {ρ ρ1 : Ρ} {I : Ev (List D)} {k : Nat} {room : Int} (h : DrI b s) (xs : List α) (f : α → D) (hI : I ρ = .ok (xs.map f) ρ1) (hz : xs.length ≤ 1000) (hb : b + xs.length ≤ BIG) (hr : 0 < room) (hr2 : room ≤ 1048576)
    (h0 : svAt ρ1 0 = .dr s) (hk : (svAt ρ1 k).own = false) (k0 : 0 ≠ k) (hl : 0 < ρ1.length) (hkl : k < ρ1.length) :
    ∃ (ys : List α) (s' : DrS), nLc I (tgN k) (tV (eBin dGt (eCall1 0 f__law_draw (lCons (eK (.int room)) lNil)) (eK (.int 0)))) (eV k) [k] ρ = .ok (ys.map f) (ρ1.set 0 (.dr s')) ∧ ys.Sublist xs ∧ DrI (b + xs.length) s' := by
  have key := nLc_dr (I := I) (T := tgN k) (tt := tV (eBin dGt (eCall1 0 f__law_draw (lCons (eK (.int room)) lNil)) (eK (.int 0)))) (te := eV k) (vs := [k]) (ρ := ρ) (ρ1 := ρ1) (fun s => (ρ1.set k .un).set 0 (.dr s)) f (fun x s => if drawV s room > 0 then some (f x) else none) (fun s => drawS s room) (b + xs.length) 1 xs s b hI
    (by simp [stFree, hk]) (by
      show ρ1.set k .un = _
      rw [List.set_comm _ _ (Ne.symm k0), ← h0, set_self]) (fun x _ s b' h' hb' => ⟨by
      have t : tgN k (f x) ((ρ1.set k .un).set 0 (.dr s)) = some ((ρ1.set 0 (.dr s)).set k (.st (f x))) := by
        unfold tgN
        rw [List.set_comm _ _ k0, List.set_set, List.set_comm _ _ (Ne.symm k0)]
      have v0 : svAt ((ρ1.set 0 (.dr s)).set k (.st (f x))) 0 = .dr s := by
        rw [svAt_set_ne (Ne.symm k0), svAt_set_eq hl]
      have d := ev_draw (i := 0) (X := eK (.int room)) (room := room) h' (by omega) v0 rfl hr hr2
      have g : dGt (.int (drawV s room)) (.int 0) = some (.bl (decide (drawV s room > 0))) := rfl
      have tt := tV_ok (eBin_ok d eK_ok g)
      have vk : eV k (((ρ1.set 0 (.dr s)).set k (.st (f x))).set 0 (.dr (drawS s room))) = .ok (f x) (((ρ1.set 0 (.dr s)).set k (.st (f x))).set 0 (.dr (drawS s room))) := eV_ok (by
        rw [svAt_set_ne k0, svAt_set_eq (by rw [List.length_set]; exact hkl)])
      have w : wipeP (((ρ1.set 0 (.dr s)).set k (.st (f x))).set 0 (.dr (drawS s room))) [k] = (ρ1.set k .un).set 0 (.dr (drawS s room)) := by
        show ((((ρ1.set 0 (.dr s)).set k (.st (f x))).set 0 (.dr (drawS s room)))).set k .un = _
        rw [List.set_comm (SV.st (f x)) _ (Ne.symm k0), List.set_set, List.set_set, List.set_comm _ _ k0]
      by_cases hc : drawV s room > 0
      · rw [decide_eq_true hc] at tt
        simp only [lcStep, t, tt, noEx, Res.bind, if_true, vk, w, if_pos hc]
      · rw [decide_eq_false hc] at tt
        simp only [lcStep, t, tt, noEx, Res.bind, Bool.false_eq_true, if_false, w, if_neg hc], h'.draw hr⟩) h (by omega) (small hz)
  obtain ⟨k1, k2⟩ := key
  rw [Nat.mul_one] at k2
  have sq : ∀ (xs : List α) (s : DrS), ∃ ys : List α, seqF (fun x s => if drawV s room > 0 then some (f x) else none) (fun s => drawS s room) xs s = ys.map f ∧ ys.Sublist xs := by
    intro xs
    induction xs with
    | nil => exact fun s => ⟨[], rfl, List.Sublist.slnil⟩
    | cons x xs ih =>
      intro s
      obtain ⟨ys, e, q⟩ := ih (drawS s room)
      by_cases hc : drawV s room > 0
      · exact ⟨x :: ys, by simp only [seqF, e, if_pos hc, Option.toList, List.map_cons, List.singleton_append], q.cons_cons x⟩
      · exact ⟨ys, by simp only [seqF, e, if_neg hc, Option.toList, List.nil_append], q.cons x⟩
  obtain ⟨ys, e, q⟩ := sq xs s
  refine ⟨ys, _, ?_, q, k2⟩
  rw [k1, e]
  congr 1
  show ((ρ1.set k .un).set 0 _).set k (svAt ρ1 k) = _
  rw [List.set_comm _ _ k0, List.set_set, set_self]
theorem last_at {ds : List D} {d : D} (h : ds ≠ []) (hd : ds.getLast? = some d) : dIx (.lst ds) (.int (-1)) = some d := by
  have hl : 0 < ds.length := List.length_pos_iff.mpr h
  show L2.atI ds (-1) = _
  have e : L2.ixN ds.length (-1) = some (ds.length - 1) := by
    unfold L2.ixN
    rw [if_neg (by omega)]
    rw [if_pos (by omega)]
    congr 1
    omega
  unfold L2.atI
  rw [e, Option.bind_some, ← List.getLast?_eq_getElem?, hd]
end PU.C
set_option maxHeartbeats 1000000
set_option exponentiation.threshold 5000
namespace PU.C
open PySem PySem.Spec PyProof.Rows L2 PU
/-! ### _law_sh_class -/
def sc (s : DrS) (p m way : Int) (y4 y5 y6 y7 y8 : SV) : Ρ := [.dr s, .st (.int p), .st (.int m), .st (.int way), y4, y5, y6, y7, y8]
def scR (s : DrS) (p m way : Int) (ws : List Str) (z : Int) (rs : List (List Int)) (y7 y8 : SV) : Ρ := sc s p m way (.st (.tup (ws.map .str))) (.st (.int z)) (.st (.lst (rs.map tI))) y7 y8
noncomputable def rowsE : Ev D := eSl (eFz (nLc (iAny (eCall f__law_sh_labels (lCons (eCB dLen (lCons (eV 4) lNil)) lNil))) (tgN 8) (tV (eBin dLe (eCB dSum (lCons (eV 8) lNil)) (eV 5))) (eV 8) [8])) poN (poS (eV 2))
noncomputable def if6 : Sv := (sIf (tAndF (tV (eBin dEq (eV 3) (eK (.int 6)))) (tV (eBin dGt (eCB dLen (lCons (eV 6) lNil)) (eK (.int 1)))))
  (sSeq (sSet 7 (eCall1 0 f__law_draw (lCons (eCB dLen (lCons (eV 6) lNil)) lNil)))
  (sSet 6 (eBin dAdd (eSl (eV 6) poN (poS (eV 7))) (eSl (eV 6) (poS (eBin dAdd (eV 7) (eK (.int 1)))) poN))))
  sNop)
noncomputable def if7 : Sv := (sIf (tV (eBin dEq (eV 3) (eK (.int 7))))
  (sSet 6 (eCB dSortSet (lCons (eBin dAdd (eFz (nLc (iAny (eV 6)) (tgN 8) (tV (eBin dGt (eCall1 0 f__law_draw (lCons (eK (.int 4)) lNil)) (eK (.int 0)))) (eV 8) [8])) (eLst (lCons (eBin dIx (eV 6) (eK (.int 0))) (lCons (eBin dIx (eV 6) (eUn dNeg (eK (.int 1)))) lNil)))) lNil)))
  sNop)
theorem B_shc_eq : B__law_sh_class = sSeq (sSet 3 (eCall1 0 f__law_draw (lCons (eK (.int 8)) lNil))) (sSeq (sIf (tV (eBin dLt (eV 3) (eK (.int 3)))) (sRet (eCall1 0 f__law_class (lCons (eV 1) (lCons (eV 2) lNil)))) sNop)
  (sSeq (sIf (tV (eBin dLt (eV 3) (eK (.int 5)))) (sRet (eCall1 0 f__law_sh_closed (lCons (eV 1) (lCons (eV 2) lNil)))) sNop)
  (sSeq (sAsg (tgT [4, 5]) (eTup (lCons (wordsE (eCB dMin2 (lCons (eV 1) (lCons (eK (.int 5)) lNil)))) (lCons (eCall1 0 f__law_draw (lCons (eK (.int 4)) lNil)) lNil))))
  (sSeq (sSet 6 rowsE) (sSeq if6 (sSeq if7 (sRet (eTup (lCons (eK (.str "class")) (lCons (eV 4) (lCons (eCB dTuple (lCons (eV 6) lNil)) lNil)))))))))) ) := rfl
/-- rows in their order, as a class wants them -/
structure GoodR (n : Nat) (rs : List (List Int)) : Prop where
  l1 : 1 ≤ rs.length
  l24 : rs.length ≤ 24
  row : ∀ r ∈ rs, r.length = n ∧ ∀ x ∈ r, x = 0 ∨ x = 1
  asc : AscR rs
theorem AscR.sub {L M : List (List Int)} (h : AscR M) (s : L.Sublist M) : AscR L := List.Pairwise.sublist s h
variable {s : DrS} {p m way z : Int} {ws : List Str} {rs : List (List Int)} {y7 y8 : SV}
theorem rows_ok {M : Nat} {y6 : SV} (hw : WOk ws) (h5 : ws.length ≤ 5) (hz : 0 ≤ z) (hm : m = (M : Int)) (h1 : 1 ≤ M) (h24 : M ≤ 24) (h8 : y8.own = false) :
    ∃ rs, sSet 6 rowsE (sc s p m way (.st (.tup (ws.map .str))) (.st (.int z)) y6 y7 y8) = .nx (scR s p m way ws z rs y7 y8) ∧ GoodR ws.length rs := by
  obtain ⟨ys, ⟨l, e⟩, pm, asc⟩ := P_labels hw.len1 h5
  have dl : dLen [.tup (ws.map .str)] = some (.int (ws.length : Int)) := by
    show some (D.int ((ws.map D.str).length : Int)) = _
    rw [List.length_map]
  have cb := cubeL_cb ws.length
  have hc : eCall f__law_sh_labels (lCons (eCB dLen (lCons (eV 4) lNil)) lNil) (sc s p m way (.st (.tup (ws.map .str))) (.st (.int z)) y6 y7 y8) = .ok (.lst (ys.map tI)) (sc s p m way (.st (.tup (ws.map .str))) (.st (.int z)) y6 y7 y8) :=
    eCall_ok (l1_ok (eCB_ok (l1_ok (eV_ok rfl)) dl)) ⟨l, e⟩
  have ds : ∀ x : List Int, dSum [tI x] = some (.int x.sum) := fun x => by
    show (intsD (x.map D.int)).map _ = _
    rw [intsD_map]
    exact rfl
  have yl : ys.length ≤ 32 := by
    rw [pm.length_eq, cubeL_len]
    exact Nat.le_trans (Nat.pow_le_pow_right (by decide) h5) (by decide)
  have c := fltComp (ρ := sc s p m way (.st (.tup (ws.map .str))) (.st (.int z)) y6 y7 y8) (ρ1 := sc s p m way (.st (.tup (ws.map .str))) (.st (.int z)) y6 y7 y8) (I := iAny (eCall f__law_sh_labels (lCons (eCB dLen (lCons (eV 4) lNil)) lNil))) (tt := tV (eBin dLe (eCB dSum (lCons (eV 8) lNil)) (eV 5))) (te := eV 8) (k := 8) ys tI tI (fun x => decide (x.sum ≤ z)) (iAny_lst hc) (by omega) h8
    (fun x _ => tV_ok (eBin_ok (eCB_ok (l1_ok (eV_ok rfl)) (ds x)) (eV_ok rfl) rfl)) (fun x _ _ => eV_ok rfl)
  have hcut : dSl (.lst ((ys.filter fun x => decide (x.sum ≤ z)).map tI)) none (some m) = some (.lst (((ys.filter fun x => decide (x.sum ≤ z)).take M).map tI)) := by
    rw [hm]
    show some (D.lst (cutD _ none (some (M : Int)))) = _
    rw [cutD_take, List.map_take]
  have mem : ∀ x ∈ (ys.filter fun x => decide (x.sum ≤ z)).take M, x ∈ ys := fun x hx => (List.mem_filter.mp (List.mem_of_mem_take hx)).1
  have ne : 1 ≤ (ys.filter fun x => decide (x.sum ≤ z)).length := List.length_pos_of_mem (a := List.replicate ws.length 0) (List.mem_filter.mpr ⟨pm.mem_iff.mpr (cubeL_zero _), by
    have : (List.replicate ws.length (0 : Int)).sum = 0 := by
      induction ws.length with
      | zero => rfl
      | succ k ih => rw [List.replicate_succ, List.sum_cons, ih]; rfl
    rw [this]
    exact decide_eq_true hz⟩)
  refine ⟨(ys.filter fun x => decide (x.sum ≤ z)).take M, ?_, ⟨by rw [List.length_take]; omega, by rw [List.length_take]; omega, fun x hx => cb.row x (pm.mem_iff.mp (mem x hx)), asc.sub ((List.take_sublist _ _).trans List.filter_sublist)⟩⟩
  exact (sSet_ok (eSl_ok (eFz_ok c) poN_ok (poS_ok (eV_ok rfl)) hcut)).trans rfl
theorem len_rows (rs : List (List Int)) : dLen [.lst (rs.map tI)] = some (.int (rs.length : Int)) := by
  show some (D.int ((rs.map tI).length : Int)) = _
  rw [List.length_map]
theorem if6_ok {b n : Nat} (h : DrI b s) (hb : b + 1 ≤ BIG) (g : GoodR n rs) (h7 : y7 = .un) : ∃ rs' y7' s', if6 (scR s p m way ws z rs y7 y8) = .nx (scR s' p m way ws z rs' y7' y8) ∧ GoodR n rs' ∧ DrI (b + 1) s' := by
  have t1 := tV_ok (eBin_ok (eV_ok (ρ := scR s p m way ws z rs y7 y8) (i := 3) (d := .int way) rfl) eK_ok (dEq_int way 6))
  have gt : dGt (.int (rs.length : Int)) (.int 1) = some (.bl (decide (rs.length > 1))) := by
    show some (D.bl (decide ((rs.length : Int) > 1))) = _
    congr 2
    exact decide_eq_decide.mpr (by omega)
  have t2 := tV_ok (eBin_ok (eCB_ok (l1_ok (eV_ok (ρ := scR s p m way ws z rs y7 y8) (i := 6) rfl)) (len_rows rs)) eK_ok gt)
  by_cases h6 : way = 6
  · rw [decide_eq_true h6] at t1
    by_cases hl : rs.length > 1
    · rw [decide_eq_true hl] at t2
      have d := ev_draw h (by omega) (ρ := scR s p m way ws z rs y7 y8) (i := 0) (X := eCB dLen (lCons (eV 6) lNil)) (room := (rs.length : Int)) rfl (eCB_ok (l1_ok (eV_ok rfl)) (len_rows rs)) (by omega) (by have := g.l24; omega)
      have dv := drawV_bd s (room := (rs.length : Int)) (by omega)
      have e7 : sSet 7 (eCall1 0 f__law_draw (lCons (eCB dLen (lCons (eV 6) lNil)) lNil)) (scR s p m way ws z rs y7 y8) = .nx (scR (drawS s rs.length) p m way ws z rs (.st (.int (drawV s rs.length))) y8) := (sSet_ok d).trans rfl
      obtain ⟨k, hk⟩ : ∃ k : Nat, drawV s rs.length = (k : Int) := ⟨_, (Int.toNat_of_nonneg dv.1).symm⟩
      rw [hk] at e7 dv
      have a1 : dAdd (.int (k : Int)) (.int 1) = some (.int ((k + 1 : Nat) : Int)) := rfl
      have c1 : dSl (.lst (rs.map tI)) none (some (k : Int)) = some (.lst ((rs.take k).map tI)) := by
        show some (D.lst (cutD _ none (some (k : Int)))) = _
        rw [cutD_take, List.map_take]
      have c2 : dSl (.lst (rs.map tI)) (some ((k + 1 : Nat) : Int)) none = some (.lst ((rs.drop (k + 1)).map tI)) := by
        show some (D.lst (cutD _ (some ((k + 1 : Nat) : Int)) none)) = _
        rw [cutD_drop, List.map_drop]
      have hl24 := g.l24
      have sub : (rs.take k ++ rs.drop (k + 1)).Sublist rs := by
        have q : (rs.take k ++ rs.drop (k + 1)).Sublist (rs.take k ++ rs.drop k) := List.Sublist.append_left (by rw [← List.drop_drop]; exact List.drop_sublist _ _) _
        rwa [List.take_append_drop] at q
      have e6 := sSet_ok (i := 6) (eBin_ok (g := dAdd) (eSl_ok (eV_ok (ρ := scR (drawS s rs.length) p m way ws z rs (.st (.int (k : Int))) y8) (i := 6) rfl) poN_ok (poS_ok (eV_ok (i := 7) rfl)) c1) (eSl_ok (eV_ok (i := 6) rfl) (poS_ok (eBin_ok (eV_ok (i := 7) rfl) eK_ok a1)) poN_ok c2) (by rw [dAdd_lst (by simp; omega), ← List.map_append]))
      refine ⟨rs.take k ++ rs.drop (k + 1), .st (.int (k : Int)), drawS s rs.length, ?_, ⟨by simp; omega, Nat.le_trans sub.length_le hl24, fun r hr => g.row r (sub.subset hr), g.asc.sub sub⟩, h.draw (by omega)⟩
      unfold if6
      rw [sIf_t ((tAnd_t t1).trans t2), sSeq_ok e7, e6]
      exact rfl
    · rw [decide_eq_false hl] at t2
      refine ⟨rs, y7, s, ?_, g, h.mono (by omega)⟩
      unfold if6
      rw [sIf_f ((tAnd_t t1).trans t2)]
      exact rfl
  · rw [decide_eq_false h6] at t1
    refine ⟨rs, y7, s, ?_, g, h.mono (by omega)⟩
    unfold if6
    rw [sIf_f (tAnd_f t1)]
    exact rfl
theorem if7_ok {b n : Nat} (h : DrI b s) (hb : b + 30 ≤ BIG) (g : GoodR n rs) (hn : 1 ≤ n) (h8 : y8.own = false) : ∃ rs' s', if7 (scR s p m way ws z rs y7 y8) = .nx (scR s' p m way ws z rs' y7 y8) ∧ GoodR n rs' ∧ DrI (b + 30) s' := by
  have t1 := tV_ok (eBin_ok (eV_ok (ρ := scR s p m way ws z rs y7 y8) (i := 3) (d := .int way) rfl) eK_ok (dEq_int way 7))
  have hl24 := g.l24
  have hl1 := g.l1
  by_cases h7 : way = 7
  · rw [decide_eq_true h7] at t1
    obtain ⟨ys, s', e1, sub, h1⟩ := drawFlt (k := 8) (room := 4) h rs tI (I := iAny (eV 6)) (ρ := scR s p m way ws z rs y7 y8) (ρ1 := scR s p m way ws z rs y7 y8) (iAny_lst (eV_ok rfl)) (by omega) (by omega) (by decide) (by decide) rfl h8 (by decide) (by show 0 < 9; decide) (by show 8 < 9; decide)
    have hne : rs ≠ [] := fun e => by rw [e] at hl1; simp at hl1
    obtain ⟨r0, hr0⟩ : ∃ r0, rs[0]? = some r0 := ⟨_, List.getElem?_eq_getElem (by omega)⟩
    obtain ⟨r9, hr9⟩ : ∃ r9, rs.getLast? = some r9 := ⟨_, List.getLast?_eq_some_getLast hne⟩
    have i0 : dIx (.lst (rs.map tI)) (.int 0) = some (tI r0) := by
      have q := lst_at (ds := rs.map tI) (k := 0) (by rw [List.length_map]; omega)
      rw [List.getElem?_map, hr0] at q
      exact q
    have i9 : dIx (.lst (rs.map tI)) (.int (-1)) = some (tI r9) := last_at (by simpa using hne) (by rw [List.getLast?_map, hr9]; rfl)
    have m0 : r0 ∈ rs := List.mem_of_getElem? hr0
    have m9 : r9 ∈ rs := List.mem_of_getLast? hr9
    have dn : dNeg (.int 1) = some (.int (-1)) := rfl
    have hy := sub.length_le
    have sum : ∀ r ∈ ys ++ [r0, r9], r ∈ rs := fun r hr => by
      rcases List.mem_append.mp hr with q | q
      · exact sub.subset q
      · rcases List.mem_cons.mp q with q | q
        · rw [q]; exact m0
        · rw [List.mem_singleton.mp q]; exact m9
    obtain ⟨L, eS, nd, mem, asc⟩ := P_sortset' (n := n) (rs := ys ++ [r0, r9]) hn (few_len (by simp; omega)) fun r hr => g.row r (sum r hr)
    have inL : ∀ r ∈ L, r ∈ rs := fun r hr => sum r ((mem r).mp hr)
    have e2 := eBin_ok (g := dAdd) (z := .lst ((ys ++ [r0, r9]).map tI)) (eFz_ok e1) (eLst_ok (l2_ok (eBin_ok (eV_ok (ρ := (scR s p m way ws z rs y7 y8).set 0 (.dr s')) (i := 6) rfl) eK_ok i0) (eBin_ok (eV_ok (i := 6) rfl) (eUn_ok eK_ok dn) i9)) (by simp)) (by rw [dAdd_lst (by simp; omega), List.map_append]; exact rfl)
    have e3 := sSet_ok (i := 6) (eCB_ok (l1_ok e2) eS)
    have bd : ∀ r ∈ L, TS.Bd bB r := fun r hr x hx => by
      rcases (g.row r (inL r hr)).2 x hx with rfl | rfl <;> decide
    have ascL : AscR L := List.Pairwise.imp_of_mem (fun {u v} hu hv q => by
      rw [dlt_rows]
      by_cases c : u < v
      · exact c
      · exfalso
        rcases List.le_iff_lt_or_eq.mp (List.not_lt.mp c) with y | y
        · have := code_lex (B := bB) (by rw [(g.row u (inL u hu)).1, (g.row v (inL v hv)).1]) (bd v hv) (bd u hu) y
          omega
        · rw [y] at q
          omega) asc
    refine ⟨L, s', ?_, ⟨List.length_pos_of_mem ((mem r0).mpr (List.mem_append_right _ List.mem_cons_self)), Nat.le_trans (nodup_sub_len L rs nd inL) hl24, fun r hr => g.row r (inL r hr), ascL⟩, h1.mono (by omega)⟩
    unfold if7
    rw [sIf_t t1, e3]
    exact rfl
  · rw [decide_eq_false h7] at t1
    refine ⟨rs, s, ?_, g, h.mono (by omega)⟩
    unfold if7
    rw [sIf_f t1]
    exact rfl
end PU.C
set_option maxHeartbeats 1000000
set_option exponentiation.threshold 5000
namespace PU.C
open PySem PySem.Spec PyProof.Rows L2 PU
/-- what one drawn class costs at most, the choice of its way too -/
def KS : Nat := 8 * MN + 900
theorem budS {b m B : Nat} (h : b + (8 * m + 900) ≤ B) : b ≤ B ∧ b + 1 + (8 * m + 800) ≤ B ∧ b + 1 + 8 * m + 40 ≤ B ∧ b + 1 + 8 * m + 1 ≤ B ∧ b + 1 + 8 * m + 1 + 1 + 1 ≤ B ∧ b + 1 + 8 * m + 1 + 1 + 1 + 30 ≤ B := ⟨by omega, by omega, by omega, by omega, by omega, by omega⟩
theorem budS1 {b m : Nat} : b + 1 + (8 * m + 800) ≤ b + (8 * m + 900) ∧ b + 1 + 8 * m + 1 + 1 + 1 + 30 ≤ b + (8 * m + 900) := ⟨by omega, by omega⟩
theorem min5 {p : Int} : dMin2 [.int p, .int 5] = some (.int (if 5 < p then 5 else p)) := rfl
theorem P_shc {b : Nat} {s : DrS} {p m : Int} (h : DrI b s) (hp1 : 1 ≤ p) (hp8 : p ≤ 8) (hm1 : 1 ≤ m) (hm24 : m ≤ 24) (hb : b + KS ≤ BIG) :
    ∃ (ws : List Str) (ys : List (List Int)) (s' : DrS) (l : List SV), f__law_sh_class [.dr s, .st (.int p), .st (.int m)] = .ok (cls ws ys) (.dr s' :: l) ∧ COk ws ys ∧ DrI (b + KS) s' := by
  unfold KS at hb ⊢
  have t1 : m = (m.toNat : Int) := by omega
  have t2 : 1 ≤ m.toNat := by omega
  have t3 : m.toNat ≤ 24 := by omega
  have q5 : 1 ≤ (if 5 < p then 5 else p) ∧ (if 5 < p then 5 else p) ≤ 5 := by split <;> omega
  obtain ⟨u1, u2, u3, u4, u5, u6⟩ := budS hb
  obtain ⟨v1, v2⟩ := @budS1 b MN
  clear hb
  have d8 := ev_draw h u1 (ρ := sc s p m 0 .un .un .un .un .un |>.set 3 .un) (i := 0) (X := eK (.int 8)) (room := 8) rfl eK_ok (by decide) (by decide)
  have f1 : sSet 3 (eCall1 0 f__law_draw (lCons (eK (.int 8)) lNil)) [.dr s, .st (.int p), .st (.int m), .un, .un, .un, .un, .un, .un] = .nx (sc (drawS s 8) p m (drawV s 8) .un .un .un .un .un) := (sSet_ok d8).trans rfl
  have h1 := h.draw (room := 8) (by decide)
  have g : f__law_sh_class [.dr s, .st (.int p), .st (.int m)] = noEx (runDef 9 B__law_sh_class [.dr s, .st (.int p), .st (.int m)]) := rfl
  have st : ([.dr s, .st (.int p), .st (.int m)] : List SV) ++ List.replicate (9 - ([.dr s, .st (.int p), .st (.int m)] : List SV).length) SV.un = [.dr s, .st (.int p), .st (.int m), .un, .un, .un, .un, .un, .un] := rfl
  generalize hway : drawV s 8 = way at f1
  have c3 := tV_ok (eBin_ok (eV_ok (ρ := sc (drawS s 8) p m way .un .un .un .un .un) (i := 3) (d := .int way) rfl) eK_ok (show dLt (.int way) (.int 3) = some (.bl (decide (way < 3))) from rfl))
  have c5 := tV_ok (eBin_ok (eV_ok (ρ := sc (drawS s 8) p m way .un .un .un .un .un) (i := 3) (d := .int way) rfl) eK_ok (show dLt (.int way) (.int 5) = some (.bl (decide (way < 5))) from rfl))
  by_cases h3 : way < 3
  · rw [decide_eq_true h3] at c3
    obtain ⟨ws, ys, s', e, co, h'⟩ := ev_class h1 hp1 hp8 hm1 hm24 (by unfold KC; exact u2) (ρ := sc (drawS s 8) p m way .un .un .un .un .un) (X := eV 1) (Y := eV 2) rfl (eV_ok rfl) (eV_ok rfl)
    have fin : B__law_sh_class [.dr s, .st (.int p), .st (.int m), .un, .un, .un, .un, .un, .un] = .rt (cls ws ys) ((sc (drawS s 8) p m way .un .un .un .un .un).set 0 (.dr s')) := by
      rw [B_shc_eq, sSeq_ok f1]
      exact sSeq_rt ((sIf_t c3).trans (sRet_ok e))
    refine ⟨ws, ys, s', [.st (.int p), .st (.int m), .st (.int way), .un, .un, .un, .un, .un], ?_, co, h'.mono (by unfold KC; exact v1)⟩
    rw [g]
    exact runDef_rt (n := 9) (B := B__law_sh_class) (by rw [st]; exact fin)
  rw [decide_eq_false h3] at c3
  by_cases h5 : way < 5
  · rw [decide_eq_true h5] at c5
    obtain ⟨ws, ys, s', e, co, h'⟩ := ev_closed h1 hp1 hp8 hm1 hm24 (by unfold KC; exact u2) (ρ := sc (drawS s 8) p m way .un .un .un .un .un) (X := eV 1) (Y := eV 2) rfl (eV_ok rfl) (eV_ok rfl)
    have fin : B__law_sh_class [.dr s, .st (.int p), .st (.int m), .un, .un, .un, .un, .un, .un] = .rt (cls ws ys) ((sc (drawS s 8) p m way .un .un .un .un .un).set 0 (.dr s')) := by
      rw [B_shc_eq, sSeq_ok f1, sSeq_ok ((sIf_f c3).trans sNop_ok)]
      exact sSeq_rt ((sIf_t c5).trans (sRet_ok e))
    refine ⟨ws, ys, s', [.st (.int p), .st (.int m), .st (.int way), .un, .un, .un, .un, .un], ?_, co, h'.mono (by unfold KC; exact v1)⟩
    rw [g]
    exact runDef_rt (n := 9) (B := B__law_sh_class) (by rw [st]; exact fin)
  rw [decide_eq_false h5] at c5
  obtain ⟨ws, s2, e2, hw, h2, l2⟩ := wordsTup' h1 (ρ := sc (drawS s 8) p m way .un .un .un .un .un) (X := eCB dMin2 (lCons (eV 1) (lCons (eK (.int 5)) lNil))) (p := if 5 < p then 5 else p) rfl (by show 0 < 9; decide) (eCB_ok (l2_ok (eV_ok rfl) eK_ok) min5) q5.1 (Int.le_trans q5.2 (by decide)) u3
  have w5 : ws.length ≤ 5 := Int.ofNat_le.mp (Int.le_trans l2 q5.2)
  have d4 := ev_draw h2 u4 (ρ := (sc (drawS s 8) p m way .un .un .un .un .un).set 0 (.dr s2)) (i := 0) (X := eK (.int 4)) (room := 4) rfl eK_ok (by decide) (by decide)
  have h3' := h2.draw (room := 4) (by decide)
  have z0 := (drawV_bd s2 (room := 4) (by decide)).1
  have f4 : sAsg (tgT [4, 5]) (eTup (lCons (wordsE (eCB dMin2 (lCons (eV 1) (lCons (eK (.int 5)) lNil)))) (lCons (eCall1 0 f__law_draw (lCons (eK (.int 4)) lNil)) lNil))) (sc (drawS s 8) p m way .un .un .un .un .un) = .nx (sc (drawS s2 4) p m way (.st (.tup (ws.map .str))) (.st (.int (drawV s2 4))) .un .un .un) :=
    sAsg_ok (eTup_ok (l2_ok e2 d4) (by simp)) rfl
  obtain ⟨rs, e5, g5⟩ := rows_ok (s := drawS s2 4) (p := p) (m := m) (way := way) (z := drawV s2 4) (y6 := .un) (y7 := .un) (y8 := .un) hw w5 z0 t1 t2 t3 rfl
  obtain ⟨rs6, y7, s6, e6, g6, h6⟩ := if6_ok (s := drawS s2 4) (p := p) (m := m) (way := way) (ws := ws) (z := drawV s2 4) (y7 := .un) (y8 := .un) h3' u5 g5 rfl
  obtain ⟨rs7, s7, e7, g7, h7⟩ := if7_ok (s := s6) (p := p) (m := m) (way := way) (ws := ws) (z := drawV s2 4) (y7 := y7) (y8 := .un) h6 u6 g6 hw.len1 rfl
  have er : eTup (lCons (eK (.str "class")) (lCons (eV 4) (lCons (eCB dTuple (lCons (eV 6) lNil)) lNil))) (scR s7 p m way ws (drawV s2 4) rs7 y7 .un) = .ok (cls ws rs7) (scR s7 p m way ws (drawV s2 4) rs7 y7 .un) :=
    eTup_ok (lCons_ok eK_ok (l2_ok (eV_ok rfl) (eCB_ok (l1_ok (eV_ok rfl)) rfl))) (by simp)
  have fin : B__law_sh_class [.dr s, .st (.int p), .st (.int m), .un, .un, .un, .un, .un, .un] = .rt (cls ws rs7) (scR s7 p m way ws (drawV s2 4) rs7 y7 .un) := by
    rw [B_shc_eq, sSeq_ok f1, sSeq_ok ((sIf_f c3).trans sNop_ok), sSeq_ok ((sIf_f c5).trans sNop_ok), sSeq_ok f4, sSeq_ok e5, sSeq_ok e6, sSeq_ok e7]
    exact sRet_ok er
  refine ⟨ws, rs7, s7, [.st (.int p), .st (.int m), .st (.int way), .st (.tup (ws.map .str)), .st (.int (drawV s2 4)), .st (.lst (rs7.map tI)), y7, .un], ?_, ⟨hw, g7.l1, g7.l24, g7.row, g7.asc.zip⟩, h7.mono v2⟩
  rw [g]
  exact runDef_rt (n := 9) (B := B__law_sh_class) (by rw [st]; exact fin)
theorem ev_shc {b : Nat} {s : DrS} {p r : Int} (h : DrI b s) (hp1 : 1 ≤ p) (hp8 : p ≤ 8) (hr1 : 1 ≤ r) (hr24 : r ≤ 24) (hb : b + KS ≤ BIG) {ρ : Ρ} {i : Nat} {X Y : Ev D} (h0 : svAt ρ i = .dr s) (hX : X ρ = .ok (.int p) ρ) (hY : Y ρ = .ok (.int r) ρ) :
    ∃ (ws : List Str) (ys : List (List Int)) (s' : DrS), eCall1 i f__law_sh_class (lCons X (lCons Y lNil)) ρ = .ok (cls ws ys) (ρ.set i (.dr s')) ∧ COk ws ys ∧ DrI (b + KS) s' := by
  obtain ⟨ws, ys, s', l, e, co, h'⟩ := P_shc h hp1 hp8 hr1 hr24 hb
  exact ⟨ws, ys, s', call1_ok h0 (l2_ok hX hY) h0 e, co, h'⟩
end PU.C
set_option maxHeartbeats 1000000
set_option exponentiation.threshold 5000
namespace PU.C
open PySem PySem.Spec PyProof.Rows L2 PU
/-! ### the edges of a class -/
abbrev Edge := Nat × Nat × Str
def eD (e : Edge) : D := .tup [.int (e.1 : Int), .int (e.2.1 : Int), .str e.2.2]
def diffs (a b : List Int) (n : Nat) : List Nat := (List.range n).filter fun k => !decide (a.getD k 0 = b.getD k 0)
def edge1 (ws : List Str) (rs : List (List Int)) (i j : Nat) : List Edge := match diffs (rs.getD i []) (rs.getD j []) ws.length with
  | [k] => [(i, j, ws.getD k default)]
  | _ => []
def edgesI (ws : List Str) (rs : List (List Int)) (i : Nat) : List Edge := (List.range (rs.length - (i + 1))).flatMap fun t => edge1 ws rs i (i + 1 + t)
def edgesL (ws : List Str) (rs : List (List Int)) : List Edge := (List.range rs.length).flatMap (edgesI ws rs)
theorem edge1_len (ws : List Str) (rs : List (List Int)) (i j : Nat) : (edge1 ws rs i j).length ≤ 1 := by
  unfold edge1
  split <;> simp
theorem flat_len {α β : Type} (f : α → List β) (c : Nat) : ∀ (xs : List α), (∀ x ∈ xs, (f x).length ≤ c) → (xs.flatMap f).length ≤ c * xs.length
  | [], _ => by simp
  | x :: xs, h => by
    rw [List.flatMap_cons, List.length_append, List.length_cons, Nat.mul_add]
    have := h x List.mem_cons_self
    have := flat_len f c xs fun y hy => h y (List.mem_cons_of_mem _ hy)
    omega
theorem edgesI_len (ws : List Str) (rs : List (List Int)) (h : rs.length ≤ 24) (i : Nat) : (edgesI ws rs i).length ≤ 24 := by
  have := flat_len (fun t => edge1 ws rs i (i + 1 + t)) 1 (List.range (rs.length - (i + 1))) fun x _ => edge1_len _ _ _ _
  rw [List.length_range] at this
  unfold edgesI
  omega
theorem cls1 (ws : List Str) (rs : List (List Int)) : dIx (cls ws rs) (.int 1) = some (.tup (ws.map .str)) := atI3.2.1
theorem cls2 (ws : List Str) (rs : List (List Int)) : dIx (cls ws rs) (.int 2) = some (.tup (rs.map tI)) := atI3.2.2
theorem tup_at {ds : List D} {k : Nat} (h : k < ds.length) : dIx (.tup ds) (.int (k : Int)) = ds[k]? := by
  show L2.atI ds (k : Int) = _
  rw [atI_nat _ (by omega) (by omega), Int.toNat_natCast]
theorem row_at {rs : List (List Int)} {k : Nat} (h : k < rs.length) : dIx (.tup (rs.map tI)) (.int (k : Int)) = some (tI (rs.getD k [])) := by
  rw [tup_at (by rw [List.length_map]; exact h), List.getElem?_map, List.getD_eq_getElem?_getD, List.getElem?_eq_getElem h]
  exact rfl
theorem word_at {ws : List Str} {k : Nat} (h : k < ws.length) : dIx (.tup (ws.map .str)) (.int (k : Int)) = some (.str (ws.getD k default)) := by
  rw [tup_at (by rw [List.length_map]; exact h), List.getElem?_map, List.getD_eq_getElem?_getD, List.getElem?_eq_getElem h]
  exact rfl
theorem len_tup {α : Type} (f : α → D) (xs : List α) : dLen [.tup (xs.map f)] = some (.int (xs.length : Int)) := by
  show some (D.int ((xs.map f).length : Int)) = _
  rw [List.length_map]
theorem len_lst {α : Type} (f : α → D) (xs : List α) : dLen [.lst (xs.map f)] = some (.int (xs.length : Int)) := by
  show some (D.int ((xs.map f).length : Int)) = _
  rw [List.length_map]
/-- found.append(e), found one's own -/
theorem app_ok {i : Nat} {f : Ev D} {ρ ρ1 : Ρ} {ds es : List D} {d : D} (h0 : svAt ρ i = .ol es) (hf : f ρ = .ok d ρ1) (h1 : svAt ρ1 i = .ol ds) (hl : ds.length ≤ 900) : eApp i f ρ = .ok .non (ρ1.set i (.ol (ds ++ [d]))) := by
  have z : ds.length < sizeLine := Nat.lt_of_lt_of_le (by omega : ds.length < 1000) (by decide)
  unfold eApp
  rw [h0]
  simp only [hf, Res.bind, h1]
  split
  · exact Eq.refl _
  · rename_i hn
    exact absurd z hn
theorem rng2_ok {i n : Nat} (hi : i ≤ 1000) (hn : n ≤ 1000) : dRng2 [.int (i : Int), .int (n : Int)] = some ((List.range (n - i)).map fun (t : Nat) => D.int ((i + t : Nat) : Int)) := by
  have r1 : rgOk (i : Int) = true := rgOk_small (by omega) (by omega)
  have r2 : rgOk (n : Int) = true := rgOk_small (by omega) (by omega)
  simp only [dRng2, r1, r2, Bool.and_self, if_true]
  refine congrArg some ?_
  unfold rgD
  rw [show ((n : Int) - (i : Int)).toNat = n - i by omega]
  refine List.map_congr_left fun t _ => congrArg D.int ?_
  omega
/-- the places where two rows differ, by a comprehension -/
theorem diff_test {ρ : Ρ} {f g : Ev D} {a b : List Int} {k v : Nat} (hf : f ρ = .ok (tI a) ρ) (hg : g ρ = .ok (tI b) ρ) (hv : svAt ρ v = .st (.int (k : Nat))) (ha : k < a.length) (hb : k < b.length) :
    tV (eBin dNe (eBin dIx f (eV v)) (eBin dIx g (eV v))) ρ = .ok (!decide (a.getD k 0 = b.getD k 0)) ρ :=
  tV_ok (eBin_ok (eBin_ok hf (eV_ok hv) (tI_at a ha)) (eBin_ok hg (eV_ok hv) (tI_at b hb)) (isNeInt _ _))
/-! ### _law_sh_edges -/
def rowE (i v : Nat) : Ev D := eBin dIx (eBin dIx (eV i) (eK (.int 2))) (eV v)
def apartE : Ev D := eFz (nLc (iCall dRng1 (lCons (eCB dLen (lCons (eBin dIx (eV 0) (eK (.int 1))) lNil)) lNil)) (tgN 5) (tV (eBin dNe (eBin dIx (rowE 0 2) (eV 5)) (eBin dIx (rowE 0 3) (eV 5)))) (eV 5) [5])
def newE : Ev D := eTup (lCons (eV 2) (lCons (eV 3) (lCons (eBin dIx (eBin dIx (eV 0) (eK (.int 1))) (eBin dIx (eV 4) (eK (.int 0)))) lNil)))
def inE : Sv := sSeq (sSet 4 apartE) (sIf (tV (eBin dEq (eCB dLen (lCons (eV 4) lNil)) (eK (.int 1)))) (sExpr (eApp 1 newE)) sNop)
def lenRows : Ev D := eCB dLen (lCons (eBin dIx (eV 0) (eK (.int 2))) lNil)
theorem B_she_eq : B__law_sh_edges = sSeq (sNew 1 (nLst lNil)) (sSeq (sFor (iCall dRng1 (lCons lenRows lNil)) (tgN 2) (sFor (iCall dRng2 (lCons (eBin dAdd (eV 2) (eK (.int 1))) (lCons lenRows lNil))) (tgN 3) inE)) (sRet (eTake 1))) := rfl
def le (ws : List Str) (rs : List (List Int)) (F : List Edge) (y2 y3 y4 y5 : SV) : Ρ := [.st (cls ws rs), .ol (F.map eD), y2, y3, y4, y5]
variable {ws : List Str} {rs : List (List Int)} {F : List Edge} {y2 y3 y4 y5 : SV}
theorem lenRows_ok {ρ : Ρ} (h : svAt ρ 0 = .st (cls ws rs)) : lenRows ρ = .ok (.int (rs.length : Int)) ρ := eCB_ok (l1_ok (eBin_ok (eV_ok h) eK_ok (cls2 ws rs))) (len_tup tI rs)
theorem rowE_ok {ρ : Ρ} {i v k : Nat} (h : svAt ρ i = .st (cls ws rs)) (hv : svAt ρ v = .st (.int (k : Nat))) (hk : k < rs.length) : rowE i v ρ = .ok (tI (rs.getD k [])) ρ := eBin_ok (eBin_ok (eV_ok h) eK_ok (cls2 ws rs)) (eV_ok hv) (row_at hk)
theorem getD_row (co : COk ws rs) {k : Nat} (hk : k < rs.length) : (rs.getD k []).length = ws.length := by
  rw [List.getD_eq_getElem?_getD, List.getElem?_eq_getElem hk]
  exact (co.row _ (List.getElem_mem hk)).1
theorem inE_ok (co : COk ws rs) {i j : Nat} (hi : i < rs.length) (hj : j < rs.length) (hF : F.length ≤ 800) (h5 : y5.own = false) :
    ∃ y4', inE (le ws rs F (.st (.int (i : Nat))) (.st (.int (j : Nat))) y4 y5) = .nx (le ws rs (F ++ edge1 ws rs i j) (.st (.int (i : Nat))) (.st (.int (j : Nat))) y4' y5) := by
  have w8 := co.w.len8
  have hr := iRng (ρ := le ws rs F (.st (.int (i : Nat))) (.st (.int (j : Nat))) y4 y5) (X := eCB dLen (lCons (eBin dIx (eV 0) (eK (.int 1))) lNil)) (n := ws.length) (eCB_ok (l1_ok (eBin_ok (eV_ok rfl) eK_ok (cls1 ws rs))) (len_tup .str ws)) (by omega)
  have c := fltComp (k := 5) (te := eV 5) (tt := tV (eBin dNe (eBin dIx (rowE 0 2) (eV 5)) (eBin dIx (rowE 0 3) (eV 5)))) (List.range ws.length) (fun (i : Nat) => D.int (i : Int)) (fun (i : Nat) => D.int (i : Int)) (fun k => !decide ((rs.getD i []).getD k 0 = (rs.getD j []).getD k 0)) hr (by rw [List.length_range]; omega) h5 (fun k hk => by
    have hk' := List.mem_range.mp hk
    exact diff_test (rowE_ok rfl rfl hi) (rowE_ok rfl rfl hj) rfl (by rw [getD_row co hi]; exact hk') (by rw [getD_row co hj]; exact hk')) (fun k _ _ => eV_ok rfl)
  have f1 : sSet 4 apartE (le ws rs F (.st (.int (i : Nat))) (.st (.int (j : Nat))) y4 y5) = .nx (le ws rs F (.st (.int (i : Nat))) (.st (.int (j : Nat))) (.st (.lst ((diffs (rs.getD i []) (rs.getD j []) ws.length).map fun (i : Nat) => D.int (i : Int)))) y5) := (sSet_ok (eFz_ok c)).trans rfl
  refine ⟨.st (.lst ((diffs (rs.getD i []) (rs.getD j []) ws.length).map fun (i : Nat) => D.int (i : Int))), ?_⟩
  have sub : ∀ k ∈ diffs (rs.getD i []) (rs.getD j []) ws.length, k < ws.length := fun k hk => List.mem_range.mp (List.mem_filter.mp hk).1
  generalize hd : diffs (rs.getD i []) (rs.getD j []) ws.length = df at f1 sub
  have t := tV_ok (eBin_ok (eCB_ok (l1_ok (eV_ok (ρ := le ws rs F (.st (.int (i : Nat))) (.st (.int (j : Nat))) (.st (.lst (df.map fun (i : Nat) => D.int (i : Int)))) y5) (i := 4) rfl)) (len_lst _ df)) eK_ok (dEq_int (df.length : Int) 1))
  unfold inE edge1
  rw [sSeq_ok f1, hd]
  match df, sub, t with
  | [k], sub, t =>
    have hk := sub k (by simp)
    have i4 : dIx (.lst ([k].map fun (i : Nat) => D.int (i : Int))) (.int 0) = some (.int (k : Int)) := lst_at (k := 0) (by simp)
    have e : newE (le ws rs F (.st (.int (i : Nat))) (.st (.int (j : Nat))) (.st (.lst ([k].map fun (i : Nat) => D.int (i : Int)))) y5) = .ok (eD (i, j, ws.getD k default)) (le ws rs F (.st (.int (i : Nat))) (.st (.int (j : Nat))) (.st (.lst ([k].map fun (i : Nat) => D.int (i : Int)))) y5) := eTup_ok (ρ := le ws rs F (.st (.int (i : Nat))) (.st (.int (j : Nat))) (.st (.lst ([k].map fun (i : Nat) => D.int (i : Int)))) y5) (lCons_ok (eV_ok (i := 2) rfl) (l2_ok (eV_ok (i := 3) rfl) (eBin_ok (eBin_ok (eV_ok (i := 0) rfl) eK_ok (cls1 ws rs)) (eBin_ok (eV_ok (i := 4) rfl) eK_ok i4) (word_at hk)))) (by simp)
    rw [sIf_t (t.trans rfl), sExpr_ok (app_ok (ds := F.map eD) rfl e rfl (by rw [List.length_map]; omega))]
    show SRes.nx (List.set _ _ _) = .nx (le ws rs (F ++ [(i, j, ws.getD k default)]) _ _ _ _)
    unfold le
    rw [List.map_append]
    exact rfl
  | [], _, t =>
    rw [sIf_f (t.trans rfl), List.append_nil]
    exact rfl
  | a :: b :: r, _, t =>
    have z : decide (((a :: b :: r).length : Int) = 1) = false := decide_eq_false (by simp; omega)
    rw [sIf_f (t.trans (by rw [z])), List.append_nil]
    exact rfl
theorem P_she (co : COk ws rs) : Vl (f__law_sh_edges [.st (cls ws rs)]) (.lst ((edgesL ws rs).map eD)) := by
  have l24 := co.len24
  have inner : ∀ (F : List Edge) (i : Nat) (y3 y4 y5 : SV), i < rs.length → F.length ≤ 600 → y5.own = false → ∃ y3' y4' y5', sFor (iCall dRng2 (lCons (eBin dAdd (eV 2) (eK (.int 1))) (lCons lenRows lNil))) (tgN 3) inE (le ws rs F (.st (.int (i : Nat))) y3 y4 y5) = .nx (le ws rs (F ++ edgesI ws rs i) (.st (.int (i : Nat))) y3' y4' y5') ∧ y5'.own = false := by
    intro F i y3 y4 y5 hi hF h5
    have a1 : dAdd (.int (i : Int)) (.int 1) = some (.int ((i + 1 : Nat) : Int)) := rfl
    have hr := iCall_ok (g := dRng2) (l2_ok (eBin_ok (eV_ok (ρ := le ws rs F (.st (.int (i : Nat))) y3 y4 y5) (i := 2) rfl) eK_ok a1) (lenRows_ok (ws := ws) (rs := rs) rfl)) (rng2_ok (i := i + 1) (n := rs.length) (by omega) (by omega))
    obtain ⟨ρ', e, y3', y4', y5', hρ, h5'⟩ := forL_pre (T := tgN 3) (B := inE) (fun (t : Nat) => D.int ((i + 1 + t : Nat) : Int)) (fun done ρ => ∃ y3 y4 y5, ρ = le ws rs (F ++ done.flatMap fun t => edge1 ws rs i (i + 1 + t)) (.st (.int (i : Nat))) y3 y4 y5 ∧ y5.own = false) (List.range (rs.length - (i + 1))) (fun done t rest ρ e ⟨y3, y4, y5, hρ, h5⟩ => by
      have ht : t < rs.length - (i + 1) := List.mem_range.mp (by rw [← e]; simp)
      have hd : done.length ≤ 24 := by
        have := congrArg List.length e
        simp at this
        omega
      have fl := flat_len (fun t => edge1 ws rs i (i + 1 + t)) 1 done fun x _ => edge1_len _ _ _ _
      obtain ⟨y4', e'⟩ := inE_ok (ws := ws) (rs := rs) (F := F ++ done.flatMap fun t => edge1 ws rs i (i + 1 + t)) (y4 := y4) (y5 := y5) co hi (j := i + 1 + t) (by omega) (by rw [List.length_append]; omega) h5
      refine ⟨le ws rs (F ++ done.flatMap fun t => edge1 ws rs i (i + 1 + t)) (.st (.int (i : Nat))) (.st (.int (i + 1 + t : Nat))) y4 y5, _, congrArg some (by rw [hρ]; exact rfl), e', .st (.int (i + 1 + t : Nat)), y4', y5, ?_, h5⟩
      rw [List.flatMap_append, List.append_assoc]
      simp) (List.range (rs.length - (i + 1))) [] (le ws rs F (.st (.int (i : Nat))) y3 y4 y5) rfl ⟨y3, y4, y5, by simp, h5⟩
    exact ⟨y3', y4', y5', (sFor_ok hr).trans (e.trans (congrArg SRes.nx hρ)), h5'⟩
  have hr0 := iRng (ρ := le ws rs [] .un .un .un .un) (X := lenRows) (n := rs.length) (lenRows_ok (ws := ws) (rs := rs) rfl) (by omega)
  obtain ⟨ρ', e, y2, y3, y4, y5, hρ, _⟩ := forL_pre (T := tgN 2) (B := sFor (iCall dRng2 (lCons (eBin dAdd (eV 2) (eK (.int 1))) (lCons lenRows lNil))) (tgN 3) inE) (fun (i : Nat) => D.int (i : Int)) (fun done ρ => ∃ y2 y3 y4 y5, ρ = le ws rs (done.flatMap (edgesI ws rs)) y2 y3 y4 y5 ∧ y5.own = false) (List.range rs.length) (fun done i rest ρ e ⟨y2, y3, y4, y5, hρ, h5⟩ => by
    have hi : i < rs.length := List.mem_range.mp (by rw [← e]; simp)
    have hd : done.length ≤ 24 := by
      have := congrArg List.length e
      simp at this
      omega
    have fl := flat_len (edgesI ws rs) 24 done fun x _ => edgesI_len ws rs l24 x
    obtain ⟨y3', y4', y5', e', h5'⟩ := inner (done.flatMap (edgesI ws rs)) i y3 y4 y5 hi (by omega) h5
    refine ⟨le ws rs (done.flatMap (edgesI ws rs)) (.st (.int (i : Nat))) y3 y4 y5, _, congrArg some (by rw [hρ]; exact rfl), e', .st (.int (i : Nat)), y3', y4', y5', ?_, h5'⟩
    rw [List.flatMap_append]
    simp) (List.range rs.length) [] (le ws rs [] .un .un .un .un) rfl ⟨.un, .un, .un, .un, rfl, rfl⟩
  have f1 : sNew 1 (nLst lNil) [.st (cls ws rs), .un, .un, .un, .un, .un] = .nx (le ws rs [] .un .un .un .un) := rfl
  have fin : B__law_sh_edges [.st (cls ws rs), .un, .un, .un, .un, .un] = .rt (.lst ((edgesL ws rs).map eD)) [.st (cls ws rs), .st (.lst ((edgesL ws rs).map eD)), y2, y3, y4, y5] := by
    rw [B_she_eq, sSeq_ok f1, sSeq_ok ((sFor_ok hr0).trans (e.trans (congrArg SRes.nx hρ)))]
    exact sRet_ok (show eTake 1 (le ws rs (edgesL ws rs) y2 y3 y4 y5) = _ from rfl)
  have g : f__law_sh_edges [.st (cls ws rs)] = noEx (runDef 6 B__law_sh_edges [.st (cls ws rs)]) := rfl
  refine ⟨[.st (cls ws rs), .st (.lst ((edgesL ws rs).map eD)), y2, y3, y4, y5], ?_⟩
  rw [g]
  exact runDef_rt (n := 6) (B := B__law_sh_edges) fin
end PU.C
set_option maxHeartbeats 1000000
set_option exponentiation.threshold 5000
namespace PU.C
open PySem PySem.Spec PyProof.Rows L2 PU
/-! ### unlike, edge_list -/
theorem P_unlike {a b : List Int} (hl : a.length = b.length) (h8 : a.length ≤ 900) : Vl (f_unlike [.st (tI a), .st (tI b)]) (.lst ((diffs a b a.length).map fun (i : Nat) => D.int (i : Int))) := by
  have hr := iRng (ρ := [.st (tI a), .st (tI b), .un]) (X := eCB dLen (lCons (eV 0) lNil)) (n := a.length) (eCB_ok (l1_ok (eV_ok rfl)) (len_tup .int a)) (by omega)
  have c := fltComp (k := 2) (te := eV 2) (tt := tV (eBin dNe (eBin dIx (eV 0) (eV 2)) (eBin dIx (eV 1) (eV 2)))) (List.range a.length) (fun (i : Nat) => D.int (i : Int)) (fun (i : Nat) => D.int (i : Int)) (fun k => !decide (a.getD k 0 = b.getD k 0)) hr (by rw [List.length_range]; omega) rfl (fun k hk => by
    have hk' := List.mem_range.mp hk
    exact diff_test (eV_ok rfl) (eV_ok rfl) rfl hk' (by omega)) (fun k _ _ => eV_ok rfl)
  have fin : B_unlike [.st (tI a), .st (tI b), .un] = .rt (.lst ((diffs a b a.length).map fun (i : Nat) => D.int (i : Int))) [.st (tI a), .st (tI b), .un] := sRet_ok (eFz_ok c)
  have g : f_unlike [.st (tI a), .st (tI b)] = noEx (runDef 3 B_unlike [.st (tI a), .st (tI b)]) := rfl
  refine ⟨[.st (tI a), .st (tI b), .un], ?_⟩
  rw [g]
  exact runDef_rt (n := 3) (B := B_unlike) fin
def newL : Ev D := eTup (lCons (eV 3) (lCons (eV 4) (lCons (eBin dIx (eBin dIx (eV 0) (eK (.int 1))) (eBin dIx (eV 5) (eK (.int 0)))) lNil)))
def unE : Ev D := eCall f_unlike (lCons (eBin dIx (eV 2) (eV 3)) (lCons (eBin dIx (eV 2) (eV 4)) lNil))
def inL : Sv := sSeq (sSet 5 unE) (sIf (tV (eBin dEq (eCB dLen (lCons (eV 5) lNil)) (eK (.int 1)))) (sExpr (eApp 1 newL)) sNop)
def lenL : Ev D := eCB dLen (lCons (eV 2) lNil)
theorem B_el_eq : B_edge_list = sSeq (sParN 1 2 (nLst lNil) (eBin dIx (eV 0) (eK (.int 2)))) (sSeq (sFor (iCall dRng1 (lCons lenL lNil)) (tgN 3) (sFor (iCall dRng2 (lCons (eBin dAdd (eV 3) (eK (.int 1))) (lCons lenL lNil))) (tgN 4) inL)) (sRet (eTake 1))) := rfl
def el (ws : List Str) (rs : List (List Int)) (F : List Edge) (y3 y4 y5 : SV) : Ρ := [.st (cls ws rs), .ol (F.map eD), .st (.tup (rs.map tI)), y3, y4, y5]
variable {ws : List Str} {rs : List (List Int)} {F : List Edge} {y3 y4 y5 : SV}
theorem lenL_ok {ρ : Ρ} (h : svAt ρ 2 = .st (.tup (rs.map tI))) : lenL ρ = .ok (.int (rs.length : Int)) ρ := eCB_ok (l1_ok (eV_ok h)) (len_tup tI rs)
theorem inL_ok (co : COk ws rs) {i j : Nat} (hi : i < rs.length) (hj : j < rs.length) (hF : F.length ≤ 800) :
    ∃ y5', inL (el ws rs F (.st (.int (i : Nat))) (.st (.int (j : Nat))) y5) = .nx (el ws rs (F ++ edge1 ws rs i j) (.st (.int (i : Nat))) (.st (.int (j : Nat))) y5') := by
  have w8 := co.w.len8
  have u := P_unlike (a := rs.getD i []) (b := rs.getD j []) (by rw [getD_row co hi, getD_row co hj]) (by rw [getD_row co hi]; omega)
  rw [getD_row co hi] at u
  have c : unE (el ws rs F (.st (.int (i : Nat))) (.st (.int (j : Nat))) y5) = .ok (.lst ((diffs (rs.getD i []) (rs.getD j []) ws.length).map fun (i : Nat) => D.int (i : Int))) (el ws rs F (.st (.int (i : Nat))) (.st (.int (j : Nat))) y5) :=
    eCall_ok (l2_ok (eBin_ok (eV_ok rfl) (eV_ok rfl) (row_at hi)) (eBin_ok (eV_ok rfl) (eV_ok rfl) (row_at hj))) u
  have f1 : sSet 5 unE (el ws rs F (.st (.int (i : Nat))) (.st (.int (j : Nat))) y5) = .nx (el ws rs F (.st (.int (i : Nat))) (.st (.int (j : Nat))) (.st (.lst ((diffs (rs.getD i []) (rs.getD j []) ws.length).map fun (i : Nat) => D.int (i : Int))))) := (sSet_ok c).trans rfl
  refine ⟨.st (.lst ((diffs (rs.getD i []) (rs.getD j []) ws.length).map fun (i : Nat) => D.int (i : Int))), ?_⟩
  have sub : ∀ k ∈ diffs (rs.getD i []) (rs.getD j []) ws.length, k < ws.length := fun k hk => List.mem_range.mp (List.mem_filter.mp hk).1
  generalize hd : diffs (rs.getD i []) (rs.getD j []) ws.length = df at f1 sub
  have t := tV_ok (eBin_ok (eCB_ok (l1_ok (eV_ok (ρ := el ws rs F (.st (.int (i : Nat))) (.st (.int (j : Nat))) (.st (.lst (df.map fun (i : Nat) => D.int (i : Int))))) (i := 5) rfl)) (len_lst _ df)) eK_ok (dEq_int (df.length : Int) 1))
  unfold inL edge1
  rw [sSeq_ok f1, hd]
  match df, sub, t with
  | [k], sub, t =>
    have hk := sub k (by simp)
    have i4 : dIx (.lst ([k].map fun (i : Nat) => D.int (i : Int))) (.int 0) = some (.int (k : Int)) := lst_at (k := 0) (by simp)
    have e : newL (el ws rs F (.st (.int (i : Nat))) (.st (.int (j : Nat))) (.st (.lst ([k].map fun (i : Nat) => D.int (i : Int))))) = .ok (eD (i, j, ws.getD k default)) (el ws rs F (.st (.int (i : Nat))) (.st (.int (j : Nat))) (.st (.lst ([k].map fun (i : Nat) => D.int (i : Int))))) :=
      eTup_ok (lCons_ok (eV_ok (i := 3) rfl) (l2_ok (eV_ok (i := 4) rfl) (eBin_ok (eBin_ok (eV_ok (i := 0) rfl) eK_ok (cls1 ws rs)) (eBin_ok (eV_ok (i := 5) rfl) eK_ok i4) (word_at hk)))) (by simp)
    rw [sIf_t (t.trans rfl), sExpr_ok (app_ok (ds := F.map eD) rfl e rfl (by rw [List.length_map]; omega))]
    show SRes.nx (List.set _ _ _) = .nx (el ws rs (F ++ [(i, j, ws.getD k default)]) _ _ _)
    unfold el
    rw [List.map_append]
    exact rfl
  | [], _, t =>
    rw [sIf_f (t.trans rfl), List.append_nil]
    exact rfl
  | a :: b :: r, _, t =>
    have z : decide (((a :: b :: r).length : Int) = 1) = false := decide_eq_false (by simp; omega)
    rw [sIf_f (t.trans (by rw [z])), List.append_nil]
    exact rfl
theorem P_edge_list (co : COk ws rs) : Vl (f_edge_list [.st (cls ws rs)]) (.lst ((edgesL ws rs).map eD)) := by
  have l24 := co.len24
  have inner : ∀ (F : List Edge) (i : Nat) (y4 y5 : SV), i < rs.length → F.length ≤ 600 → ∃ y4' y5', sFor (iCall dRng2 (lCons (eBin dAdd (eV 3) (eK (.int 1))) (lCons lenL lNil))) (tgN 4) inL (el ws rs F (.st (.int (i : Nat))) y4 y5) = .nx (el ws rs (F ++ edgesI ws rs i) (.st (.int (i : Nat))) y4' y5') := by
    intro F i y4 y5 hi hF
    have a1 : dAdd (.int (i : Int)) (.int 1) = some (.int ((i + 1 : Nat) : Int)) := rfl
    have hr := iCall_ok (g := dRng2) (l2_ok (eBin_ok (eV_ok (ρ := el ws rs F (.st (.int (i : Nat))) y4 y5) (i := 3) rfl) eK_ok a1) (lenL_ok (rs := rs) rfl)) (rng2_ok (i := i + 1) (n := rs.length) (by omega) (by omega))
    obtain ⟨ρ', e, y4', y5', hρ⟩ := forL_pre (T := tgN 4) (B := inL) (fun (t : Nat) => D.int ((i + 1 + t : Nat) : Int)) (fun done ρ => ∃ y4 y5, ρ = el ws rs (F ++ done.flatMap fun t => edge1 ws rs i (i + 1 + t)) (.st (.int (i : Nat))) y4 y5) (List.range (rs.length - (i + 1))) (fun done t rest ρ e ⟨y4, y5, hρ⟩ => by
      have ht : t < rs.length - (i + 1) := List.mem_range.mp (by rw [← e]; simp)
      have hd : done.length ≤ 24 := by
        have := congrArg List.length e
        simp at this
        omega
      have fl := flat_len (fun t => edge1 ws rs i (i + 1 + t)) 1 done fun x _ => edge1_len _ _ _ _
      obtain ⟨y5', e'⟩ := inL_ok (ws := ws) (rs := rs) (F := F ++ done.flatMap fun t => edge1 ws rs i (i + 1 + t)) (y5 := y5) co hi (j := i + 1 + t) (by omega) (by rw [List.length_append]; omega)
      refine ⟨el ws rs (F ++ done.flatMap fun t => edge1 ws rs i (i + 1 + t)) (.st (.int (i : Nat))) (.st (.int (i + 1 + t : Nat))) y5, _, congrArg some (by rw [hρ]; exact rfl), e', .st (.int (i + 1 + t : Nat)), y5', ?_⟩
      rw [List.flatMap_append, List.append_assoc]
      simp) (List.range (rs.length - (i + 1))) [] (el ws rs F (.st (.int (i : Nat))) y4 y5) rfl ⟨y4, y5, by simp⟩
    exact ⟨y4', y5', (sFor_ok hr).trans (e.trans (congrArg SRes.nx hρ))⟩
  have hr0 := iRng (ρ := el ws rs [] .un .un .un) (X := lenL) (n := rs.length) (lenL_ok (rs := rs) rfl) (by omega)
  obtain ⟨ρ', e, y3, y4, y5, hρ⟩ := forL_pre (T := tgN 3) (B := sFor (iCall dRng2 (lCons (eBin dAdd (eV 3) (eK (.int 1))) (lCons lenL lNil))) (tgN 4) inL) (fun (i : Nat) => D.int (i : Int)) (fun done ρ => ∃ y3 y4 y5, ρ = el ws rs (done.flatMap (edgesI ws rs)) y3 y4 y5) (List.range rs.length) (fun done i rest ρ e ⟨y3, y4, y5, hρ⟩ => by
    have hi : i < rs.length := List.mem_range.mp (by rw [← e]; simp)
    have hd : done.length ≤ 24 := by
      have := congrArg List.length e
      simp at this
      omega
    have fl := flat_len (edgesI ws rs) 24 done fun x _ => edgesI_len ws rs l24 x
    obtain ⟨y4', y5', e'⟩ := inner (done.flatMap (edgesI ws rs)) i y4 y5 hi (by omega)
    refine ⟨el ws rs (done.flatMap (edgesI ws rs)) (.st (.int (i : Nat))) y4 y5, _, congrArg some (by rw [hρ]; exact rfl), e', .st (.int (i : Nat)), y4', y5', ?_⟩
    rw [List.flatMap_append]
    simp) (List.range rs.length) [] (el ws rs [] .un .un .un) rfl ⟨.un, .un, .un, rfl⟩
  have f1 : sParN 1 2 (nLst lNil) (eBin dIx (eV 0) (eK (.int 2))) [.st (cls ws rs), .un, .un, .un, .un, .un] = .nx (el ws rs [] .un .un .un) := by
    have z := eBin_ok (eV_ok (ρ := [.st (cls ws rs), .un, .un, .un, .un, .un]) (i := 0) rfl) eK_ok (cls2 ws rs)
    have n0 : nLst lNil [.st (cls ws rs), .un, .un, .un, .un, .un] = .ok [] [.st (cls ws rs), .un, .un, .un, .un, .un] := rfl
    unfold sParN
    rw [n0]
    simp only [ofE, z, noEx]
    exact rfl
  have fin : B_edge_list [.st (cls ws rs), .un, .un, .un, .un, .un] = .rt (.lst ((edgesL ws rs).map eD)) [.st (cls ws rs), .st (.lst ((edgesL ws rs).map eD)), .st (.tup (rs.map tI)), y3, y4, y5] := by
    rw [B_el_eq, sSeq_ok f1, sSeq_ok ((sFor_ok hr0).trans (e.trans (congrArg SRes.nx hρ)))]
    exact sRet_ok (show eTake 1 (el ws rs (edgesL ws rs) y3 y4 y5) = _ from rfl)
  have g : f_edge_list [.st (cls ws rs)] = noEx (runDef 6 B_edge_list [.st (cls ws rs)]) := rfl
  refine ⟨[.st (cls ws rs), .st (.lst ((edgesL ws rs).map eD)), .st (.tup (rs.map tI)), y3, y4, y5], ?_⟩
  rw [g]
  exact runDef_rt (n := 6) (B := B_edge_list) fin
end PU.C
set_option maxHeartbeats 1000000
set_option exponentiation.threshold 5000
namespace PU.C
open PySem PySem.Spec PyProof.Rows L2 PU
/-! ### equal to itself; in -/
theorem deq_refl {d : D} (h : okd 60 d = true) : deq d d = true := SeqAt.eqv_refl _ (okd_ok 60 d h).1
theorem dNe_refl {d : D} (h : okd 60 d = true) : dNe d d = some (.bl false) := by
  unfold dNe
  rw [h, deq_refl h]
  rfl
theorem dEq_nil {L : List Int} (h : L ≠ []) : dEq (tI L) (.tup []) = some (.bl false) := by
  have o1 : okd 60 (tI L) = true := okd_ints 59 L
  have o2 : okd 60 (.tup []) = true := rfl
  unfold dEq
  rw [o1, o2]
  cases L with
  | nil => exact absurd rfl h
  | cons a b => rfl
theorem dNe_nilT (L : List Int) : dNe (tI L) (.tup []) = some (.bl (!L.isEmpty)) := by
  have o1 : okd 60 (tI L) = true := okd_ints 59 L
  have o2 : okd 60 (.tup []) = true := rfl
  unfold dNe
  rw [o1, o2]
  cases L with
  | nil => rfl
  | cons a b => rfl
theorem memD_int (x : Int) (ys : List Int) : memD (.int x) (ys.map .int) = decide (x ∈ ys) := by
  unfold memD
  induction ys with
  | nil => rfl
  | cons y ys ih =>
    simp only [List.map_cons, List.any_cons, ih, deq_int]
    by_cases h : x = y
    · subst h; simp
    · have h' : ¬ y = x := fun e => h e.symm
      simp [h, h', List.mem_cons]
theorem dIn_ints (x : Int) (ys : List Int) : dIn (.int x) (tI ys) = some (.bl (decide (x ∈ ys))) := by
  have o1 : okd 59 (.int x) = true := okd_int x 58
  have o2 : (ys.map D.int).all (okd 59) = true := by
    simp only [List.all_map, List.all_eq_true]
    exact fun y _ => okd_int y 58
  show (if okd 59 (.int x) && (ys.map D.int).all (okd 59) then some (D.bl (memD (.int x) (ys.map .int))) else none) = _
  rw [o1, o2, memD_int]
  rfl
/-! ### comprehensions with targets of more names -/
/-- [e for .. in xs if ..], whatever the target -/
theorem fltT {α : Type} {ρ ρ1 : Ρ} {I : Ev (List D)} {T : D → Ρ → Option Ρ} {tt : Ev Bool} {te : Ev D} {vs : List Nat} (xs : List α) (f g : α → D) (p : α → Bool) (hI : I ρ = .ok (xs.map f) ρ1) (hz : xs.length ≤ 1000) (hf : stFree ρ1 vs = true)
    (hs : ∀ x ∈ xs, ∃ τ, T (f x) (wipeP ρ1 vs) = some τ ∧ tt τ = .ok (p x) τ ∧ te τ = .ok (g x) τ ∧ wipeP τ vs = wipeP ρ1 vs) : nLc I T tt te vs ρ = .ok ((xs.filter p).map g) ρ1 := by
  rw [← fm_filter]
  refine nLc_fm xs f (fun x => if p x = true then some (g x) else none) hI hf (fun x hx => ?_) (small hz)
  obtain ⟨τ, h1, h2, h3, h4⟩ := hs x hx
  cases hp : p x with
  | true =>
    rw [hp] at h2
    simp only [lcStep, h1, h2, noEx, Res.bind, if_true, h3, h4]
  | false =>
    rw [hp] at h2
    simp only [lcStep, h1, h2, noEx, Res.bind, Bool.false_eq_true, if_false, h4]
theorem flt_true {α : Type} (xs : List α) : xs.filter (fun _ => true) = xs := by simp
variable {ws : List Str} {rs : List (List Int)} {c : Cls0}
/-! ### a good class is taken -/
theorem P_need_class (co : COk ws rs) : Vl (f_need_class c [.st (cls ws rs)]) .non := by
  have e : tNotF (tV (eCall f_is_class (lCons (eV 0) lNil))) [.st (cls ws rs)] = .ok false [.st (cls ws rs)] := tNot_ok (tV_ok (eCall_ok (l1_ok (eV_ok rfl)) (P_is_class co)))
  have fin : B_need_class c [.st (cls ws rs)] = .nx [.st (cls ws rs)] := (sIf_f e).trans sNop_ok
  refine ⟨[.st (cls ws rs)], ?_⟩
  show (match B_need_class c [.st (cls ws rs)] with | .rt d ρ => Res.ok d ρ | .nx ρ => .ok .non ρ | .ex x ρ => .ex x ρ | _ => .bad) = _
  rw [fin]
theorem P_edges (co : COk ws rs) : Vl (f_edges c [.st (cls ws rs)]) (.tup ((edgesL ws rs).map eD)) := by
  have f1 : sExpr (eCall (f_need_class c) (lCons (eV 0) lNil)) [.st (cls ws rs)] = .nx [.st (cls ws rs)] := sExpr_ok (eCall_ok (l1_ok (eV_ok rfl)) (P_need_class co))
  have fin : B_edges c [.st (cls ws rs)] = .rt (.tup ((edgesL ws rs).map eD)) [.st (cls ws rs)] := (sSeq_ok f1).trans (sRet_ok (eCB_ok (l1_ok (eCall_ok (l1_ok (eV_ok rfl)) (P_edge_list co))) rfl))
  refine ⟨[.st (cls ws rs)], ?_⟩
  show (match B_edges c [.st (cls ws rs)] with | .rt d ρ => Res.ok d ρ | .nx ρ => .ok .non ρ | .ex x ρ => .ex x ρ | _ => .bad) = _
  rw [fin]
def pD (e : Edge) : D := tI [(e.1 : Int), (e.2.1 : Int)]
theorem edges_len (co : COk ws rs) : (edgesL ws rs).length ≤ 576 := by
  have l24 := co.len24
  have := flat_len (edgesI ws rs) 24 (List.range rs.length) fun x _ => edgesI_len ws rs l24 x
  rw [List.length_range] at this
  unfold edgesL
  omega
theorem P_pairs (co : COk ws rs) : Vl (f_pairs_of [.st (cls ws rs)]) (.lst ((edgesL ws rs).map pD)) := by
  have ce : eCall f_edge_list (lCons (eV 0) lNil) [.st (cls ws rs), .un, .un, .un] = .ok (.lst ((edgesL ws rs).map eD)) [.st (cls ws rs), .un, .un, .un] := eCall_ok (l1_ok (eV_ok rfl)) (P_edge_list co)
  have el := edges_len co
  have k := fltT (I := iAny (eCall f_edge_list (lCons (eV 0) lNil))) (T := tgT [1, 2, 3]) (tt := tYesF) (te := eTup (lCons (eV 1) (lCons (eV 2) lNil))) (vs := [1, 2, 3]) (ρ := [.st (cls ws rs), .un, .un, .un]) (ρ1 := [.st (cls ws rs), .un, .un, .un]) (edgesL ws rs) eD pD (fun _ => true) (iAny_lst ce) (by omega) rfl fun e _ =>
    ⟨[.st (cls ws rs), .st (.int (e.1 : Int)), .st (.int (e.2.1 : Int)), .st (.str e.2.2)], rfl, rfl, eTup_ok (l2_ok (eV_ok rfl) (eV_ok rfl)) (by simp), rfl⟩
  rw [flt_true] at k
  have fin : B_pairs_of [.st (cls ws rs), .un, .un, .un] = .rt (.lst ((edgesL ws rs).map pD)) [.st (cls ws rs), .un, .un, .un] := sRet_ok (eFz_ok k)
  have g : f_pairs_of [.st (cls ws rs)] = noEx (runDef 4 B_pairs_of [.st (cls ws rs)]) := rfl
  refine ⟨[.st (cls ws rs), .un, .un, .un], ?_⟩
  rw [g]
  exact runDef_rt (n := 4) (B := B_pairs_of) fin
end PU.C
set_option maxHeartbeats 1000000
set_option exponentiation.threshold 5000
namespace PU.C
open PySem PySem.Spec PyProof.Rows L2 PU
variable {ws : List Str} {rs : List (List Int)} {c : Cls0}
/-! ### edges_at -/
theorem P_need_row {C : D} {k : Nat} (hk : k < rs.length) (w : Str) : Vl (f_need_row c [.st (cls ws rs), .st (.int (k : Nat)), .st (.str w)]) .non := by
  have e1 : tNotF (tV (eCall f_is_whole (lCons (eV 1) lNil))) [.st (cls ws rs), .st (.int (k : Nat)), .st (.str w)] = .ok false [.st (cls ws rs), .st (.int (k : Nat)), .st (.str w)] := tNot_ok (tV_ok (eCall_ok (l1_ok (eV_ok rfl)) (P_is_whole (.int (k : Nat)) (by simp [tyN]))))
  have d1 : dLe (.int 0) (.int (k : Int)) = some (.bl true) := by
    show some (D.bl (decide ((0 : Int) ≤ (k : Int)))) = _
    rw [decide_eq_true (by omega)]
  have d2 : dLt (.int (k : Int)) (.int (rs.length : Int)) = some (.bl true) := by
    show some (D.bl (decide ((k : Int) < (rs.length : Int)))) = _
    rw [decide_eq_true (by omega)]
  have l := lenRows_ok (ws := ws) (rs := rs) (ρ := [.st (cls ws rs), .st (.int (k : Nat)), .st (.str w)]) rfl
  have e2 : tV (eChain dLe dLt (eK (.int 0)) (eV 1) lenRows) [.st (cls ws rs), .st (.int (k : Nat)), .st (.str w)] = .ok true [.st (cls ws rs), .st (.int (k : Nat)), .st (.str w)] := by
    have v1 : eV 1 [.st (cls ws rs), .st (.int (k : Nat)), .st (.str w)] = .ok (.int (k : Nat)) [.st (cls ws rs), .st (.int (k : Nat)), .st (.str w)] := eV_ok rfl
    refine tV_ok ?_
    simp only [eChain, eK, Res.bind, v1, d1, lift, l, d2]
  have fin : B_need_row c [.st (cls ws rs), .st (.int (k : Nat)), .st (.str w)] = .nx [.st (cls ws rs), .st (.int (k : Nat)), .st (.str w)] := (sIf_f ((tOr_f e1).trans (tNot_ok e2))).trans sNop_ok
  refine ⟨[.st (cls ws rs), .st (.int (k : Nat)), .st (.str w)], ?_⟩
  show (match B_need_row c [.st (cls ws rs), .st (.int (k : Nat)), .st (.str w)] with | .rt d ρ => Res.ok d ρ | .nx ρ => .ok .non ρ | .ex x ρ => .ex x ρ | _ => .bad) = _
  rw [fin]
/-- the numbers of the edges at a row -/
def atL (E : List Edge) (k : Nat) : List Int := (E.zipIdx.filter fun q => decide ((k : Int) ∈ [(q.1.1 : Int), (q.1.2.1 : Int)])).map fun q => (q.2 : Int)
theorem enum_map (f : Edge → D) (E : List Edge) : enumD (E.map f) = E.zipIdx.map fun q => D.tup [.int (q.2 : Int), f q.1] := by
  unfold enumD
  rw [List.mapIdx_eq_zipIdx_map, List.zipIdx_map, List.map_map]
  exact rfl
theorem P_edges_at (co : COk ws rs) {k : Nat} (hk : k < rs.length) : Vl (f_edges_at c [.st (cls ws rs), .st (.int (k : Nat))]) (tI (atL (edgesL ws rs) k)) := by
  have el := edges_len co
  have f1 : sExpr (eCall (f_need_class c) (lCons (eV 0) lNil)) [.st (cls ws rs), .st (.int (k : Nat)), .un, .un] = .nx [.st (cls ws rs), .st (.int (k : Nat)), .un, .un] := sExpr_ok (eCall_ok (l1_ok (eV_ok rfl)) (P_need_class co))
  have f2 : sExpr (eCall (f_need_row c) (lCons (eV 0) (lCons (eV 1) (lCons (eK (.str "number")) lNil)))) [.st (cls ws rs), .st (.int (k : Nat)), .un, .un] = .nx [.st (cls ws rs), .st (.int (k : Nat)), .un, .un] := sExpr_ok (eCall_ok (lCons_ok (eV_ok rfl) (l2_ok (eV_ok rfl) eK_ok)) (P_need_row (C := .non) hk "number"))
  have ce : iCall dEnum (lCons (eCall f_pairs_of (lCons (eV 0) lNil)) lNil) [.st (cls ws rs), .st (.int (k : Nat)), .un, .un] = .ok ((edgesL ws rs).zipIdx.map fun q => D.tup [.int (q.2 : Int), pD q.1]) [.st (cls ws rs), .st (.int (k : Nat)), .un, .un] :=
    iCall_ok (l1_ok (eCall_ok (l1_ok (eV_ok rfl)) (P_pairs co))) (by show some (enumD _) = _; rw [enum_map])
  have kk := fltT (I := iCall dEnum (lCons (eCall f_pairs_of (lCons (eV 0) lNil)) lNil)) (T := tgT [2, 3]) (tt := tV (eBin dIn (eV 1) (eV 3))) (te := eV 2) (vs := [2, 3]) (ρ := [.st (cls ws rs), .st (.int (k : Nat)), .un, .un]) (ρ1 := [.st (cls ws rs), .st (.int (k : Nat)), .un, .un]) (edgesL ws rs).zipIdx (fun q => D.tup [.int (q.2 : Int), pD q.1]) (fun q => D.int (q.2 : Int)) (fun q => decide ((k : Int) ∈ [(q.1.1 : Int), (q.1.2.1 : Int)])) ce (by rw [List.length_zipIdx]; omega) rfl fun q _ =>
    ⟨[.st (cls ws rs), .st (.int (k : Nat)), .st (.int (q.2 : Int)), .st (pD q.1)], rfl, tV_ok (eBin_ok (eV_ok rfl) (eV_ok rfl) (dIn_ints (k : Int) _)), eV_ok rfl, rfl⟩
  have fin : B_edges_at c [.st (cls ws rs), .st (.int (k : Nat)), .un, .un] = .rt (tI (atL (edgesL ws rs) k)) [.st (cls ws rs), .st (.int (k : Nat)), .un, .un] := by
    refine (sSeq_ok f1).trans ((sSeq_ok f2).trans (sRet_ok (eCB_ok (l1_ok (eFz_ok kk)) ?_)))
    show some (D.tup _) = some (tI _)
    unfold tI atL
    rw [List.map_map]
    exact rfl
  refine ⟨[.st (cls ws rs), .st (.int (k : Nat)), .un, .un], ?_⟩
  show (match B_edges_at c [.st (cls ws rs), .st (.int (k : Nat)), .un, .un] with | .rt d ρ => Res.ok d ρ | .nx ρ => .ok .non ρ | .ex x ρ => .ex x ρ | _ => .bad) = _
  rw [fin]
/-! ### within, _law_lo_within -/
def inB (L : List Int) (e : Edge) : Bool := decide ((e.1 : Int) ∈ L) && decide ((e.2.1 : Int) ∈ L)
theorem and_ok {t u : Ev Bool} {ρ : Ρ} {a b : Bool} (h1 : t ρ = .ok a ρ) (h2 : u ρ = .ok b ρ) : tAndF t u ρ = .ok (a && b) ρ := by
  cases a with
  | true => rw [tAnd_t h1, h2, Bool.true_and]
  | false => rw [tAnd_f h1, Bool.false_and]
theorem P_within (E : List Edge) (L : List Int) (hE : E.length ≤ 900) : Vl (f_within [.st (.lst (E.map pD)), .st (tI L)]) (.int ((E.filter (inB L)).length : Int)) := by
  have kk := fltT (I := iAny (eV 0)) (T := tgT [2, 3]) (tt := tAndF (tV (eBin dIn (eV 2) (eV 1))) (tV (eBin dIn (eV 3) (eV 1)))) (te := eK (.int 1)) (vs := [2, 3]) (ρ := [.st (.lst (E.map pD)), .st (tI L), .un, .un]) (ρ1 := [.st (.lst (E.map pD)), .st (tI L), .un, .un]) E pD (fun _ => D.int 1) (inB L) (iAny_lst (eV_ok rfl)) (by omega) rfl fun e _ =>
    ⟨[.st (.lst (E.map pD)), .st (tI L), .st (.int (e.1 : Int)), .st (.int (e.2.1 : Int))], rfl, and_ok (tV_ok (eBin_ok (eV_ok rfl) (eV_ok rfl) (dIn_ints _ L))) (tV_ok (eBin_ok (eV_ok rfl) (eV_ok rfl) (dIn_ints _ L))), rfl, rfl⟩
  have fin : B_within [.st (.lst (E.map pD)), .st (tI L), .un, .un] = .rt (.int ((E.filter (inB L)).length : Int)) [.st (.lst (E.map pD)), .st (tI L), .un, .un] := sRet_ok (eCB_ok (l1_ok (eFz_ok kk)) (len_lst _ _))
  have g : f_within [.st (.lst (E.map pD)), .st (tI L)] = noEx (runDef 4 B_within [.st (.lst (E.map pD)), .st (tI L)]) := rfl
  refine ⟨[.st (.lst (E.map pD)), .st (tI L), .un, .un], ?_⟩
  rw [g]
  exact runDef_rt (n := 4) (B := B_within) fin
theorem P_lo_within (E : List Edge) (L : List Int) (hE : E.length ≤ 900) : Vl (f__law_lo_within [.st (.lst (E.map eD)), .st (tI L)]) (.int ((E.filter (inB L)).length : Int)) := by
  have kk := fltT (I := iAny (eV 0)) (T := tgN 2) (tt := tAndF (tV (eBin dIn (eBin dIx (eV 2) (eK (.int 0))) (eV 1))) (tV (eBin dIn (eBin dIx (eV 2) (eK (.int 1))) (eV 1)))) (te := eK (.int 1)) (vs := [2]) (ρ := [.st (.lst (E.map eD)), .st (tI L), .un]) (ρ1 := [.st (.lst (E.map eD)), .st (tI L), .un]) E eD (fun _ => D.int 1) (inB L) (iAny_lst (eV_ok rfl)) (by omega) rfl fun e _ =>
    ⟨[.st (.lst (E.map eD)), .st (tI L), .st (eD e)], rfl, and_ok (tV_ok (eBin_ok (eBin_ok (eV_ok rfl) eK_ok (show dIx (eD e) (.int 0) = some (.int (e.1 : Int)) from atI3.1)) (eV_ok rfl) (dIn_ints _ L))) (tV_ok (eBin_ok (eBin_ok (eV_ok rfl) eK_ok (show dIx (eD e) (.int 1) = some (.int (e.2.1 : Int)) from atI3.2.1)) (eV_ok rfl) (dIn_ints _ L))), rfl, rfl⟩
  have fin : B__law_lo_within [.st (.lst (E.map eD)), .st (tI L), .un] = .rt (.int ((E.filter (inB L)).length : Int)) [.st (.lst (E.map eD)), .st (tI L), .un] := sRet_ok (eCB_ok (l1_ok (eFz_ok kk)) (len_lst _ _))
  have g : f__law_lo_within [.st (.lst (E.map eD)), .st (tI L)] = noEx (runDef 3 B__law_lo_within [.st (.lst (E.map eD)), .st (tI L)]) := rfl
  refine ⟨[.st (.lst (E.map eD)), .st (tI L), .un], ?_⟩
  rw [g]
  exact runDef_rt (n := 3) (B := B__law_lo_within) fin
/-! ### is_lot, edges_within -/
/-- a lot of rows' numbers -/
structure Lot (n : Nat) (L : List Nat) : Prop where
  ne : L ≠ []
  lt : ∀ x ∈ L, x < n
  asc : L.Pairwise (· < ·)
  len : L.length ≤ 24
def nI (L : List Nat) : List Int := L.map fun (x : Nat) => (x : Int)
theorem nI_map (L : List Nat) : (nI L).map D.int = L.map fun (x : Nat) => D.int (x : Int) := by
  unfold nI
  rw [List.map_map]
  exact rfl
theorem P_is_lot {L : List Nat} (h : Lot rs.length L) : Vl (f_is_lot [.st (cls ws rs), .st (tI (nI L))]) (.bl true) := by
  have hl := h.len
  have hne : nI L ≠ [] := by
    intro e
    have : L = [] := by simpa [nI] using e
    exact h.ne this
  have v1 : ∀ {ρ : Ρ}, svAt ρ 1 = .st (tI (nI L)) → iAny (eV 1) ρ = .ok (L.map fun (x : Nat) => D.int (x : Int)) ρ := fun h => by
    rw [← nI_map]
    exact iAny_tup (eV_ok h)
  have c1 := itmComp (k := 4) (ρ := [.st (cls ws rs), .st (tI (nI L)), .un, .un, .un]) (ρ1 := [.st (cls ws rs), .st (tI (nI L)), .un, .un, .un]) (I := iAny (eV 1)) (te := eCall f_is_whole (lCons (eV 4) lNil)) L (fun (x : Nat) => D.int (x : Int)) (fun _ => D.bl true) (v1 rfl) (by omega) rfl fun x _ => eCall_ok (l1_ok (eV_ok rfl)) (P_is_whole (.int (x : Int)) (by simp [tyN]))
  have a1 : dAll [.lst (L.map fun _ => D.bl true)] = some (.bl true) := by
    rw [dAll_bls L fun _ => true]
    simp
  have d1 : ∀ x ∈ L, dLe (.int 0) (.int (x : Int)) = some (.bl true) := fun x hx => by
    show some (D.bl (decide ((0 : Int) ≤ (x : Int)))) = _
    rw [decide_eq_true (by omega)]
  have d2 : ∀ x ∈ L, dLt (.int (x : Int)) (.int (rs.length : Int)) = some (.bl true) := fun x hx => by
    have := h.lt x hx
    show some (D.bl (decide ((x : Int) < (rs.length : Int)))) = _
    rw [decide_eq_true (by omega)]
  have c2 := itmComp (k := 4) (ρ := [.st (cls ws rs), .st (tI (nI L)), .un, .un, .un]) (ρ1 := [.st (cls ws rs), .st (tI (nI L)), .un, .un, .un]) (I := iAny (eV 1)) (te := eChain dLe dLt (eK (.int 0)) (eV 4) lenRows) L (fun (x : Nat) => D.int (x : Int)) (fun _ => D.bl true) (v1 rfl) (by omega) rfl fun x hx => by
    have v4 : eV 4 (List.set [.st (cls ws rs), .st (tI (nI L)), .un, .un, .un] 4 (.st (.int (x : Int)))) = .ok (.int (x : Int)) (List.set [.st (cls ws rs), .st (tI (nI L)), .un, .un, .un] 4 (.st (.int (x : Int)))) := eV_ok rfl
    have l := lenRows_ok (ws := ws) (rs := rs) (ρ := List.set [.st (cls ws rs), .st (tI (nI L)), .un, .un, .un] 4 (.st (.int (x : Int)))) rfl
    simp only [eChain, eK, Res.bind, v4, d1 x hx, lift, l, d2 x hx]
  have zp : iCall dZip (lCons (eV 1) (lCons (eSl (eV 1) (poS (eK (.int 1))) poN) lNil)) [.st (cls ws rs), .st (tI (nI L)), .un, .un, .un] = .ok ((L.zip L.tail).map fun q => D.tup [.int (q.1 : Int), .int (q.2 : Int)]) [.st (cls ws rs), .st (tI (nI L)), .un, .un, .un] := by
    refine iCall_ok (l2_ok (eV_ok rfl) (eSl_ok (eV_ok rfl) (poS_ok eK_ok) poN_ok (tI_drop (nI L) 1))) ?_
    show some (zipD ((nI L).map .int) (((nI L).drop 1).map .int)) = _
    unfold zipD nI
    rw [List.drop_one, ← List.map_tail, List.map_map, List.map_map, List.zip_map, List.map_map]
    exact rfl
  have c3 := fltT (I := iCall dZip (lCons (eV 1) (lCons (eSl (eV 1) (poS (eK (.int 1))) poN) lNil))) (T := tgT [2, 3]) (tt := tYesF) (te := eBin dLt (eV 2) (eV 3)) (vs := [2, 3]) (ρ := [.st (cls ws rs), .st (tI (nI L)), .un, .un, .un]) (ρ1 := [.st (cls ws rs), .st (tI (nI L)), .un, .un, .un]) (L.zip L.tail) (fun q => D.tup [.int (q.1 : Int), .int (q.2 : Int)]) (fun q => D.bl true) (fun _ => true) zp (by rw [List.length_zip]; omega) rfl fun q hq =>
    ⟨[.st (cls ws rs), .st (tI (nI L)), .st (.int (q.1 : Int)), .st (.int (q.2 : Int)), .un], rfl, rfl, eBin_ok (eV_ok rfl) (eV_ok rfl) (by
      have := pair_zip (R := fun (a b : Nat) => a < b) L h.asc q hq
      show some (D.bl (decide ((q.1 : Int) < (q.2 : Int)))) = _
      rw [decide_eq_true (by omega)]), rfl⟩
  rw [flt_true] at c3
  have a3 : dAll [.lst ((L.zip L.tail).map fun _ => D.bl true)] = some (.bl true) := by
    rw [dAll_bls (L.zip L.tail) fun _ => true]
    simp
  have t1 : tNotF (tV (eUn (dIsi "tuple") (eV 1))) [.st (cls ws rs), .st (tI (nI L)), .un, .un, .un] = .ok false [.st (cls ws rs), .st (tI (nI L)), .un, .un, .un] := tNot_ok (tV_ok (eUn_ok (eV_ok rfl) (show dIsi "tuple" (tI (nI L)) = some (.bl true) from rfl)))
  have t2 : tV (eBin dEq (eV 1) (eTup lNil)) [.st (cls ws rs), .st (tI (nI L)), .un, .un, .un] = .ok false [.st (cls ws rs), .st (tI (nI L)), .un, .un, .un] := tV_ok (eBin_ok (eV_ok rfl) (eTup_ok lNil_ok (by simp)) (dEq_nil hne))
  have t3 := tNot_ok (tV_ok (eCB_ok (l1_ok (eFz_ok c1)) a1))
  have t4 := tNot_ok (tV_ok (eCB_ok (l1_ok (eFz_ok c2)) a1))
  have fin : B_is_lot [.st (cls ws rs), .st (tI (nI L)), .un, .un, .un] = .rt (.bl true) [.st (cls ws rs), .st (tI (nI L)), .un, .un, .un] :=
    (sSeq_ok ((sIf_f ((tOr_f t1).trans ((tOr_f t2).trans t3))).trans sNop_ok)).trans ((sSeq_ok ((sIf_f t4).trans sNop_ok)).trans (sRet_ok (eCB_ok (l1_ok (eFz_ok c3)) a3)))
  have g : f_is_lot [.st (cls ws rs), .st (tI (nI L))] = noEx (runDef 5 B_is_lot [.st (cls ws rs), .st (tI (nI L))]) := rfl
  refine ⟨[.st (cls ws rs), .st (tI (nI L)), .un, .un, .un], ?_⟩
  rw [g]
  exact runDef_rt (n := 5) (B := B_is_lot) fin
theorem P_need_lot {L : List Nat} (h : Lot rs.length L) : Vl (f_need_lot c [.st (cls ws rs), .st (tI (nI L))]) .non := by
  have e : tNotF (tV (eCall f_is_lot (lCons (eV 0) (lCons (eV 1) lNil)))) [.st (cls ws rs), .st (tI (nI L))] = .ok false [.st (cls ws rs), .st (tI (nI L))] := tNot_ok (tV_ok (eCall_ok (l2_ok (eV_ok rfl) (eV_ok rfl)) (P_is_lot h)))
  have fin : B_need_lot c [.st (cls ws rs), .st (tI (nI L))] = .nx [.st (cls ws rs), .st (tI (nI L))] := (sIf_f e).trans sNop_ok
  refine ⟨[.st (cls ws rs), .st (tI (nI L))], ?_⟩
  show (match B_need_lot c [.st (cls ws rs), .st (tI (nI L))] with | .rt d ρ => Res.ok d ρ | .nx ρ => .ok .non ρ | .ex x ρ => .ex x ρ | _ => .bad) = _
  rw [fin]
theorem P_edges_within (co : COk ws rs) {L : List Nat} (h : Lot rs.length L) : Vl (f_edges_within c [.st (cls ws rs), .st (tI (nI L))]) (.int (((edgesL ws rs).filter (inB (nI L))).length : Int)) := by
  have el := edges_len co
  have f1 : sExpr (eCall (f_need_class c) (lCons (eV 0) lNil)) [.st (cls ws rs), .st (tI (nI L))] = .nx [.st (cls ws rs), .st (tI (nI L))] := sExpr_ok (eCall_ok (l1_ok (eV_ok rfl)) (P_need_class co))
  have f2 : sExpr (eCall (f_need_lot c) (lCons (eV 0) (lCons (eV 1) lNil))) [.st (cls ws rs), .st (tI (nI L))] = .nx [.st (cls ws rs), .st (tI (nI L))] := sExpr_ok (eCall_ok (l2_ok (eV_ok rfl) (eV_ok rfl)) (P_need_lot h))
  have fin : B_edges_within c [.st (cls ws rs), .st (tI (nI L))] = .rt (.int (((edgesL ws rs).filter (inB (nI L))).length : Int)) [.st (cls ws rs), .st (tI (nI L))] :=
    (sSeq_ok f1).trans ((sSeq_ok f2).trans (sRet_ok (eCall_ok (l2_ok (eCall_ok (l1_ok (eV_ok rfl)) (P_pairs co)) (eV_ok rfl)) (P_within _ _ (by omega)))))
  refine ⟨[.st (cls ws rs), .st (tI (nI L))], ?_⟩
  show (match B_edges_within c [.st (cls ws rs), .st (tI (nI L))] with | .rt d ρ => Res.ok d ρ | .nx ρ => .ok .non ρ | .ex x ρ => .ex x ρ | _ => .bad) = _
  rw [fin]
end PU.C
set_option maxHeartbeats 1000000
set_option exponentiation.threshold 5000
namespace PU.C
open PySem PySem.Spec PyProof.Rows L2 PU
/-! ### _law_same of a value with itself -/
mutual
def sz : D → Nat
  | .tup ds => szL ds + 1
  | .lst ds => szL ds + 1
  | .non => 1
  | .bl _ => 1
  | .int _ => 1
  | .str _ => 1
  | .dct _ => 1
  | .exn _ _ => 1
def szL : List D → Nat
  | [] => 0
  | d :: ds => sz d + szL ds
end
def pl : Nat → D → Bool
  | _, .int _ => true
  | _, .str x => PyData.strOk x
  | n + 1, .tup ds => decide (ds.length ≤ 900) && ds.all (pl n)
  | n + 1, .lst ds => decide (ds.length ≤ 900) && ds.all (pl n)
  | _, _ => false
theorem pl_okd : ∀ (n : Nat) (d : D), pl n d = true → ∀ k, n ≤ k → okd k d = true
  | _, .int _, _, k, _ => by cases k <;> rfl
  | n, .str x, h, k, _ => by
    have h' : PyData.strOk x = true := by cases n <;> exact h
    cases k <;> exact h'
  | n + 1, .tup ds, h, k, hk => by
    obtain ⟨k, rfl⟩ : ∃ j, k = j + 1 := ⟨k - 1, by omega⟩
    simp only [pl, Bool.and_eq_true, List.all_eq_true] at h
    show ds.all (okd k) = true
    rw [List.all_eq_true]
    exact fun d hd => pl_okd n d (h.2 d hd) k (by omega)
  | n + 1, .lst ds, h, k, hk => by
    obtain ⟨k, rfl⟩ : ∃ j, k = j + 1 := ⟨k - 1, by omega⟩
    simp only [pl, Bool.and_eq_true, List.all_eq_true] at h
    show ds.all (okd k) = true
    rw [List.all_eq_true]
    exact fun d hd => pl_okd n d (h.2 d hd) k (by omega)
  | 0, .tup _, h, _, _ => by simp [pl] at h
  | 0, .lst _, h, _, _ => by simp [pl] at h
  | 0, .non, h, _, _ => by simp [pl] at h
  | _ + 1, .non, h, _, _ => by simp [pl] at h
  | 0, .bl _, h, _, _ => by simp [pl] at h
  | _ + 1, .bl _, h, _, _ => by simp [pl] at h
  | 0, .dct _, h, _, _ => by simp [pl] at h
  | _ + 1, .dct _, h, _, _ => by simp [pl] at h
  | 0, .exn _ _, h, _, _ => by simp [pl] at h
  | _ + 1, .exn _ _, h, _, _ => by simp [pl] at h
def Pl (d : D) : Prop := ∃ n, n ≤ 50 ∧ pl n d = true
theorem Pl.okd {d : D} (h : Pl d) (k : Nat) (hk : 50 ≤ k) : PU.okd k d = true := by
  obtain ⟨n, hn, e⟩ := h
  exact pl_okd n d e k (by omega)
theorem Pl.int (i : Int) : Pl (.int i) := ⟨0, by omega, rfl⟩
theorem Pl.kids {ds : List D} (h : Pl (.tup ds) ∨ Pl (.lst ds)) : ds.length ≤ 900 ∧ ∀ d ∈ ds, Pl d := by
  rcases h with ⟨n, hn, e⟩ | ⟨n, hn, e⟩ <;>
  · cases n with
    | zero => simp [pl] at e
    | succ n =>
      simp only [pl, Bool.and_eq_true, decide_eq_true_eq, List.all_eq_true] at e
      exact ⟨e.1, fun d hd => ⟨n, by omega, e.2 d hd⟩⟩
theorem szL_append : ∀ (a b : List D), szL (a ++ b) = szL a + szL b
  | [], b => by simp [szL]
  | x :: a, b => by rw [List.cons_append, szL, szL, szL_append a b]; omega
theorem sz_pos (d : D) : 1 ≤ sz d := by cases d <;> simp [sz]
theorem szL_len : ∀ ds : List D, ds.length ≤ szL ds
  | [] => Nat.le_refl 0
  | d :: ds => by
    rw [List.length_cons, szL]
    have := szL_len ds
    have := sz_pos d
    omega
def pr (d : D) : D := .tup [d, d]
theorem zip_self (ds : List D) : zipD ds ds = ds.map pr := by
  unfold zipD
  induction ds with
  | nil => rfl
  | cons d ds ih => rw [List.zip_cons_cons, List.map_cons, ih, List.map_cons]; rfl
def sm (X Y : D) (W : List D) (y3 y4 y5 : SV) : Ρ := [.st X, .st Y, .ol (W.map pr), y3, y4, y5, .un, .un, .un]
def smTest : Ev Bool := tV (eONe 2 (eLst lNil))
def smScal : Sv := (sIf (tOrF (tV (eUn (dIsi "bool") (eV 3))) (tOrF (tV (eBin dNe (eUn (dIsi "int") (eV 3)) (eUn (dIsi "int") (eV 4)))) (tV (eBin dNe (eV 3) (eV 4)))))
  (sRet (eK (.bl false)))
  sNop)
def alikeE : Ev D := eLst (lCons (eAnd (eUn (dIsi "tuple") (eV 3)) (eUn (dIsi "tuple") (eV 4))) (lCons (eAnd (eUn (dIsi "list") (eV 3)) (eUn (dIsi "list") (eV 4))) lNil))
def kidsE : Ev (List D) := nLc (iCall dZip (lCons (eV 3) (lCons (eV 4) lNil))) (tgT [7, 8]) tYesF (eTup (lCons (eV 7) (lCons (eV 8) lNil))) [7, 8]
def smSeqs : Sv := (sSeq (sSet 5 alikeE)
  (sSeq (sIf (tOrF (tV (eBin dNotIn (eK (.bl true)) (eV 5))) (tV (eBin dNe (eCB dLen (lCons (eV 3) lNil)) (eCB dLen (lCons (eV 4) lNil)))))
  (sRet (eK (.bl false)))
  sNop)
  (sExpr (eExt 2 kidsE))))
noncomputable def smDict : Sv := (sSeq (sIf (tOrF (tNotF (tV (eUn (dIsi "dict") (eV 3)))) (tV (eBin dNe (eFz (nList (eV 3))) (eFz (nList (eV 4))))))
  (sRet (eK (.bl false)))
  sNop)
  (sSeq (sExpr (eExt 2 nBad))
  (sExpr (eExt 2 (nLc (iAny (eV 4)) (tgN 6) tYesF (eTup (lCons (eBin dIx (eV 3) (eV 6)) (lCons (eBin dIx (eV 4) (eV 6)) lNil))) [6])))))
noncomputable def smNone : Sv := (sIf (tIfF (tV (eBin dIs (eV 4) (eK .non))) (tV (eBin dIsNot (eV 3) (eK .non))) (tNotF (tV (eCall f__law_is_truth (lCons (eV 3) (lCons (eV 4) lNil))))))
  (sRet (eK (.bl false)))
  sNop)
noncomputable def smBody : Sv := (sSeq (sAsg (tgT [3, 4]) (ePop 2))
  (sIf (tOrF (tV (eBin dIs (eV 4) (eK .non))) (tV (eUn (dIsi "bool") (eV 4)))) smNone
  (sIf (tV (eUn (dIsiT ["int", "str"]) (eV 4))) smScal
  (sIf (tV (eUn (dIsi "dict") (eV 4))) smDict smSeqs))))
theorem B_same_eq : B__law_same = sSeq (sNew 2 (nLst (lCons (eTup (lCons (eV 0) (lCons (eV 1) lNil))) lNil))) (sSeq (sWhile smTest smBody) (sRet (eK (.bl true)))) := rfl
variable {X Y : D} {W : List D} {y3 y4 y5 : SV}
theorem bigOk {n : Nat} (h : n ≤ 1000000) : n ≤ sizeLine := by
  have : (1000000 : Nat) ≤ sizeLine := by decide
  omega
theorem one_ok {i : Nat} {f : Ev D} {ρ ρ1 : Ρ} {ds es : List D} {y z : D} (h0 : svAt ρ i = .ol es) (hf : f ρ = .ok y ρ1) (h1 : svAt ρ1 i = .ol ds) (hg : dNe (.lst ds) y = some z) : eONe i f ρ = .ok z ρ1 := by
  simp only [eONe, h0, hf, Res.bind, h1, hg, lift]
theorem ext2_ok {i : Nat} {f : Ev (List D)} {ρ ρ1 : Ρ} {ds es fs : List D} (h0 : svAt ρ i = .ol es) (hf : f ρ = .ok fs ρ1) (h1 : svAt ρ1 i = .ol ds) (hl : ds.length + fs.length ≤ 1000000) : eExt i f ρ = .ok .non (ρ1.set i (.ol (ds ++ fs))) := by
  have z := bigOk hl
  unfold eExt
  rw [h0]
  simp only [hf, Res.bind, h1]
  split
  · exact Eq.refl _
  · rename_i hn
    exact absurd z hn
theorem pop_ok {i : Nat} {ρ : Ρ} {ds : List D} {d : D} (h0 : svAt ρ i = .ol (ds ++ [d])) : ePop i ρ = .ok d (ρ.set i (.ol ds)) := by
  have e : (ds ++ [d])[(ds ++ [d]).length - 1]? = some d := by simp
  simp only [ePop, h0, e, List.dropLast_concat]
theorem smTest_ok (hW : ∀ d ∈ W, Pl d) : smTest (sm X Y W y3 y4 y5) = .ok (!W.isEmpty) (sm X Y W y3 y4 y5) := by
  have o : (W.map pr).all (okd 59) = true := by
    simp only [List.all_map, List.all_eq_true]
    intro d hd
    have q := (hW d hd).okd 58 (by omega)
    show [d, d].all (okd 58) = true
    simp [q]
  have e : eONe 2 (eLst lNil) (sm X Y W y3 y4 y5) = .ok (.bl (!(W.map pr).isEmpty)) (sm X Y W y3 y4 y5) := one_ok rfl (eLst_ok lNil_ok (by simp)) rfl (dNe_nil _ o)
  rw [List.isEmpty_map] at e
  exact tV_ok e
theorem popD {d : D} : sAsg (tgT [3, 4]) (ePop 2) (sm X Y (W ++ [d]) y3 y4 y5) = .nx (sm X Y W (.st d) (.st d) y5) :=
  sAsg_ok (pop_ok (ds := W.map pr) (d := pr d) (by show SV.ol ((W ++ [d]).map pr) = _; rw [List.map_append]; rfl)) rfl
theorem notNB {d : D} (h1 : isNon d = false) (h2 : dIsi "bool" d = some (.bl false)) : tOrF (tV (eBin dIs (eV 4) (eK .non))) (tV (eUn (dIsi "bool") (eV 4))) (sm X Y W (.st d) (.st d) y5) = .ok false (sm X Y W (.st d) (.st d) y5) := by
  have a : dIs d .non = some (.bl false) := by
    unfold dIs
    cases d <;> first | exact congrArg (fun b => some (D.bl b)) h1 | rfl
  exact (tOr_f (tV_ok (eBin_ok (eV_ok rfl) eK_ok a))).trans (tV_ok (eUn_ok (eV_ok rfl) h2))
theorem smScal_ok {d : D} {b : Bool} (h1 : dIsi "bool" d = some (.bl false)) (h2 : dIsi "int" d = some (.bl b)) (h3 : PU.okd 60 d = true) : smScal (sm X Y W (.st d) (.st d) y5) = .nx (sm X Y W (.st d) (.st d) y5) := by
  have q : dNe (.bl b) (.bl b) = some (.bl false) := dNe_refl rfl
  exact (sIf_f ((tOr_f (tV_ok (eUn_ok (eV_ok rfl) h1))).trans ((tOr_f (tV_ok (eBin_ok (eUn_ok (eV_ok rfl) h2) (eUn_ok (eV_ok rfl) h2) q))).trans (tV_ok (eBin_ok (eV_ok rfl) (eV_ok rfl) (dNe_refl h3)))))).trans sNop_ok
theorem smBody_scal {d : D} {b : Bool} (h0 : isNon d = false) (h1 : dIsi "bool" d = some (.bl false)) (h2 : dIsi "int" d = some (.bl b)) (h4 : dIsiT ["int", "str"] d = some (.bl true)) (h3 : PU.okd 60 d = true) :
    smBody (sm X Y (W ++ [d]) y3 y4 y5) = .nx (sm X Y W (.st d) (.st d) y5) := by
  unfold smBody
  rw [sSeq_ok popD, sIf_f (notNB h0 h1), sIf_t (tV_ok (eUn_ok (eV_ok rfl) h4))]
  exact smScal_ok h1 h2 h3
theorem kids_ok {d : D} {ds : List D} (hz : dZip [d, d] = some (zipD ds ds)) (hl : ds.length ≤ 900) : kidsE (sm X Y W (.st d) (.st d) y5) = .ok (ds.map pr) (sm X Y W (.st d) (.st d) y5) := by
  have k := fltT (I := iCall dZip (lCons (eV 3) (lCons (eV 4) lNil))) (T := tgT [7, 8]) (tt := tYesF) (te := eTup (lCons (eV 7) (lCons (eV 8) lNil))) (vs := [7, 8]) (ρ := sm X Y W (.st d) (.st d) y5) (ρ1 := sm X Y W (.st d) (.st d) y5) ds pr pr (fun _ => true) (iCall_ok (l2_ok (eV_ok rfl) (eV_ok rfl)) (by rw [hz, zip_self])) (by omega) rfl fun x _ =>
    ⟨[.st X, .st Y, .ol (W.map pr), .st d, .st d, y5, .un, .st x, .st x], rfl, rfl, eTup_ok (l2_ok (eV_ok rfl) (eV_ok rfl)) (by simp), rfl⟩
  rw [flt_true] at k
  exact k
theorem smBody_seq {d : D} {ds : List D} {a b : Bool} (h0 : isNon d = false) (h1 : dIsi "bool" d = some (.bl false)) (h4 : dIsiT ["int", "str"] d = some (.bl false)) (h5 : dIsi "dict" d = some (.bl false)) (ht : dIsi "tuple" d = some (.bl a)) (hl : dIsi "list" d = some (.bl b)) (hab : (a || b) = true)
    (hlen : dLen [d] = some (.int (ds.length : Int))) (hz : dZip [d, d] = some (zipD ds ds)) (hk : ds.length ≤ 900) (hW : W.length + ds.length ≤ 1000000) :
    smBody (sm X Y (W ++ [d]) y3 y4 y5) = .nx (sm X Y (W ++ ds) (.st d) (.st d) (.st (.lst [.bl a, .bl b]))) := by
  have ea : ∀ {T : String} {u : Bool}, dIsi T d = some (.bl u) → eAnd (eUn (dIsi T) (eV 3)) (eUn (dIsi T) (eV 4)) (sm X Y W (.st d) (.st d) y5) = .ok (.bl u) (sm X Y W (.st d) (.st d) y5) := fun {T u} h => by
    have e3 : eUn (dIsi T) (eV 3) (sm X Y W (.st d) (.st d) y5) = .ok (.bl u) (sm X Y W (.st d) (.st d) y5) := eUn_ok (eV_ok rfl) h
    have e4 : eUn (dIsi T) (eV 4) (sm X Y W (.st d) (.st d) y5) = .ok (.bl u) (sm X Y W (.st d) (.st d) y5) := eUn_ok (eV_ok rfl) h
    cases u with
    | true => simp only [eAnd, e3, Res.bind, e4]
    | false => simp only [eAnd, e3, Res.bind]
  have f1 : sSet 5 alikeE (sm X Y W (.st d) (.st d) y5) = .nx (sm X Y W (.st d) (.st d) (.st (.lst [.bl a, .bl b]))) := (sSet_ok (eLst_ok (l2_ok (ea ht) (ea hl)) (by simp))).trans rfl
  have ni : dNotIn (.bl true) (.lst [.bl a, .bl b]) = some (.bl false) := by
    cases a <;> cases b <;> first | (simp at hab; done) | rfl
  have t : tOrF (tV (eBin dNotIn (eK (.bl true)) (eV 5))) (tV (eBin dNe (eCB dLen (lCons (eV 3) lNil)) (eCB dLen (lCons (eV 4) lNil)))) (sm X Y W (.st d) (.st d) (.st (.lst [.bl a, .bl b]))) = .ok false (sm X Y W (.st d) (.st d) (.st (.lst [.bl a, .bl b]))) :=
    (tOr_f (tV_ok (eBin_ok eK_ok (eV_ok rfl) ni))).trans (tV_ok (eBin_ok (eCB_ok (l1_ok (eV_ok rfl)) hlen) (eCB_ok (l1_ok (eV_ok rfl)) hlen) (dNe_refl (okd_int _ 59))))
  have f3 : sExpr (eExt 2 kidsE) (sm X Y W (.st d) (.st d) (.st (.lst [.bl a, .bl b]))) = .nx (sm X Y (W ++ ds) (.st d) (.st d) (.st (.lst [.bl a, .bl b]))) := by
    rw [sExpr_ok (ext2_ok (ds := W.map pr) rfl (kids_ok hz hk) rfl (by simpa using hW))]
    show SRes.nx (List.set _ _ _) = _
    rw [← List.map_append]
    exact rfl
  unfold smBody
  rw [sSeq_ok popD, sIf_f (notNB h0 h1), sIf_f (tV_ok (eUn_ok (eV_ok rfl) h4)), sIf_f (tV_ok (eUn_ok (eV_ok rfl) h5))]
  unfold smSeqs
  rw [sSeq_ok f1, sSeq_ok ((sIf_f t).trans sNop_ok), f3]
theorem sm_run : ∀ (n : Nat) (W : List D) (y3 y4 y5 : SV), szL W ≤ n → n ≤ 1000000 → (∀ d ∈ W, Pl d) → ∃ y3' y4' y5', WRun smTest smBody (sm X Y W y3 y4 y5) (.nx (sm X Y [] y3' y4' y5'))
  | n, W, y3, y4, y5, hn, hm, hW => by
    rcases List.eq_nil_or_concat W with e | ⟨W0, d, e⟩
    · subst e
      exact ⟨y3, y4, y5, .stop (smTest_ok hW)⟩
    · rw [List.concat_eq_append] at e
      subst e
      have t : smTest (sm X Y (W0 ++ [d]) y3 y4 y5) = .ok true (sm X Y (W0 ++ [d]) y3 y4 y5) := by
        have q := smTest_ok (X := X) (Y := Y) (y3 := y3) (y4 := y4) (y5 := y5) hW
        have z : (!(W0 ++ [d]).isEmpty) = true := by simp
        rw [z] at q
        exact q
      have hW0 : ∀ x ∈ W0, Pl x := fun x hx => hW x (List.mem_append_left _ hx)
      have hd : Pl d := hW d (by simp)
      rw [szL_append] at hn
      have hn' : szL W0 + sz d ≤ n := by simpa [szL] using hn
      have hp := sz_pos d
      cases n with
      | zero => omega
      | succ n =>
        cases d with
        | int i =>
          obtain ⟨a, b, c, r⟩ := sm_run n W0 (.st (.int i)) (.st (.int i)) y5 (by omega) (by omega) hW0
          exact ⟨a, b, c, .go t (.inl (smBody_scal (b := true) rfl rfl rfl rfl (hd.okd 60 (by omega)))) r⟩
        | str x =>
          obtain ⟨a, b, c, r⟩ := sm_run n W0 (.st (.str x)) (.st (.str x)) y5 (by omega) (by omega) hW0
          exact ⟨a, b, c, .go t (.inl (smBody_scal (b := false) rfl rfl rfl rfl (hd.okd 60 (by omega)))) r⟩
        | tup ds =>
          have hk := Pl.kids (.inl hd)
          have s1 : sz (.tup ds) = szL ds + 1 := by rw [sz]
          have l1 := szL_len W0
          have l2 := szL_len ds
          obtain ⟨a, b, c, r⟩ := sm_run n (W0 ++ ds) (.st (.tup ds)) (.st (.tup ds)) (.st (.lst [.bl true, .bl false])) (by rw [szL_append]; omega) (by omega) fun x hx => (List.mem_append.mp hx).elim (hW0 x) (hk.2 x)
          exact ⟨a, b, c, .go t (.inl (smBody_seq (ds := ds) (a := true) (b := false) rfl rfl rfl rfl rfl rfl rfl rfl rfl hk.1 (by omega))) r⟩
        | lst ds =>
          have hk := Pl.kids (.inr hd)
          have s1 : sz (.lst ds) = szL ds + 1 := by rw [sz]
          have l1 := szL_len W0
          have l2 := szL_len ds
          obtain ⟨a, b, c, r⟩ := sm_run n (W0 ++ ds) (.st (.lst ds)) (.st (.lst ds)) (.st (.lst [.bl false, .bl true])) (by rw [szL_append]; omega) (by omega) fun x hx => (List.mem_append.mp hx).elim (hW0 x) (hk.2 x)
          exact ⟨a, b, c, .go t (.inl (smBody_seq (ds := ds) (a := false) (b := true) rfl rfl rfl rfl rfl rfl rfl rfl rfl hk.1 (by omega))) r⟩
        | non => obtain ⟨k, _, e⟩ := hd; cases k <;> simp [pl] at e
        | bl q => obtain ⟨k, _, e⟩ := hd; cases k <;> simp [pl] at e
        | dct q => obtain ⟨k, _, e⟩ := hd; cases k <;> simp [pl] at e
        | exn q z => obtain ⟨k, _, e⟩ := hd; cases k <;> simp [pl] at e
theorem P_same {d : D} (h : Pl d) (hz : sz d ≤ 1000000) : Vl (f__law_same [.st d, .st d]) (.bl true) := by
  obtain ⟨y3, y4, y5, r⟩ := sm_run (X := d) (Y := d) (sz d) [d] .un .un .un (by simp [szL]) hz fun x hx => by rw [List.mem_singleton.mp hx]; exact h
  have f1 : sNew 2 (nLst (lCons (eTup (lCons (eV 0) (lCons (eV 1) lNil))) lNil)) [.st d, .st d, .un, .un, .un, .un, .un, .un, .un] = .nx (sm d d [d] .un .un .un) := by
    have z := l1_ok (eTup_ok (ρ := [.st d, .st d, .un, .un, .un, .un, .un, .un, .un]) (l2_ok (eV_ok (i := 0) rfl) (eV_ok (i := 1) rfl)) (by simp))
    unfold sNew nLst
    rw [z]
    exact rfl
  have fin : B__law_same [.st d, .st d, .un, .un, .un, .un, .un, .un, .un] = .rt (.bl true) (sm d d [] y3 y4 y5) := by
    rw [B_same_eq, sSeq_ok f1, sSeq_ok (sWhile_run r)]
    exact sRet_ok eK_ok
  have g : f__law_same [.st d, .st d] = noEx (runDef 9 B__law_same [.st d, .st d]) := rfl
  refine ⟨sm d d [] y3 y4 y5, ?_⟩
  rw [g]
  exact runDef_rt (n := 9) (B := B__law_same) fin
end PU.C
set_option maxHeartbeats 1000000
set_option exponentiation.threshold 5000
namespace PU.C
open PySem PySem.Spec PyProof.Rows L2 PU
/-! ### values that are no classes -/
theorem P_is_classV {ws : List Str} {rs : List (List Int)} (hw : WOk ws) (l1 : 1 ≤ rs.length) (l24 : rs.length ≤ 24) (row : ∀ r ∈ rs, r.length = ws.length ∧ ∀ x ∈ r, x = 0 ∨ x = 1) : Vl (f_is_class [.st (cls ws rs)]) (.bl ((rs.zip rs.tail).all fun p => dlt (tI p.1) (tI p.2))) := by
  have hl : rs.length ≤ sizeLine := Nat.le_trans l24 (by decide)
  have hwl : ws.length ≤ sizeLine := Nat.le_trans hw.len8 (by decide)
  have ap : ∀ ρ : Ρ, svAt ρ 0 = .st (cls ws rs) → eCall f_are_points (lCons (eBin dIx (eV 0) (eK (.int 1))) lNil) ρ = .ok (.bl true) ρ := fun ρ e => eCall_ok (ds := [.tup (ws.map .str)]) (by simp [lCons, lNil, eBin, eV, eK, e, Res.bind, cls, dIx, lift, atI3]) (P_are_points hw)
  have key : ∀ (done : List (List Int)) (r : List Int) (ρ : Ρ), (∃ s, ρ = [.st (cls ws rs), s, .un, .un, .un]) → r ∈ rs → ∃ ρ1 ρ2, tgN 1 (tI r) ρ = some ρ1 ∧ (rowTest ρ1 = .nx ρ2 ∨ rowTest ρ1 = .ct ρ2) ∧ ∃ s, ρ2 = [.st (cls ws rs), s, .un, .un, .un] := by
    rintro done r _ ⟨s, rfl⟩ hr
    obtain ⟨h1, h2⟩ := row r hr
    exact ⟨[.st (cls ws rs), .st (tI r), .un, .un, .un], _, rfl, .inl (P_rowTest hwl r h1 h2), _, rfl⟩
  obtain ⟨ρ', e, s, rfl⟩ := forL_inv (T := tgN 1) (B := rowTest) tI (fun _ ρ => ∃ s, ρ = [.st (cls ws rs), s, .un, .un, .un]) rs [] [.st (cls ws rs), .un, .un, .un, .un] ⟨_, rfl⟩ key
  have c2 : nLc (iCall dZip (lCons (eBin dIx (eV 0) (eK (.int 2))) (lCons (eSl (eBin dIx (eV 0) (eK (.int 2))) (poS (eK (.int 1))) poN) lNil))) (tgT [2, 3]) tYesF (eBin dLt (eV 2) (eV 3)) [2, 3] [.st (cls ws rs), s, .un, .un, .un] = .ok ((rs.zip rs.tail).map fun p => .bl (dlt (tI p.1) (tI p.2))) [.st (cls ws rs), s, .un, .un, .un] :=
    nLc_map (rs.zip rs.tail) (fun p => .tup [tI p.1, tI p.2]) _ (by simp [runDef, noEx, sRet, sExpr, sIf, sSet, sSeq, sNop, sAsg, sPar, sNew, SRes.bind, ofE, eAnd, eOr, eIf, eBin, eUn, eChain, eCB, eTup, eLst, eFz, nLst, eSl, poN, poS, eTake, eOLen, lNil, lCons, Res.bind, eK, eV, svAt, lift, toB, tV, tAndF, tOrF, tNotF, dNot, dNeg, iAny, iCall, dItemsA, dLen, cls, dIx, atI3, dSl, dZip, cutD_tail, zip_drop_map]) (by simp [stFree, SV.own, svAt]) (fun p hp => by
      simp [runDef, noEx, sRet, sExpr, sIf, sSet, sSeq, sNop, sAsg, sPar, sNew, SRes.bind, ofE, eAnd, eOr, eIf, eBin, eUn, eChain, eCB, eTup, eLst, eFz, nLst, eSl, poN, poS, eTake, eOLen, lNil, lCons, Res.bind, eK, eV, svAt, lift, toB, tV, tAndF, tOrF, tNotF, dNot, dNeg, iAny, iCall, dItemsA, dLen, lcStep, tgT, setAll, tYesF, wipeP, dLt_tI]) (by rw [List.length_zip]; omega)
  have a1 : (1 : Int) ≤ rs.length := by omega
  have a2 : (rs.length : Int) ≤ 24 := by omega
  have b2 := dAll_bls (rs.zip rs.tail) fun p => dlt (tI p.1) (tI p.2)
  have r1 : sIf (tOrF (tNotF (tV (eUn (dIsi "tuple") (eV 0)))) (tOrF (tV (eBin dNe (eCB dLen (lCons (eV 0) lNil)) (eK (.int 3)))) (tOrF (tNotF (tV (eUn (dIsi "str") (eBin dIx (eV 0) (eK (.int 0)))))) (tV (eBin dNe (eBin dIx (eV 0) (eK (.int 0))) (eK (.str "class"))))))) (sRet (eK (.bl false))) sNop [.st (cls ws rs), .un, .un, .un, .un] = .nx [.st (cls ws rs), .un, .un, .un, .un] := by
    have z0 : PyData.strOk "class" = true := by decide +kernel
    have z : dNe (.str "class") (.str "class") = some (.bl false) := by simp [dNe, okd, deq, D.py, PyData.eqv, z0]
    simp [runDef, noEx, sRet, sExpr, sIf, sSet, sSeq, sNop, sAsg, sPar, sNew, SRes.bind, ofE, eAnd, eOr, eIf, eBin, eUn, eChain, eCB, eTup, eLst, eFz, nLst, eSl, poN, poS, eTake, eOLen, lNil, lCons, Res.bind, eK, eV, svAt, lift, toB, tV, tAndF, tOrF, tNotF, dNot, dNeg, iAny, iCall, dItemsA, dLen, cls, dIsi, tyN, tyOk, isiB, isNeInt, dIx, atI3, z]
  have r2 : sIf (tOrF (tNotF (tV (eCall f_are_points (lCons (eBin dIx (eV 0) (eK (.int 1))) lNil)))) (tOrF (tNotF (tV (eUn (dIsi "tuple") (eBin dIx (eV 0) (eK (.int 2)))))) (tNotF (tV (eChain dLe dLe (eK (.int 1)) (eCB dLen (lCons (eBin dIx (eV 0) (eK (.int 2))) lNil)) (eK (.int 24))))))) (sRet (eK (.bl false))) sNop [.st (cls ws rs), .un, .un, .un, .un] = .nx [.st (cls ws rs), .un, .un, .un, .un] := by
    have z := ap [.st (cls ws rs), .un, .un, .un, .un] rfl
    have z1 : (tV (eCall f_are_points (lCons (eBin dIx (eV 0) (eK (.int 1))) lNil))) [.st (cls ws rs), .un, .un, .un, .un] = .ok true [.st (cls ws rs), .un, .un, .un, .un] := by simp only [tV, z, Res.bind, toB, lift]
    have z2 : (tV (eUn (dIsi "tuple") (eBin dIx (eV 0) (eK (.int 2))))) [.st (cls ws rs), .un, .un, .un, .un] = .ok true [.st (cls ws rs), .un, .un, .un, .un] := by simp [runDef, noEx, sRet, sExpr, sIf, sSet, sSeq, sNop, sAsg, sPar, sNew, SRes.bind, ofE, eAnd, eOr, eIf, eBin, eUn, eChain, eCB, eTup, eLst, eFz, nLst, eSl, poN, poS, eTake, eOLen, lNil, lCons, Res.bind, eK, eV, svAt, lift, toB, tV, tAndF, tOrF, tNotF, dNot, dNeg, iAny, iCall, dItemsA, dLen, cls, dIsi, tyN, tyOk, isiB, dIx, atI3]
    have z3 : (tV (eChain dLe dLe (eK (.int 1)) (eCB dLen (lCons (eBin dIx (eV 0) (eK (.int 2))) lNil)) (eK (.int 24)))) [.st (cls ws rs), .un, .un, .un, .un] = .ok true [.st (cls ws rs), .un, .un, .un, .un] := by simp [runDef, noEx, sRet, sExpr, sIf, sSet, sSeq, sNop, sAsg, sPar, sNew, SRes.bind, ofE, eAnd, eOr, eIf, eBin, eUn, eChain, eCB, eTup, eLst, eFz, nLst, eSl, poN, poS, eTake, eOLen, lNil, lCons, Res.bind, eK, eV, svAt, lift, toB, tV, tAndF, tOrF, tNotF, dNot, dNeg, iAny, iCall, dItemsA, dLen, cls, dIx, atI3, dLe, dI2, a1, a2]
    simp only [sIf, tOrF, tNotF, z1, z2, z3, Res.bind, ofE, sNop]
    rfl
  have r3 : sFor (iAny (eBin dIx (eV 0) (eK (.int 2)))) (tgN 1) rowTest [.st (cls ws rs), .un, .un, .un, .un] = .nx [.st (cls ws rs), s, .un, .un, .un] := by
    have z : iAny (eBin dIx (eV 0) (eK (.int 2))) [.st (cls ws rs), .un, .un, .un, .un] = .ok (rs.map tI) [.st (cls ws rs), .un, .un, .un, .un] := by simp [runDef, noEx, sRet, sExpr, sIf, sSet, sSeq, sNop, sAsg, sPar, sNew, SRes.bind, ofE, eAnd, eOr, eIf, eBin, eUn, eChain, eCB, eTup, eLst, eFz, nLst, eSl, poN, poS, eTake, eOLen, lNil, lCons, Res.bind, eK, eV, svAt, lift, toB, tV, tAndF, tOrF, tNotF, dNot, dNeg, iAny, iCall, dItemsA, dLen, cls, dIx, atI3]
    simp only [sFor, z, ofE, e]
  have r4 : (sRet (eCB dAll (lCons (eFz (nLc (iCall dZip (lCons (eBin dIx (eV 0) (eK (.int 2))) (lCons (eSl (eBin dIx (eV 0) (eK (.int 2))) (poS (eK (.int 1))) poN) lNil))) (tgT [2, 3]) tYesF (eBin dLt (eV 2) (eV 3)) [2, 3])) lNil))) [.st (cls ws rs), s, .un, .un, .un] = .rt (.bl ((rs.zip rs.tail).all fun p => dlt (tI p.1) (tI p.2))) [.st (cls ws rs), s, .un, .un, .un] := by
    simp only [sRet, eCB, lCons, lNil, eFz, c2, Res.bind, b2, lift, ofE]
  refine ⟨[.st (cls ws rs), s, .un, .un, .un], ?_⟩
  have all : B_is_class [.st (cls ws rs), .un, .un, .un, .un] = .rt (.bl ((rs.zip rs.tail).all fun p => dlt (tI p.1) (tI p.2))) [.st (cls ws rs), s, .un, .un, .un] := by
    show sSeq _ (sSeq _ (sSeq (sFor _ _ rowTest) _)) _ = _
    simp only [sSeq, r1, r2, r3, r4, SRes.bind]
  show noEx (runDef 5 B_is_class [.st (cls ws rs)]) = _
  have e9 : runDef 5 B_is_class [.st (cls ws rs)] = match B_is_class [.st (cls ws rs), .un, .un, .un, .un] with | .rt d ρ => .ok d ρ | .nx ρ => .ok .non ρ | .ex x ρ => .ex x ρ | _ => .bad := rfl
  rw [e9, all]
  rfl

theorem wa : WOk ["a"] where
  len1 := by simp
  len8 := by simp
  word := fun w hw => by
    rw [List.mem_singleton.mp hw]
    decide +kernel
  asc := fun p hp => by simp at hp
theorem cls_str : dNe (.str "class") (.str "class") = some (.bl false) := dNe_refl (show PyData.strOk "class" = true by decide +kernel)
theorem class_pre {P R : D} {ρ : Ρ} (h : svAt ρ 0 = .st (.tup [.str "class", P, R])) : sIf (tOrF (tNotF (tV (eUn (dIsi "tuple") (eV 0)))) (tOrF (tV (eBin dNe (eCB dLen (lCons (eV 0) lNil)) (eK (.int 3)))) (tOrF (tNotF (tV (eUn (dIsi "str") (eBin dIx (eV 0) (eK (.int 0)))))) (tV (eBin dNe (eBin dIx (eV 0) (eK (.int 0))) (eK (.str "class"))))))) (sRet (eK (.bl false))) sNop ρ = .nx ρ := by
  have i0 : dIx (.tup [.str "class", P, R]) (.int 0) = some (.str "class") := atI3.1
  have t1 : tNotF (tV (eUn (dIsi "tuple") (eV 0))) ρ = .ok false ρ := tNot_ok (b := true) (tV_ok (eUn_ok (eV_ok h) rfl))
  have t2 : tV (eBin dNe (eCB dLen (lCons (eV 0) lNil)) (eK (.int 3))) ρ = .ok false ρ := tV_ok (eBin_ok (eCB_ok (l1_ok (eV_ok h)) (show dLen [.tup [.str "class", P, R]] = some (.int 3) from rfl)) eK_ok (dNe_refl rfl))
  have t3 : tNotF (tV (eUn (dIsi "str") (eBin dIx (eV 0) (eK (.int 0))))) ρ = .ok false ρ := tNot_ok (b := true) (tV_ok (eUn_ok (eBin_ok (eV_ok h) eK_ok i0) rfl))
  have t4 : tV (eBin dNe (eBin dIx (eV 0) (eK (.int 0))) (eK (.str "class"))) ρ = .ok false ρ := tV_ok (eBin_ok (eBin_ok (eV_ok h) eK_ok i0) eK_ok cls_str)
  exact (sIf_f ((tOr_f t1).trans ((tOr_f t2).trans ((tOr_f t3).trans t4)))).trans sNop_ok
/-- the second look says no -/
theorem class_no {P R : D} {a b : Bool} (ha : Vl (f_are_points [.st P]) (.bl a)) (hb : dIsi "tuple" R = some (.bl b)) (h : (a && b) = false ∨ R = .tup []) : Vl (f_is_class [.st (.tup [.str "class", P, R])]) (.bl false) := by
  have i1 : dIx (.tup [.str "class", P, R]) (.int 1) = some P := atI3.2.1
  have i2 : dIx (.tup [.str "class", P, R]) (.int 2) = some R := atI3.2.2
  have t1 : tNotF (tV (eCall f_are_points (lCons (eBin dIx (eV 0) (eK (.int 1))) lNil))) [.st (.tup [.str "class", P, R]), .un, .un, .un, .un] = .ok (!a) [.st (.tup [.str "class", P, R]), .un, .un, .un, .un] := tNot_ok (tV_ok (eCall_ok (l1_ok (eBin_ok (eV_ok rfl) eK_ok i1)) ha))
  have t2 : tNotF (tV (eUn (dIsi "tuple") (eBin dIx (eV 0) (eK (.int 2))))) [.st (.tup [.str "class", P, R]), .un, .un, .un, .un] = .ok (!b) [.st (.tup [.str "class", P, R]), .un, .un, .un, .un] := tNot_ok (tV_ok (eUn_ok (eBin_ok (eV_ok rfl) eK_ok i2) hb))
  have t : tOrF (tNotF (tV (eCall f_are_points (lCons (eBin dIx (eV 0) (eK (.int 1))) lNil)))) (tOrF (tNotF (tV (eUn (dIsi "tuple") (eBin dIx (eV 0) (eK (.int 2)))))) (tNotF (tV (eChain dLe dLe (eK (.int 1)) (eCB dLen (lCons (eBin dIx (eV 0) (eK (.int 2))) lNil)) (eK (.int 24)))))) [.st (.tup [.str "class", P, R]), .un, .un, .un, .un] = .ok true [.st (.tup [.str "class", P, R]), .un, .un, .un, .un] := by
    cases a with
    | false => exact tOr_t t1
    | true =>
      rw [tOr_f t1]
      cases b with
      | false => exact tOr_t t2
      | true =>
        rw [tOr_f t2]
        have e : R = .tup [] := by
          rcases h with h | h
          · simp at h
          · exact h
        subst e
        have v : eCB dLen (lCons (eBin dIx (eV 0) (eK (.int 2))) lNil) [.st (.tup [.str "class", P, .tup []]), .un, .un, .un, .un] = .ok (.int 0) [.st (.tup [.str "class", P, .tup []]), .un, .un, .un, .un] := eCB_ok (l1_ok (eBin_ok (eV_ok rfl) eK_ok i2)) rfl
        have d : dLe (.int 1) (.int 0) = some (.bl false) := rfl
        refine tNot_ok (b := false) (tV_ok ?_)
        simp only [eChain, eK, Res.bind, v, d, lift]
  have fin : B_is_class [.st (.tup [.str "class", P, R]), .un, .un, .un, .un] = .rt (.bl false) [.st (.tup [.str "class", P, R]), .un, .un, .un, .un] := (sSeq_ok (class_pre rfl)).trans (sSeq_rt ((sIf_t t).trans (sRet_ok eK_ok)))
  have g : f_is_class [.st (.tup [.str "class", P, R])] = noEx (runDef 5 B_is_class [.st (.tup [.str "class", P, R])]) := rfl
  refine ⟨[.st (.tup [.str "class", P, R]), .un, .un, .un, .un], ?_⟩
  rw [g]
  exact runDef_rt (n := 5) (B := B_is_class) fin
/-- values that are no classes -/
def oddA : List D := [.non, .bl true, .int 0, .int 5, .str "", .str "class", .tup [], .lst [], .dct [], .tup [tI [0, 1], tI [1, 1]], .tup [.str "class"], .tup [.str "class", .tup []], .tup [.str "class", .tup [], .tup []]]
def oddB : List D := [.tup [.str "class", .tup [.str "a"], .tup []], .tup [.str "class", .tup [.str "a"], .tup [tI [0], tI [0]]], .tup [.str "class", .tup [.str "a"], .tup [tI [1], tI [0]]], .tup [.str "class", .tup [.str "a"], .lst [tI [0]]]]
theorem bit1 {x y : Int} (hx : x = 0 ∨ x = 1) (hy : y = 0 ∨ y = 1) : ∀ r ∈ [[x], [y]], r.length = ["a"].length ∧ ∀ z ∈ r, z = 0 ∨ z = 1 := fun r hr => by
  rcases List.mem_cons.mp hr with e | e
  · rw [e]
    exact ⟨rfl, fun z hz => by rw [List.mem_singleton.mp hz]; exact hx⟩
  · rw [List.mem_singleton.mp e]
    exact ⟨rfl, fun z hz => by rw [List.mem_singleton.mp hz]; exact hy⟩
theorem P_odd : ∀ d ∈ oddA ++ oddB, Vl (f_is_class [.st d]) (.bl false) := by
  have pa := P_are_points wa
  have c0 : ∀ x y : Int, (x = 0 ∨ x = 1) → (y = 0 ∨ y = 1) → dlt (tI [x]) (tI [y]) = false → Vl (f_is_class [.st (cls ["a"] [[x], [y]])]) (.bl false) := fun x y hx hy hd => by
    have q := P_is_classV wa (rs := [[x], [y]]) (by simp) (by simp) (bit1 hx hy)
    have e : (([[x], [y]] : List (List Int)).zip ([[x], [y]] : List (List Int)).tail).all (fun p => dlt (tI p.1) (tI p.2)) = false := by
      show (dlt (tI [x]) (tI [y]) && true) = false
      rw [hd]
      rfl
    rw [e] at q
    exact q
  have n00 : dlt (tI [0]) (tI [0]) = false := by
    cases h : dlt (tI [0]) (tI [0]) with
    | false => rfl
    | true => exact absurd ((dlt_rows [0] [0]).mp h) (List.lt_irrefl _)
  have n10 : dlt (tI [1]) (tI [0]) = false := by
    cases h : dlt (tI [1]) (tI [0]) with
    | false => rfl
    | true =>
      have q := (dlt_rows [1] [0]).mp h
      revert q
      decide
  intro d hd
  simp only [oddA, oddB, List.cons_append, List.nil_append, List.mem_cons, List.not_mem_nil, or_false] at hd
  rcases hd with rfl | rfl | rfl | rfl | rfl | rfl | rfl | rfl | rfl | rfl | rfl | rfl | rfl | rfl | rfl | rfl | rfl
  · exact ⟨_, rfl⟩
  · exact ⟨_, rfl⟩
  · exact ⟨_, rfl⟩
  · exact ⟨_, rfl⟩
  · exact ⟨_, rfl⟩
  · exact ⟨_, rfl⟩
  · exact ⟨_, rfl⟩
  · exact ⟨_, rfl⟩
  · exact ⟨_, rfl⟩
  · exact ⟨_, rfl⟩
  · exact ⟨_, rfl⟩
  · exact ⟨_, rfl⟩
  · exact class_no (a := false) (b := true) ⟨_, rfl⟩ rfl (.inl rfl)
  · exact class_no (a := true) (b := true) pa rfl (.inr rfl)
  · exact c0 0 0 (.inl rfl) (.inl rfl) n00
  · exact c0 1 0 (.inr rfl) (.inl rfl) n10
  · exact class_no (a := true) (b := false) pa rfl (.inl rfl)
end PU.C
set_option maxHeartbeats 1000000
set_option exponentiation.threshold 5000
namespace PU.C
open PySem PySem.Spec PyProof.Rows L2 PU
variable {ws : List Str} {rs : List (List Int)} {c : Cls0}
/-! ### numbers of rows that are none -/
def noNum (n : Nat) : D → Bool
  | .int i => !(decide (0 ≤ i) && decide (i < (n : Int)))
  | d => (tyN d).isSome
theorem chainLt {ρ : Ρ} {f g : Ev D} {x n : Int} (hf : f ρ = .ok (.int x) ρ) (hg : g ρ = .ok (.int n) ρ) : eChain dLe dLt (eK (.int 0)) f g ρ = .ok (.bl (decide (0 ≤ x) && decide (x < n))) ρ := by
  have d1 : dLe (.int 0) (.int x) = some (.bl (decide (0 ≤ x))) := rfl
  have d2 : dLt (.int x) (.int n) = some (.bl (decide (x < n))) := rfl
  by_cases q : 0 ≤ x
  · rw [decide_eq_true q] at d1 ⊢
    simp only [eChain, eK, Res.bind, hf, d1, lift, hg, d2, Bool.true_and]
  · rw [decide_eq_false q] at d1 ⊢
    simp only [eChain, eK, Res.bind, hf, d1, lift, Bool.false_and]
/-- the result of a def that raises -/
theorem def_ex {n : Nat} {B : Sv} {ss : List SV} {x : Xn} {ρ : Ρ} (h : B (ss ++ List.replicate (n - ss.length) .un) = .ex x ρ) : runDef n B ss = .ex x ρ := by
  unfold runDef; rw [h]
theorem eCall_ex {f : Fn} {L : Ev (List D)} {ρ ρ1 : Ρ} {ds : List D} {x : Xn} {τ : Ρ} (hL : L ρ = .ok ds ρ1) (h : f (stL ds) = .ex x τ) : eCall f L ρ = .ex x ρ1 := by
  simp only [eCall, hL, Res.bind, h]
theorem sExpr_ex {f : Ev D} {x : Xn} {ρ ρ1 : Ρ} (h : f ρ = .ex x ρ1) : sExpr f ρ = .ex x ρ1 := by
  unfold sExpr; rw [h]; rfl
theorem sSeq_ex {A B : Sv} {x : Xn} {ρ ρ1 : Ρ} (h : A ρ = .ex x ρ1) : sSeq A B ρ = .ex x ρ1 := by
  unfold sSeq; rw [h]; rfl
theorem P_bad_class {d : D} (h : Vl (f_is_class [.st d]) (.bl false)) : f_need_class c [.st d] = .ex ⟨c.BadClass, []⟩ [.st d] := by
  have e : tNotF (tV (eCall f_is_class (lCons (eV 0) lNil))) [.st d] = .ok true [.st d] := tNot_ok (b := false) (tV_ok (eCall_ok (l1_ok (eV_ok rfl)) h))
  exact def_ex (n := 1) (B := B_need_class c) ((sIf_t e).trans rfl)
theorem P_bad_row {d : D} (h : noNum rs.length d = true) : f_need_row c [.st (cls ws rs), .st d, .st (.str "number")] = .ex ⟨c.BadNumber, [("part", .str "number")]⟩ [.st (cls ws rs), .st d, .st (.str "number")] := by
  have hw : ∀ d : D, tyN d ≠ none → tNotF (tV (eCall f_is_whole (lCons (eV 1) lNil))) [.st (cls ws rs), .st d, .st (.str "number")] = .ok (!isInt d) [.st (cls ws rs), .st d, .st (.str "number")] := fun d hd => tNot_ok (tV_ok (eCall_ok (l1_ok (eV_ok rfl)) (P_is_whole d hd)))
  have t : tOrF (tNotF (tV (eCall f_is_whole (lCons (eV 1) lNil)))) (tNotF (tV (eChain dLe dLt (eK (.int 0)) (eV 1) lenRows))) [.st (cls ws rs), .st d, .st (.str "number")] = .ok true [.st (cls ws rs), .st d, .st (.str "number")] := by
    cases d with
    | int i =>
      have q := tNot_ok (tV_ok (chainLt (ρ := [.st (cls ws rs), .st (.int i), .st (.str "number")]) (f := eV 1) (eV_ok rfl) (lenRows_ok (ws := ws) (rs := rs) rfl)))
      have h' : (!(decide (0 ≤ i) && decide (i < (rs.length : Int)))) = true := h
      rw [h'] at q
      exact (tOr_f (hw (.int i) (by simp [tyN]))).trans q
    | exn a b => exact absurd h (by simp [noNum, tyN])
    | non => exact tOr_t (hw _ (by simp [tyN]))
    | bl b => exact tOr_t (hw _ (by simp [tyN]))
    | str x => exact tOr_t (hw _ (by simp [tyN]))
    | tup x => exact tOr_t (hw _ (by simp [tyN]))
    | lst x => exact tOr_t (hw _ (by simp [tyN]))
    | dct x => exact tOr_t (hw _ (by simp [tyN]))
  exact def_ex (n := 3) (B := B_need_row c) ((sIf_t t).trans rfl)
/-! ### lots that are none -/
theorem lot_no_tup {d : D} (h : dIsi "tuple" d = some (.bl false)) : Vl (f_is_lot [.st (cls ws rs), .st d]) (.bl false) := by
  have t1 : tNotF (tV (eUn (dIsi "tuple") (eV 1))) [.st (cls ws rs), .st d, .un, .un, .un] = .ok true [.st (cls ws rs), .st d, .un, .un, .un] := tNot_ok (b := false) (tV_ok (eUn_ok (eV_ok rfl) h))
  have fin : B_is_lot [.st (cls ws rs), .st d, .un, .un, .un] = .rt (.bl false) [.st (cls ws rs), .st d, .un, .un, .un] := sSeq_rt ((sIf_t (tOr_t t1)).trans (sRet_ok eK_ok))
  have g : f_is_lot [.st (cls ws rs), .st d] = noEx (runDef 5 B_is_lot [.st (cls ws rs), .st d]) := rfl
  refine ⟨[.st (cls ws rs), .st d, .un, .un, .un], ?_⟩
  rw [g]
  exact runDef_rt (n := 5) (B := B_is_lot) fin
theorem isTup {ds : List D} : tNotF (tV (eUn (dIsi "tuple") (eV 1))) [.st (cls ws rs), .st (.tup ds), .un, .un, .un] = .ok false [.st (cls ws rs), .st (.tup ds), .un, .un, .un] := tNot_ok (b := true) (tV_ok (eUn_ok (eV_ok rfl) rfl))
theorem lot_no_nil : Vl (f_is_lot [.st (cls ws rs), .st (.tup [])]) (.bl false) := by
  have t2 : tV (eBin dEq (eV 1) (eTup lNil)) [.st (cls ws rs), .st (.tup []), .un, .un, .un] = .ok true [.st (cls ws rs), .st (.tup []), .un, .un, .un] := tV_ok (eBin_ok (eV_ok rfl) (eTup_ok lNil_ok (by simp)) rfl)
  have fin : B_is_lot [.st (cls ws rs), .st (.tup []), .un, .un, .un] = .rt (.bl false) [.st (cls ws rs), .st (.tup []), .un, .un, .un] := sSeq_rt ((sIf_t ((tOr_f isTup).trans (tOr_t t2))).trans (sRet_ok eK_ok))
  have g : f_is_lot [.st (cls ws rs), .st (.tup [])] = noEx (runDef 5 B_is_lot [.st (cls ws rs), .st (.tup [])]) := rfl
  refine ⟨[.st (cls ws rs), .st (.tup []), .un, .un, .un], ?_⟩
  rw [g]
  exact runDef_rt (n := 5) (B := B_is_lot) fin
/-- one value that is no whole number -/
theorem lot_no_one {x : D} (hx : tyN x ≠ none) (hi : isInt x = false) (hq : dEq (.tup [x]) (.tup []) = some (.bl false)) : Vl (f_is_lot [.st (cls ws rs), .st (.tup [x])]) (.bl false) := by
  have t2 : tV (eBin dEq (eV 1) (eTup lNil)) [.st (cls ws rs), .st (.tup [x]), .un, .un, .un] = .ok false [.st (cls ws rs), .st (.tup [x]), .un, .un, .un] := tV_ok (eBin_ok (eV_ok rfl) (eTup_ok lNil_ok (by simp)) hq)
  have c1 := itmComp (k := 4) (ρ := [.st (cls ws rs), .st (.tup [x]), .un, .un, .un]) (ρ1 := [.st (cls ws rs), .st (.tup [x]), .un, .un, .un]) (I := iAny (eV 1)) (te := eCall f_is_whole (lCons (eV 4) lNil)) [x] (fun d => d) (fun d => D.bl (isInt d)) (iAny_tup (eV_ok rfl)) (by simp) rfl fun d hd => eCall_ok (l1_ok (eV_ok rfl)) (P_is_whole d (by rw [List.mem_singleton.mp hd]; exact hx))
  have a1 : dAll [.lst ([x].map fun d => D.bl (isInt d))] = some (.bl false) := by
    rw [dAll_bls [x] isInt]
    simp [hi]
  have t3 := tNot_ok (tV_ok (eCB_ok (l1_ok (eFz_ok c1)) a1))
  have fin : B_is_lot [.st (cls ws rs), .st (.tup [x]), .un, .un, .un] = .rt (.bl false) [.st (cls ws rs), .st (.tup [x]), .un, .un, .un] := sSeq_rt ((sIf_t ((tOr_f isTup).trans ((tOr_f t2).trans t3))).trans (sRet_ok eK_ok))
  have g : f_is_lot [.st (cls ws rs), .st (.tup [x])] = noEx (runDef 5 B_is_lot [.st (cls ws rs), .st (.tup [x])]) := rfl
  refine ⟨[.st (cls ws rs), .st (.tup [x]), .un, .un, .un], ?_⟩
  rw [g]
  exact runDef_rt (n := 5) (B := B_is_lot) fin
/-- whole numbers, out of the rows' or not ascending -/
theorem lot_no_ints {L : List Int} (hne : L ≠ []) (hl : L.length ≤ 24) (h : (∃ x ∈ L, x < 0 ∨ (rs.length : Int) ≤ x) ∨ ∃ q ∈ L.zip L.tail, q.2 ≤ q.1) : Vl (f_is_lot [.st (cls ws rs), .st (tI L)]) (.bl false) := by
  have v1 : ∀ {ρ : Ρ}, svAt ρ 1 = .st (tI L) → iAny (eV 1) ρ = .ok (L.map D.int) ρ := fun h => iAny_tup (eV_ok h)
  have c1 := itmComp (k := 4) (ρ := [.st (cls ws rs), .st (tI L), .un, .un, .un]) (ρ1 := [.st (cls ws rs), .st (tI L), .un, .un, .un]) (I := iAny (eV 1)) (te := eCall f_is_whole (lCons (eV 4) lNil)) L D.int (fun _ => D.bl true) (v1 rfl) (by omega) rfl fun x _ => eCall_ok (l1_ok (eV_ok rfl)) (P_is_whole (.int x) (by simp [tyN]))
  have a1 : dAll [.lst (L.map fun _ => D.bl true)] = some (.bl true) := by
    rw [dAll_bls L fun _ => true]
    simp
  have c2 := itmComp (k := 4) (ρ := [.st (cls ws rs), .st (tI L), .un, .un, .un]) (ρ1 := [.st (cls ws rs), .st (tI L), .un, .un, .un]) (I := iAny (eV 1)) (te := eChain dLe dLt (eK (.int 0)) (eV 4) lenRows) L D.int (fun x => D.bl (decide (0 ≤ x) && decide (x < (rs.length : Int)))) (v1 rfl) (by omega) rfl fun x hx => chainLt (eV_ok rfl) (lenRows_ok (ws := ws) (rs := rs) rfl)
  have a2 := dAll_bls L fun x => decide (0 ≤ x) && decide (x < (rs.length : Int))
  have zp : iCall dZip (lCons (eV 1) (lCons (eSl (eV 1) (poS (eK (.int 1))) poN) lNil)) [.st (cls ws rs), .st (tI L), .un, .un, .un] = .ok ((L.zip L.tail).map fun q => D.tup [.int q.1, .int q.2]) [.st (cls ws rs), .st (tI L), .un, .un, .un] := by
    refine iCall_ok (l2_ok (eV_ok rfl) (eSl_ok (eV_ok rfl) (poS_ok eK_ok) poN_ok (tI_drop L 1))) ?_
    show some (zipD (L.map .int) ((L.drop 1).map .int)) = _
    unfold zipD
    rw [List.drop_one, List.zip_map, List.map_map]
    exact rfl
  have c3 := fltT (I := iCall dZip (lCons (eV 1) (lCons (eSl (eV 1) (poS (eK (.int 1))) poN) lNil))) (T := tgT [2, 3]) (tt := tYesF) (te := eBin dLt (eV 2) (eV 3)) (vs := [2, 3]) (ρ := [.st (cls ws rs), .st (tI L), .un, .un, .un]) (ρ1 := [.st (cls ws rs), .st (tI L), .un, .un, .un]) (L.zip L.tail) (fun q => D.tup [.int q.1, .int q.2]) (fun q => D.bl (decide (q.1 < q.2))) (fun _ => true) zp (by rw [List.length_zip]; omega) rfl fun q hq =>
    ⟨[.st (cls ws rs), .st (tI L), .st (.int q.1), .st (.int q.2), .un], rfl, rfl, eBin_ok (eV_ok rfl) (eV_ok rfl) rfl, rfl⟩
  rw [flt_true] at c3
  have a3 := dAll_bls (L.zip L.tail) fun q => decide (q.1 < q.2)
  have t2 : tV (eBin dEq (eV 1) (eTup lNil)) [.st (cls ws rs), .st (tI L), .un, .un, .un] = .ok false [.st (cls ws rs), .st (tI L), .un, .un, .un] := tV_ok (eBin_ok (eV_ok rfl) (eTup_ok lNil_ok (by simp)) (dEq_nil hne))
  have t3 := tNot_ok (tV_ok (eCB_ok (l1_ok (eFz_ok c1)) a1))
  have t4 := tNot_ok (tV_ok (eCB_ok (l1_ok (eFz_ok c2)) a2))
  have fin : B_is_lot [.st (cls ws rs), .st (tI L), .un, .un, .un] = .rt (.bl false) [.st (cls ws rs), .st (tI L), .un, .un, .un] := by
    refine (sSeq_ok ((sIf_f ((tOr_f isTup).trans ((tOr_f t2).trans t3))).trans sNop_ok)).trans ?_
    by_cases hr : (L.all fun x => decide (0 ≤ x) && decide (x < (rs.length : Int))) = true
    · have h3 : (L.zip L.tail).all (fun q => decide (q.1 < q.2)) = false := by
        rcases h with ⟨x, hx, hb⟩ | ⟨q, hq, hb⟩
        · have z := List.all_eq_true.mp hr x hx
          simp only [Bool.and_eq_true, decide_eq_true_eq] at z
          omega
        · cases e : (L.zip L.tail).all (fun q => decide (q.1 < q.2)) with
          | false => rfl
          | true =>
            have z := List.all_eq_true.mp e q hq
            simp only [decide_eq_true_eq] at z
            omega
      rw [hr] at t4
      rw [h3] at a3
      exact (sSeq_ok ((sIf_f t4).trans sNop_ok)).trans (sRet_ok (eCB_ok (l1_ok (eFz_ok c3)) a3))
    · have hr' : (L.all fun x => decide (0 ≤ x) && decide (x < (rs.length : Int))) = false := by simpa using hr
      rw [hr'] at t4
      exact sSeq_rt ((sIf_t t4).trans (sRet_ok eK_ok))
  have g : f_is_lot [.st (cls ws rs), .st (tI L)] = noEx (runDef 5 B_is_lot [.st (cls ws rs), .st (tI L)]) := rfl
  refine ⟨[.st (cls ws rs), .st (tI L), .un, .un, .un], ?_⟩
  rw [g]
  exact runDef_rt (n := 5) (B := B_is_lot) fin
theorem P_bad_lot {d : D} (h : Vl (f_is_lot [.st (cls ws rs), .st d]) (.bl false)) : f_need_lot c [.st (cls ws rs), .st d] = .ex ⟨c.BadNumbers, []⟩ [.st (cls ws rs), .st d] := by
  have e : tNotF (tV (eCall f_is_lot (lCons (eV 0) (lCons (eV 1) lNil)))) [.st (cls ws rs), .st d] = .ok true [.st (cls ws rs), .st d] := tNot_ok (b := false) (tV_ok (eCall_ok (l2_ok (eV_ok rfl) (eV_ok rfl)) h))
  exact def_ex (n := 2) (B := B_need_lot c) ((sIf_t e).trans rfl)
end PU.C
set_option maxHeartbeats 1000000
set_option exponentiation.threshold 5000
namespace PU.C
open PySem PySem.Spec PyProof.Rows L2 PU
variable {ws : List Str} {rs : List (List Int)} {c : Cls0} {s : DrS}
/-! ### values drawn to be refused -/
theorem pick_mem {b : Nat} (h : DrI b s) (hb : b ≤ BIG) {ρ : Ρ} {i : Nat} {X : Ev D} {ds : List D} (h0 : svAt ρ i = .dr s) (hX : X ρ = .ok (.lst ds) ρ) (hn : 0 < ds.length) (hz : ds.length ≤ 1048576) :
    ∃ d ∈ ds, ∃ s', eCall1 i f__law_pick (lCons X lNil) ρ = .ok d (ρ.set i (.dr s')) ∧ DrI (b + 1) s' := by
  have bd := drawV_bd s (room := (ds.length : Int)) (by omega)
  have hk : (drawV s ds.length).toNat < ds.length := by omega
  exact ⟨ds[(drawV s ds.length).toNat], List.getElem_mem hk, drawS s ds.length, ev_pick h hb h0 hX hn hz (List.getElem?_eq_getElem hk), h.draw (by omega)⟩
theorem P_oddc {b : Nat} (h : DrI b s) (hb : b ≤ BIG) : ∃ d ∈ oddA ++ oddB, ∃ s' l, f__law_odd [.dr s] = .ok d (.dr s' :: l) ∧ DrI (b + 1) s' := by
  have f1 : B__law_odd = sSeq (sSet 1 (eLst (lCons (eK .non) (lCons (eK (.bl true)) (lCons (eK (.int 0)) (lCons (eK (.int 5)) (lCons (eK (.str "")) (lCons (eK (.str "class")) (lCons (eTup lNil) (lCons (eLst lNil) (lCons eD0 (lCons (eTup (lCons (eTup (lCons (eK (.int 0)) (lCons (eK (.int 1)) lNil))) (lCons (eTup (lCons (eK (.int 1)) (lCons (eK (.int 1)) lNil))) lNil))) (lCons (eTup (lCons (eK (.str "class")) lNil)) (lCons (eTup (lCons (eK (.str "class")) (lCons (eTup lNil) lNil))) (lCons (eTup (lCons (eK (.str "class")) (lCons (eTup lNil) (lCons (eTup lNil) lNil)))) lNil)))))))))))))))
    (sRet (eCall1 0 f__law_pick (lCons (eBin dAdd (eV 1) (eLst (lCons (eTup (lCons (eK (.str "class")) (lCons (eTup (lCons (eK (.str "a")) lNil)) (lCons (eTup lNil) lNil)))) (lCons (eTup (lCons (eK (.str "class")) (lCons (eTup (lCons (eK (.str "a")) lNil)) (lCons (eTup (lCons (eTup (lCons (eK (.int 0)) lNil)) (lCons (eTup (lCons (eK (.int 0)) lNil)) lNil))) lNil)))) (lCons (eTup (lCons (eK (.str "class")) (lCons (eTup (lCons (eK (.str "a")) lNil)) (lCons (eTup (lCons (eTup (lCons (eK (.int 1)) lNil)) (lCons (eTup (lCons (eK (.int 0)) lNil)) lNil))) lNil)))) (lCons (eTup (lCons (eK (.str "class")) (lCons (eTup (lCons (eK (.str "a")) lNil)) (lCons (eLst (lCons (eTup (lCons (eK (.int 0)) lNil)) lNil)) lNil)))) lNil)))))) lNil))) := rfl
  have e1 : eLst (lCons (eK .non) (lCons (eK (.bl true)) (lCons (eK (.int 0)) (lCons (eK (.int 5)) (lCons (eK (.str "")) (lCons (eK (.str "class")) (lCons (eTup lNil) (lCons (eLst lNil) (lCons eD0 (lCons (eTup (lCons (eTup (lCons (eK (.int 0)) (lCons (eK (.int 1)) lNil))) (lCons (eTup (lCons (eK (.int 1)) (lCons (eK (.int 1)) lNil))) lNil))) (lCons (eTup (lCons (eK (.str "class")) lNil)) (lCons (eTup (lCons (eK (.str "class")) (lCons (eTup lNil) lNil))) (lCons (eTup (lCons (eK (.str "class")) (lCons (eTup lNil) (lCons (eTup lNil) lNil)))) lNil))))))))))))) [.dr s, .un] = .ok (.lst oddA) [.dr s, .un] :=
    eLst_ok (lCons_ok eK_ok (lCons_ok eK_ok (lCons_ok eK_ok (lCons_ok eK_ok (lCons_ok eK_ok (lCons_ok eK_ok (lCons_ok (eTup_ok lNil_ok (by simp)) (lCons_ok (eLst_ok lNil_ok (by simp)) (lCons_ok rfl (lCons_ok (eTup_ok (l2_ok (eTup_ok (l2_ok eK_ok eK_ok) (by simp)) (eTup_ok (l2_ok eK_ok eK_ok) (by simp))) (by simp)) (lCons_ok (eTup_ok (l1_ok eK_ok) (by simp)) (lCons_ok (eTup_ok (l2_ok eK_ok (eTup_ok lNil_ok (by simp))) (by simp)) (lCons_ok (eTup_ok (lCons_ok eK_ok (l2_ok (eTup_ok lNil_ok (by simp)) (eTup_ok lNil_ok (by simp)))) (by simp)) lNil_ok))))))))))))) (by show 13 ≤ 1000; decide)
  have g1 := sSet_ok (i := 1) e1
  have p1 : ∀ {ρ : Ρ}, eTup (lCons (eK (.str "a")) lNil) ρ = .ok (.tup [.str "a"]) ρ := eTup_ok (l1_ok eK_ok) (by simp)
  have e2 : eLst (lCons (eTup (lCons (eK (.str "class")) (lCons (eTup (lCons (eK (.str "a")) lNil)) (lCons (eTup lNil) lNil)))) (lCons (eTup (lCons (eK (.str "class")) (lCons (eTup (lCons (eK (.str "a")) lNil)) (lCons (eTup (lCons (eTup (lCons (eK (.int 0)) lNil)) (lCons (eTup (lCons (eK (.int 0)) lNil)) lNil))) lNil)))) (lCons (eTup (lCons (eK (.str "class")) (lCons (eTup (lCons (eK (.str "a")) lNil)) (lCons (eTup (lCons (eTup (lCons (eK (.int 1)) lNil)) (lCons (eTup (lCons (eK (.int 0)) lNil)) lNil))) lNil)))) (lCons (eTup (lCons (eK (.str "class")) (lCons (eTup (lCons (eK (.str "a")) lNil)) (lCons (eLst (lCons (eTup (lCons (eK (.int 0)) lNil)) lNil)) lNil)))) lNil)))) [.dr s, .st (.lst oddA)] = .ok (.lst oddB) [.dr s, .st (.lst oddA)] :=
    eLst_ok (lCons_ok (eTup_ok (lCons_ok eK_ok (l2_ok p1 (eTup_ok lNil_ok (by simp)))) (by simp)) (lCons_ok (eTup_ok (lCons_ok eK_ok (l2_ok p1 (eTup_ok (l2_ok (eTup_ok (l1_ok eK_ok) (by simp)) (eTup_ok (l1_ok eK_ok) (by simp))) (by simp)))) (by simp)) (lCons_ok (eTup_ok (lCons_ok eK_ok (l2_ok p1 (eTup_ok (l2_ok (eTup_ok (l1_ok eK_ok) (by simp)) (eTup_ok (l1_ok eK_ok) (by simp))) (by simp)))) (by simp)) (l1_ok (eTup_ok (lCons_ok eK_ok (l2_ok p1 (eLst_ok (l1_ok (eTup_ok (l1_ok eK_ok) (by simp))) (by simp)))) (by simp)))))) (by show 4 ≤ 1000; decide)
  obtain ⟨d, hd, s', ep, h'⟩ := pick_mem h hb (ρ := [.dr s, .st (.lst oddA)]) (i := 0) rfl (eBin_ok (g := dAdd) (z := .lst (oddA ++ oddB)) (eV_ok (i := 1) rfl) e2 (dAdd_lst (by decide))) (by decide) (by decide)
  have fin : B__law_odd [.dr s, .un] = .rt d [.dr s', .st (.lst oddA)] := by
    rw [f1, sSeq_ok g1]
    exact sRet_ok ep
  have g : f__law_odd [.dr s] = noEx (runDef 2 B__law_odd [.dr s]) := rfl
  refine ⟨d, hd, s', [.st (.lst oddA)], ?_, h'⟩
  rw [g]
  exact runDef_rt (n := 2) (B := B__law_odd) fin
/-- what is drawn for a number that is none -/
def noN (n : Nat) : List D := [.non, .int (-1), .int (n : Int), .bl true, .str "0", .tup [.int 0], .int (10 ^ 18), .int (0 - (n : Int))]
theorem noN_no {n : Nat} (h1 : 1 ≤ n) (h24 : n ≤ 24) : ∀ d ∈ noN n, noNum n d = true := fun d hd => by
  simp only [noN, List.mem_cons, List.not_mem_nil, or_false] at hd
  rcases hd with rfl | rfl | rfl | rfl | rfl | rfl | rfl | rfl
  · rfl
  · rfl
  · show (!(decide (0 ≤ (n : Int)) && decide ((n : Int) < (n : Int)))) = true
    simp
  · rfl
  · rfl
  · rfl
  · show (!(decide (0 ≤ (10 ^ 18 : Int)) && decide ((10 ^ 18 : Int) < (n : Int)))) = true
    rw [decide_eq_false (by omega : ¬ (10 ^ 18 : Int) < (n : Int)), Bool.and_false]
    rfl
  · show (!(decide (0 ≤ (0 - (n : Int))) && decide ((0 - (n : Int)) < (n : Int)))) = true
    rw [decide_eq_false (by omega : ¬ 0 ≤ (0 - (n : Int))), Bool.false_and]
    rfl
theorem pow18 : dPow (.int 10) (.int 18) = some (.int (10 ^ 18)) := by
  have h : powOk 10 18 = true := by decide +kernel
  show (if powOk 10 18 = true then some (D.int ((10 : Int) ^ (18 : Int).toNat)) else none) = _
  rw [if_pos h]
  rfl
theorem P_noN {b n : Nat} (h : DrI b s) (hb : b ≤ BIG) : ∃ d ∈ noN n, ∃ s' l, f__law_sh_no_number [.dr s, .st (.int (n : Int))] = .ok d (.dr s' :: l) ∧ DrI (b + 1) s' := by
  have e : eLst (lCons (eK .non) (lCons (eUn dNeg (eK (.int 1))) (lCons (eV 1) (lCons (eK (.bl true)) (lCons (eK (.str "0")) (lCons (eTup (lCons (eK (.int 0)) lNil)) (lCons (eBin dPow (eK (.int 10)) (eK (.int 18))) (lCons (eBin dSub (eK (.int 0)) (eV 1)) lNil)))))))) [.dr s, .st (.int (n : Int))] = .ok (.lst (noN n)) [.dr s, .st (.int (n : Int))] :=
    eLst_ok (lCons_ok eK_ok (lCons_ok (eUn_ok eK_ok rfl) (lCons_ok (eV_ok rfl) (lCons_ok eK_ok (lCons_ok eK_ok (lCons_ok (eTup_ok (l1_ok eK_ok) (by simp)) (l2_ok (eBin_ok eK_ok eK_ok pow18) (eBin_ok eK_ok (eV_ok rfl) rfl)))))))) (by show 8 ≤ 1000; decide)
  obtain ⟨d, hd, s', ep, h'⟩ := pick_mem h hb (ρ := [.dr s, .st (.int (n : Int))]) (i := 0) (ds := noN n) rfl e (by show 0 < 8; decide) (by show 8 ≤ 1048576; decide)
  have fin : B__law_sh_no_number [.dr s, .st (.int (n : Int))] = .rt d [.dr s', .st (.int (n : Int))] := sRet_ok ep
  have g : f__law_sh_no_number [.dr s, .st (.int (n : Int))] = noEx (runDef 2 B__law_sh_no_number [.dr s, .st (.int (n : Int))]) := rfl
  refine ⟨d, hd, s', [.st (.int (n : Int))], ?_, h'⟩
  rw [g]
  exact runDef_rt (n := 2) (B := B__law_sh_no_number) fin
/-- what is drawn for a lot that is none -/
def badL (n : Nat) : List D := [.non, .int 5, .tup [], .lst [.int 0], tI [(n : Int)], tI [-1], .tup [.bl true], tI [0, 0], .tup [.str "0"], .tup [.non], tI [(n : Int) - 1, 0], .dct [(.int 0, .int 1)]]
theorem badL_no (h1 : 1 ≤ rs.length) : ∀ d ∈ badL rs.length, Vl (f_is_lot [.st (cls ws rs), .st d]) (.bl false) := fun d hd => by
  simp only [badL, List.mem_cons, List.not_mem_nil, or_false] at hd
  rcases hd with rfl | rfl | rfl | rfl | rfl | rfl | rfl | rfl | rfl | rfl | rfl | rfl
  · exact lot_no_tup rfl
  · exact lot_no_tup rfl
  · exact lot_no_nil
  · exact lot_no_tup rfl
  · exact lot_no_ints (by simp) (by simp) (.inl ⟨_, List.mem_cons_self, .inr (Int.le_refl _)⟩)
  · exact lot_no_ints (by simp) (by simp) (.inl ⟨_, List.mem_cons_self, .inl (by decide)⟩)
  · exact lot_no_one (by simp [tyN]) rfl rfl
  · exact lot_no_ints (by simp) (by simp) (.inr ⟨(0, 0), List.mem_cons_self, Int.le_refl _⟩)
  · refine lot_no_one (by simp [tyN]) rfl ?_
    have o : PU.okd 60 (.tup [.str "0"]) = true := by
      show ([D.str "0"].all (PU.okd 59)) = true
      have z : PyData.strOk "0" = true := by decide +kernel
      simp [PU.okd, z]
    unfold dEq
    rw [o]
    rfl
  · exact lot_no_one (by simp [tyN]) rfl rfl
  · refine lot_no_ints (by simp) (by simp) (.inr ⟨((rs.length : Int) - 1, 0), List.mem_cons_self, ?_⟩)
    show (0 : Int) ≤ (rs.length : Int) - 1
    omega
  · exact lot_no_tup rfl
end PU.C
set_option maxHeartbeats 1000000
set_option exponentiation.threshold 5000
namespace PU.C
open PySem PySem.Spec PyProof.Rows L2 PU
variable {ws : List Str} {rs : List (List Int)} {c : Cls0} {s : DrS}
/-! ### _law_is_refused -/
theorem caught_ok {cs : List Addr} {f : Ev D} {ρ ρ1 : Ρ} {x : Xn} (h : f ρ = .ex x ρ1) (hc : cs.contains x.C = true) : eCaught cs f ρ = .ok (.exn x.C x.fs) ρ1 := by
  simp only [eCaught, h, hc, if_true]
theorem cB : c.caught.contains c.BadClass = true := by simp [Cls0.caught]
theorem cN : c.caught.contains c.BadNumber = true := by simp [Cls0.caught]
theorem cNs : c.caught.contains c.BadNumbers = true := by simp [Cls0.caught]
theorem edges_bad {d : D} (h : Vl (f_is_class [.st d]) (.bl false)) : ∃ τ, f_edges c [.st d] = .ex ⟨c.BadClass, []⟩ τ :=
  ⟨[.st d], def_ex (n := 1) (B := B_edges c) (sSeq_ex (sExpr_ex (eCall_ex (ρ1 := [.st d]) (ds := [d]) (l1_ok (eV_ok rfl)) (P_bad_class h))))⟩
theorem edges_at_bad {d e : D} (h : Vl (f_is_class [.st d]) (.bl false)) : ∃ τ, f_edges_at c [.st d, .st e] = .ex ⟨c.BadClass, []⟩ τ :=
  ⟨[.st d, .st e, .un, .un], def_ex (n := 4) (B := B_edges_at c) (sSeq_ex (sExpr_ex (eCall_ex (ρ1 := [.st d, .st e, .un, .un]) (ds := [d]) (l1_ok (eV_ok rfl)) (P_bad_class h))))⟩
theorem edges_within_bad {d e : D} (h : Vl (f_is_class [.st d]) (.bl false)) : ∃ τ, f_edges_within c [.st d, .st e] = .ex ⟨c.BadClass, []⟩ τ :=
  ⟨[.st d, .st e], def_ex (n := 2) (B := B_edges_within c) (sSeq_ex (sExpr_ex (eCall_ex (ρ1 := [.st d, .st e]) (ds := [d]) (l1_ok (eV_ok rfl)) (P_bad_class h))))⟩
theorem edges_at_no (co : COk ws rs) {d : D} (h : noNum rs.length d = true) : ∃ τ, f_edges_at c [.st (cls ws rs), .st d] = .ex ⟨c.BadNumber, [("part", .str "number")]⟩ τ := by
  have f1 : sExpr (eCall (f_need_class c) (lCons (eV 0) lNil)) [.st (cls ws rs), .st d, .un, .un] = .nx [.st (cls ws rs), .st d, .un, .un] := sExpr_ok (eCall_ok (l1_ok (eV_ok rfl)) (P_need_class co))
  have f2 : sExpr (eCall (f_need_row c) (lCons (eV 0) (lCons (eV 1) (lCons (eK (.str "number")) lNil)))) [.st (cls ws rs), .st d, .un, .un] = .ex ⟨c.BadNumber, [("part", .str "number")]⟩ [.st (cls ws rs), .st d, .un, .un] := sExpr_ex (eCall_ex (lCons_ok (eV_ok rfl) (l2_ok (eV_ok rfl) eK_ok)) (P_bad_row h))
  exact ⟨_, def_ex (n := 4) (B := B_edges_at c) ((sSeq_ok f1).trans (sSeq_ex f2))⟩
theorem edges_within_no (co : COk ws rs) {d : D} (h : Vl (f_is_lot [.st (cls ws rs), .st d]) (.bl false)) : ∃ τ, f_edges_within c [.st (cls ws rs), .st d] = .ex ⟨c.BadNumbers, []⟩ τ := by
  have f1 : sExpr (eCall (f_need_class c) (lCons (eV 0) lNil)) [.st (cls ws rs), .st d] = .nx [.st (cls ws rs), .st d] := sExpr_ok (eCall_ok (l1_ok (eV_ok rfl)) (P_need_class co))
  have f2 : sExpr (eCall (f_need_lot c) (lCons (eV 0) (lCons (eV 1) lNil))) [.st (cls ws rs), .st d] = .ex ⟨c.BadNumbers, []⟩ [.st (cls ws rs), .st d] := sExpr_ex (eCall_ex (l2_ok (eV_ok rfl) (eV_ok rfl)) (P_bad_lot h))
  exact ⟨_, def_ex (n := 2) (B := B_edges_within c) ((sSeq_ok f1).trans (sSeq_ex f2))⟩
theorem Pl_number : Pl (.str "number") := ⟨0, by omega, show PyData.strOk "number" = true by decide +kernel⟩
theorem P_refused {b : Nat} (h : DrI b s) (hb : b + 10 ≤ BIG) (co : COk ws rs) : ∃ s' l, f__law_is_refused c [.dr s, .st (cls ws rs)] = .ok (.bl true) (.dr s' :: l) ∧ DrI (b + 10) s' := by
  have n1 := co.len1
  have n24 := co.len24
  obtain ⟨odd, ho, s1, l1', e1, h1⟩ := P_oddc h (by omega)
  have hodd := P_odd odd ho
  have o1 : eCall1 0 f__law_odd lNil [.dr s, .st (cls ws rs), .un, .un, .un, .un, .un, .un] = .ok odd [.dr s1, .st (cls ws rs), .un, .un, .un, .un, .un, .un] := call1_ok (ds := []) (l := l1') rfl lNil_ok rfl e1
  have lr : eCB dLen (lCons (eBin dIx (eV 1) (eK (.int 2))) lNil) [.dr s1, .st (cls ws rs), .un, .un, .un, .un, .un, .un] = .ok (.int (rs.length : Int)) [.dr s1, .st (cls ws rs), .un, .un, .un, .un, .un, .un] := eCB_ok (l1_ok (eBin_ok (eV_ok rfl) eK_ok (cls2 ws rs))) (len_tup tI rs)
  have f1 : sAsg (tgT [2, 3]) (eTup (lCons (eCall1 0 f__law_odd lNil) (lCons (eCB dLen (lCons (eBin dIx (eV 1) (eK (.int 2))) lNil)) lNil))) [.dr s, .st (cls ws rs), .un, .un, .un, .un, .un, .un] = .nx [.dr s1, .st (cls ws rs), .st odd, .st (.int (rs.length : Int)), .un, .un, .un, .un] := sAsg_ok (eTup_ok (l2_ok o1 lr) (by simp)) rfl
  have eb : eLst (lCons (eK .non) (lCons (eK (.int 5)) (lCons (eTup lNil) (lCons (eLst (lCons (eK (.int 0)) lNil)) (lCons (eTup (lCons (eV 3) lNil)) (lCons (eTup (lCons (eUn dNeg (eK (.int 1))) lNil)) (lCons (eTup (lCons (eK (.bl true)) lNil)) (lCons (eTup (lCons (eK (.int 0)) (lCons (eK (.int 0)) lNil))) (lCons (eTup (lCons (eK (.str "0")) lNil)) (lCons (eTup (lCons (eK .non) lNil)) (lCons (eTup (lCons (eBin dSub (eV 3) (eK (.int 1))) (lCons (eK (.int 0)) lNil))) (lCons (eK (.dct [(.int 0, .int 1)])) lNil)))))))))))) [.dr s1, .st (cls ws rs), .st odd, .st (.int (rs.length : Int)), .un, .un, .un, .un] = .ok (.lst (badL rs.length)) [.dr s1, .st (cls ws rs), .st odd, .st (.int (rs.length : Int)), .un, .un, .un, .un] :=
    eLst_ok (lCons_ok eK_ok (lCons_ok eK_ok (lCons_ok (eTup_ok lNil_ok (by simp)) (lCons_ok (eLst_ok (l1_ok eK_ok) (by simp)) (lCons_ok (eTup_ok (l1_ok (eV_ok rfl)) (by simp)) (lCons_ok (eTup_ok (l1_ok (eUn_ok eK_ok rfl)) (by simp)) (lCons_ok (eTup_ok (l1_ok eK_ok) (by simp)) (lCons_ok (eTup_ok (l2_ok eK_ok eK_ok) (by simp)) (lCons_ok (eTup_ok (l1_ok eK_ok) (by simp)) (lCons_ok (eTup_ok (l1_ok eK_ok) (by simp)) (l2_ok (eTup_ok (l2_ok (eBin_ok (eV_ok rfl) eK_ok rfl) eK_ok) (by simp)) eK_ok))))))))))) (by show 12 ≤ 1000; decide)
  obtain ⟨bad, hbad, s2, e2, h2⟩ := pick_mem h1 (by omega) (ρ := [.dr s1, .st (cls ws rs), .st odd, .st (.int (rs.length : Int)), .un, .un, .un, .un]) (i := 0) (ds := badL rs.length) rfl eb (by show 0 < 12; decide) (by show 12 ≤ 1048576; decide)
  have f2 := sSet_ok (i := 4) e2
  have hnl := badL_no (ws := ws) (rs := rs) n1 bad hbad
  obtain ⟨num, hnum, s3, l3, e3, h3⟩ := P_noN (n := rs.length) h2 (by omega)
  have hn := noN_no n1 n24 num hnum
  have o3 : eCall1 0 f__law_sh_no_number (lCons (eV 3) lNil) [.dr s2, .st (cls ws rs), .st odd, .st (.int (rs.length : Int)), .st bad, .un, .un, .un] = .ok num [.dr s3, .st (cls ws rs), .st odd, .st (.int (rs.length : Int)), .st bad, .un, .un, .un] := call1_ok (l := l3) rfl (l1_ok (eV_ok rfl)) rfl e3
  have f3 := sSet_ok (i := 5) o3
  obtain ⟨τ1, b1⟩ := edges_bad (c := c) hodd
  obtain ⟨τ2, b2⟩ := edges_at_bad (c := c) (e := num) hodd
  obtain ⟨τ3, b3⟩ := edges_within_bad (c := c) (e := bad) hodd
  obtain ⟨τ4, b4⟩ := edges_at_no (c := c) co hn
  obtain ⟨τ5, b5⟩ := edges_within_no (c := c) co hnl
  have f4 : sSet 6 (eLst (lCons (eCaught c.caught (eCall (f_edges c) (lCons (eV 2) lNil))) (lCons (eCaught c.caught (eCall (f_edges_at c) (lCons (eV 2) (lCons (eV 5) lNil)))) (lCons (eCaught c.caught (eCall (f_edges_within c) (lCons (eV 2) (lCons (eV 4) lNil)))) lNil)))) [.dr s3, .st (cls ws rs), .st odd, .st (.int (rs.length : Int)), .st bad, .st num, .un, .un]
      = .nx [.dr s3, .st (cls ws rs), .st odd, .st (.int (rs.length : Int)), .st bad, .st num, .st (.lst [.exn c.BadClass [], .exn c.BadClass [], .exn c.BadClass []]), .un] :=
    (sSet_ok (eLst_ok (lCons_ok (caught_ok (eCall_ex (l1_ok (eV_ok rfl)) b1) cB) (l2_ok (caught_ok (eCall_ex (l2_ok (eV_ok rfl) (eV_ok rfl)) b2) cB) (caught_ok (eCall_ex (l2_ok (eV_ok rfl) (eV_ok rfl)) b3) cB))) (by simp))).trans rfl
  have isB : ∀ (x : Addr) (fs : List (Str × D)), dIsE [(x, true)] (.exn x fs) = some (.bl true) := fun x fs => by simp [dIsE]
  have k5 := fltComp (k := 7) (te := eK (.int 1)) (tt := tNotF (tV (eUn (dIsE [(c.BadClass, true)]) (eV 7)))) (I := iAny (eV 6)) (ρ := [.dr s3, .st (cls ws rs), .st odd, .st (.int (rs.length : Int)), .st bad, .st num, .st (.lst [.exn c.BadClass [], .exn c.BadClass [], .exn c.BadClass []]), .un]) (ρ1 := [.dr s3, .st (cls ws rs), .st odd, .st (.int (rs.length : Int)), .st bad, .st num, .st (.lst [.exn c.BadClass [], .exn c.BadClass [], .exn c.BadClass []]), .un]) [D.exn c.BadClass [], .exn c.BadClass [], .exn c.BadClass []] (fun d => d) (fun _ => D.int 1) (fun _ => false) (iAny_lst (eV_ok rfl)) (by simp) rfl (fun x hx => tNot_ok (b := true) (tV_ok (eUn_ok (eV_ok rfl) (by
      have e : x = .exn c.BadClass [] := by simpa using hx
      rw [e]
      exact isB _ _)))) (fun _ _ _ => eK_ok)
  have n0 : dNe (.lst []) (.lst []) = some (.bl false) := rfl
  have f5 : sIf (tV (eBin dNe (eFz (nLc (iAny (eV 6)) (tgN 7) (tNotF (tV (eUn (dIsE [(c.BadClass, true)]) (eV 7)))) (eK (.int 1)) [7])) (eLst lNil))) (sRet (eK (.bl false))) sNop [.dr s3, .st (cls ws rs), .st odd, .st (.int (rs.length : Int)), .st bad, .st num, .st (.lst [.exn c.BadClass [], .exn c.BadClass [], .exn c.BadClass []]), .un]
      = .nx [.dr s3, .st (cls ws rs), .st odd, .st (.int (rs.length : Int)), .st bad, .st num, .st (.lst [.exn c.BadClass [], .exn c.BadClass [], .exn c.BadClass []]), .un] :=
    (sIf_f (tV_ok (eBin_ok (eFz_ok k5) (eLst_ok lNil_ok (by simp)) n0))).trans sNop_ok
  have f6 : sSet 7 (eCaught c.caught (eCall (f_edges_at c) (lCons (eV 1) (lCons (eV 5) lNil)))) [.dr s3, .st (cls ws rs), .st odd, .st (.int (rs.length : Int)), .st bad, .st num, .st (.lst [.exn c.BadClass [], .exn c.BadClass [], .exn c.BadClass []]), .un]
      = .nx [.dr s3, .st (cls ws rs), .st odd, .st (.int (rs.length : Int)), .st bad, .st num, .st (.lst [.exn c.BadClass [], .exn c.BadClass [], .exn c.BadClass []]), .st (.exn c.BadNumber [("part", .str "number")])] :=
    (sSet_ok (caught_ok (eCall_ex (l2_ok (eV_ok rfl) (eV_ok rfl)) b4) cN)).trans rfl
  have fld : dFld [c.BadNumber] "part" (.exn c.BadNumber [("part", .str "number")]) = some (.str "number") := by
    show (if [c.BadNumber].contains c.BadNumber = true then List.lookup (α := Str) (β := D) "part" [(("part" : Str), D.str "number")] else none) = _
    rw [if_pos (by simp)]
    rfl
  have t7 : tOrF (tNotF (tV (eUn (dIsE [(c.BadNumber, true)]) (eV 7)))) (tNotF (tV (eCall f__law_same (lCons (eUn (dFld [c.BadNumber] "part") (eV 7)) (lCons (eK (.str "number")) lNil))))) [.dr s3, .st (cls ws rs), .st odd, .st (.int (rs.length : Int)), .st bad, .st num, .st (.lst [.exn c.BadClass [], .exn c.BadClass [], .exn c.BadClass []]), .st (.exn c.BadNumber [("part", .str "number")])]
      = .ok false [.dr s3, .st (cls ws rs), .st odd, .st (.int (rs.length : Int)), .st bad, .st num, .st (.lst [.exn c.BadClass [], .exn c.BadClass [], .exn c.BadClass []]), .st (.exn c.BadNumber [("part", .str "number")])] :=
    (tOr_f (tNot_ok (b := true) (tV_ok (eUn_ok (eV_ok rfl) (isB _ _))))).trans (tNot_ok (b := true) (tV_ok (eCall_ok (l2_ok (eUn_ok (eV_ok rfl) fld) eK_ok) (P_same Pl_number (by show 1 ≤ 1000000; decide)))))
  have r8 : sRet (eUn (dIsE [(c.BadNumbers, true)]) (eCaught c.caught (eCall (f_edges_within c) (lCons (eV 1) (lCons (eV 4) lNil))))) [.dr s3, .st (cls ws rs), .st odd, .st (.int (rs.length : Int)), .st bad, .st num, .st (.lst [.exn c.BadClass [], .exn c.BadClass [], .exn c.BadClass []]), .st (.exn c.BadNumber [("part", .str "number")])]
      = .rt (.bl true) [.dr s3, .st (cls ws rs), .st odd, .st (.int (rs.length : Int)), .st bad, .st num, .st (.lst [.exn c.BadClass [], .exn c.BadClass [], .exn c.BadClass []]), .st (.exn c.BadNumber [("part", .str "number")])] :=
    sRet_ok (eUn_ok (caught_ok (eCall_ex (l2_ok (eV_ok rfl) (eV_ok rfl)) b5) cNs) (isB _ _))
  have fin : B__law_is_refused c [.dr s, .st (cls ws rs), .un, .un, .un, .un, .un, .un] = .rt (.bl true) [.dr s3, .st (cls ws rs), .st odd, .st (.int (rs.length : Int)), .st bad, .st num, .st (.lst [.exn c.BadClass [], .exn c.BadClass [], .exn c.BadClass []]), .st (.exn c.BadNumber [("part", .str "number")])] :=
    (sSeq_ok f1).trans ((sSeq_ok f2).trans ((sSeq_ok f3).trans ((sSeq_ok f4).trans ((sSeq_ok f5).trans ((sSeq_ok f6).trans ((sSeq_ok ((sIf_f t7).trans sNop_ok)).trans r8))))))
  have g : f__law_is_refused c [.dr s, .st (cls ws rs)] = noEx (runDef 8 (B__law_is_refused c) [.dr s, .st (cls ws rs)]) := rfl
  refine ⟨s3, [.st (cls ws rs), .st odd, .st (.int (rs.length : Int)), .st bad, .st num, .st (.lst [.exn c.BadClass [], .exn c.BadClass [], .exn c.BadClass []]), .st (.exn c.BadNumber [("part", .str "number")])], ?_, h3.mono (by omega)⟩
  rw [g]
  exact runDef_rt (n := 8) (B := B__law_is_refused c) fin
end PU.C
set_option maxHeartbeats 1000000
set_option exponentiation.threshold 5000
namespace PU.C
open PySem PySem.Spec PyProof.Rows L2 PU
/-- [x for x in xs if draw(room) > 0] -/
theorem drawFltJ {α : Type} {b : Nat} {s : DrS} {ρ ρ1 : Ρ} {I : Ev (List D)} {k j : Nat} {room : Int} (h : DrI b s) (xs : List α) (f : α → D) (hI : I ρ = .ok (xs.map f) ρ1) (hz : xs.length ≤ 1000) (hb : b + xs.length ≤ BIG) (hr : 0 < room) (hr2 : room ≤ 1048576)
    (h0 : svAt ρ1 j = .dr s) (hk : (svAt ρ1 k).own = false) (k0 : j ≠ k) (hl : j < ρ1.length) (hkl : k < ρ1.length) :
    ∃ (ys : List α) (s' : DrS), nLc I (tgN k) (tV (eBin dGt (eCall1 j f__law_draw (lCons (eK (.int room)) lNil)) (eK (.int 0)))) (eV k) [k] ρ = .ok (ys.map f) (ρ1.set j (.dr s')) ∧ ys.Sublist xs ∧ DrI (b + xs.length) s' := by
  have key := nLc_dr (I := I) (T := tgN k) (tt := tV (eBin dGt (eCall1 j f__law_draw (lCons (eK (.int room)) lNil)) (eK (.int 0)))) (te := eV k) (vs := [k]) (ρ := ρ) (ρ1 := ρ1) (fun s => (ρ1.set k .un).set j (.dr s)) f (fun x s => if drawV s room > 0 then some (f x) else none) (fun s => drawS s room) (b + xs.length) 1 xs s b hI
    (by simp [stFree, hk]) (by
      show ρ1.set k .un = _
      rw [List.set_comm _ _ (Ne.symm k0), ← h0, set_self]) (fun x _ s b' h' hb' => ⟨by
      have t : tgN k (f x) ((ρ1.set k .un).set j (.dr s)) = some ((ρ1.set j (.dr s)).set k (.st (f x))) := by
        unfold tgN
        rw [List.set_comm _ _ k0, List.set_set, List.set_comm _ _ (Ne.symm k0)]
      have v0 : svAt ((ρ1.set j (.dr s)).set k (.st (f x))) j = .dr s := by
        rw [svAt_set_ne (Ne.symm k0), svAt_set_eq hl]
      have d := ev_draw (i := j) (X := eK (.int room)) (room := room) h' (by omega) v0 rfl hr hr2
      have g : dGt (.int (drawV s room)) (.int 0) = some (.bl (decide (drawV s room > 0))) := rfl
      have tt := tV_ok (eBin_ok d eK_ok g)
      have vk : eV k (((ρ1.set j (.dr s)).set k (.st (f x))).set j (.dr (drawS s room))) = .ok (f x) (((ρ1.set j (.dr s)).set k (.st (f x))).set j (.dr (drawS s room))) := eV_ok (by
        rw [svAt_set_ne k0, svAt_set_eq (by rw [List.length_set]; exact hkl)])
      have w : wipeP (((ρ1.set j (.dr s)).set k (.st (f x))).set j (.dr (drawS s room))) [k] = (ρ1.set k .un).set j (.dr (drawS s room)) := by
        show ((((ρ1.set j (.dr s)).set k (.st (f x))).set j (.dr (drawS s room)))).set k .un = _
        rw [List.set_comm (SV.st (f x)) _ (Ne.symm k0), List.set_set, List.set_set, List.set_comm _ _ k0]
      by_cases hc : drawV s room > 0
      · rw [decide_eq_true hc] at tt
        simp only [lcStep, t, tt, noEx, Res.bind, if_true, vk, w, if_pos hc]
      · rw [decide_eq_false hc] at tt
        simp only [lcStep, t, tt, noEx, Res.bind, Bool.false_eq_true, if_false, w, if_neg hc], h'.draw hr⟩) h (by omega) (small hz)
  obtain ⟨k1, k2⟩ := key
  rw [Nat.mul_one] at k2
  have sq : ∀ (xs : List α) (s : DrS), ∃ ys : List α, seqF (fun x s => if drawV s room > 0 then some (f x) else none) (fun s => drawS s room) xs s = ys.map f ∧ ys.Sublist xs := by
    intro xs
    induction xs with
    | nil => exact fun s => ⟨[], rfl, List.Sublist.slnil⟩
    | cons x xs ih =>
      intro s
      obtain ⟨ys, e, q⟩ := ih (drawS s room)
      by_cases hc : drawV s room > 0
      · exact ⟨x :: ys, by simp only [seqF, e, if_pos hc, Option.toList, List.map_cons, List.singleton_append], q.cons_cons x⟩
      · exact ⟨ys, by simp only [seqF, e, if_neg hc, Option.toList, List.nil_append], q.cons x⟩
  obtain ⟨ys, e, q⟩ := sq xs s
  refine ⟨ys, _, ?_, q, k2⟩
  rw [k1, e]
  congr 1
  show ((ρ1.set k .un).set j _).set k (svAt ρ1 k) = _
  rw [List.set_comm _ _ k0, List.set_set, set_self]
theorem eCallKw_ok {is : List Nat} {n : Nat} {f : Fn} {L : Ev (List D)} {ρ ρ1 : Ρ} {ds es : List D} {d : D} (hL : L ρ = .ok ds ρ1) (hn : ds.length = n) (hp : pick is n ds = es) (he : es.length = n) (h : Vl (f (stL es)) d) : eCallKw is n f L ρ = .ok d ρ1 := by
  obtain ⟨τ, e⟩ := h
  have c : ds.length = n ∧ es.length = n := ⟨hn, he⟩
  simp only [eCallKw, hL, Res.bind, hp, e, if_pos c]
/-! ### the law's own state -/
variable {c : Cls0}
def ls (S : D) (s : DrS) (y2 y3 y4 y5 y6 y7 y8 y9 : SV) : Ρ := [.st S, .dr s, y2, y3, y4, y5, y6, y7, y8, y9, .un, .un]
def lK (S : D) (s : DrS) (ws : List Str) (rs : List (List Int)) (y2 y6 y7 y8 y9 : SV) : Ρ := ls S s y2 (.st (cls ws rs)) (.st (.lst ((edgesL ws rs).map eD))) (.st (.int (rs.length : Int))) y6 y7 y8 y9
variable {S : D} {s : DrS} {ws : List Str} {rs : List (List Int)} {y2 y6 y7 y8 y9 : SV}
theorem Pl_tI {L : List Int} (h : L.length ≤ 900) : Pl (tI L) := ⟨1, by omega, by
  show (decide ((L.map D.int).length ≤ 900) && (L.map D.int).all (pl 0)) = true
  rw [List.length_map, decide_eq_true h, Bool.true_and, List.all_map, List.all_eq_true]
  exact fun x _ => rfl⟩
theorem szL_ints : ∀ L : List Int, szL (L.map D.int) = L.length
  | [] => rfl
  | x :: L => by rw [List.map_cons, szL, szL_ints L, List.length_cons, sz]; omega
theorem sz_tI (L : List Int) : sz (tI L) = L.length + 1 := by
  unfold tI
  rw [sz, szL_ints]
theorem szL_edges : ∀ E : List Edge, szL (E.map eD) = 4 * E.length
  | [] => rfl
  | e :: E => by
    rw [List.map_cons, szL, szL_edges E, List.length_cons]
    have : sz (eD e) = 4 := by simp [eD, sz, szL]
    omega
theorem edge_word (co : COk ws rs) : ∀ e ∈ edgesL ws rs, PyData.strOk e.2.2 = true := fun e he => by
  obtain ⟨i, hi, he⟩ := List.mem_flatMap.mp he
  obtain ⟨t, ht, he⟩ := List.mem_flatMap.mp he
  unfold edge1 at he
  split at he
  · rename_i k hd
    rw [List.mem_singleton.mp he]
    have hk : k < ws.length := by
      have : k ∈ diffs (rs.getD i []) (rs.getD (i + 1 + t) []) ws.length := by rw [hd]; simp
      exact List.mem_range.mp (List.mem_filter.mp this).1
    show PyData.strOk (ws.getD k default) = true
    rw [List.getD_eq_getElem?_getD, List.getElem?_eq_getElem hk]
    exact (co.w.word _ (List.getElem_mem hk)).2.2.2
  · cases he
theorem pl_edges (co : COk ws rs) : pl 2 (.tup ((edgesL ws rs).map eD)) = true := by
  have el := edges_len co
  show (decide (((edgesL ws rs).map eD).length ≤ 900) && ((edgesL ws rs).map eD).all (pl 1)) = true
  rw [List.length_map, decide_eq_true (by omega), Bool.true_and, List.all_map, List.all_eq_true]
  intro e he
  show (decide (3 ≤ 900) && [D.int (e.1 : Int), .int (e.2.1 : Int), .str e.2.2].all (pl 0)) = true
  have w := edge_word co e he
  have w' : pl 0 (.str e.2.2) = true := w
  simp [pl]
  exact w
/-! ### edges of the class are those of the law -/
noncomputable def ifC (c : Cls0) : Sv := sIf (tNotF (tV (eCall f__law_same (lCons (eLst (lCons (eCall (f_edges c) (lCons (eV 3) lNil)) (lCons (eCallKw [0] 1 (f_edges c) (lCons (eV 3) lNil)) lNil))) (lCons (eLst (lCons (eCB dTuple (lCons (eV 4) lNil)) (lCons (eCB dTuple (lCons (eV 4) lNil)) lNil))) lNil)))))
  (sRet (eK (.bl false)))
  sNop
theorem ifC_ok (co : COk ws rs) : ifC c (lK S s ws rs y2 y6 y7 y8 y9) = .nx (lK S s ws rs y2 y6 y7 y8 y9) := by
  have el := edges_len co
  have e1 : eCall (f_edges c) (lCons (eV 3) lNil) (lK S s ws rs y2 y6 y7 y8 y9) = .ok (.tup ((edgesL ws rs).map eD)) (lK S s ws rs y2 y6 y7 y8 y9) := eCall_ok (l1_ok (eV_ok rfl)) (P_edges co)
  have e2 : eCallKw [0] 1 (f_edges c) (lCons (eV 3) lNil) (lK S s ws rs y2 y6 y7 y8 y9) = .ok (.tup ((edgesL ws rs).map eD)) (lK S s ws rs y2 y6 y7 y8 y9) := eCallKw_ok (es := [cls ws rs]) (l1_ok (eV_ok rfl)) rfl rfl rfl (P_edges co)
  have e3 : eCB dTuple (lCons (eV 4) lNil) (lK S s ws rs y2 y6 y7 y8 y9) = .ok (.tup ((edgesL ws rs).map eD)) (lK S s ws rs y2 y6 y7 y8 y9) := eCB_ok (l1_ok (eV_ok rfl)) rfl
  have pd : Pl (.lst [.tup ((edgesL ws rs).map eD), .tup ((edgesL ws rs).map eD)]) := ⟨3, by omega, by
    show (decide (2 ≤ 900) && [D.tup ((edgesL ws rs).map eD), .tup ((edgesL ws rs).map eD)].all (pl 2)) = true
    simp [pl_edges co]⟩
  have zd : sz (.lst [.tup ((edgesL ws rs).map eD), .tup ((edgesL ws rs).map eD)]) ≤ 1000000 := by
    have q := szL_edges (edgesL ws rs)
    simp only [sz, szL, q]
    omega
  exact (sIf_f (tNot_ok (b := true) (tV_ok (eCall_ok (l2_ok (eLst_ok (l2_ok e1 e2) (by simp)) (eLst_ok (l2_ok e3 e3) (by simp))) (P_same pd zd))))).trans sNop_ok
/-! ### edges at each row -/
noncomputable def bodyD (c : Cls0) : Sv := (sSeq (sSet 7 (eCB dTuple (lCons (eFz (nLc (iCall dEnum (lCons (eV 4) lNil)) (tgT [10, 11]) (tV (eBin dIn (eV 6) (eSl (eV 11) poN (poS (eK (.int 2)))))) (eV 10) [10, 11])) lNil)))
  (sIf (tOrF (tNotF (tV (eCall f__law_same (lCons (eCall (f_edges_at c) (lCons (eV 3) (lCons (eV 6) lNil))) (lCons (eV 7) lNil))))) (tV (eBin dNe (eCallKw [1, 0] 2 (f_edges_at c) (lCons (eV 6) (lCons (eV 3) lNil))) (eV 7))))
  (sRet (eK (.bl false)))
  sNop))
theorem bodyD_ok (co : COk ws rs) {k : Nat} (hk : k < rs.length) : bodyD c (lK S s ws rs y2 (.st (.int (k : Nat))) y7 y8 y9) = .nx (lK S s ws rs y2 (.st (.int (k : Nat))) (.st (tI (atL (edgesL ws rs) k))) y8 y9) := by
  have el := edges_len co
  have ce : iCall dEnum (lCons (eV 4) lNil) (lK S s ws rs y2 (.st (.int (k : Nat))) y7 y8 y9) = .ok ((edgesL ws rs).zipIdx.map fun q => D.tup [.int (q.2 : Int), eD q.1]) (lK S s ws rs y2 (.st (.int (k : Nat))) y7 y8 y9) := iCall_ok (l1_ok (eV_ok rfl)) (by show some (enumD _) = _; rw [enum_map])
  have cut : ∀ e : Edge, dSl (eD e) none (some 2) = some (pD e) := fun e => by
    show some (D.tup (cutD [D.int (e.1 : Int), .int (e.2.1 : Int), .str e.2.2] none (some ((2 : Nat) : Int)))) = _
    rw [cutD_take]
    exact rfl
  have kk := fltT (I := iCall dEnum (lCons (eV 4) lNil)) (T := tgT [10, 11]) (tt := tV (eBin dIn (eV 6) (eSl (eV 11) poN (poS (eK (.int 2)))))) (te := eV 10) (vs := [10, 11]) (ρ := lK S s ws rs y2 (.st (.int (k : Nat))) y7 y8 y9) (ρ1 := lK S s ws rs y2 (.st (.int (k : Nat))) y7 y8 y9) (edgesL ws rs).zipIdx (fun q => D.tup [.int (q.2 : Int), eD q.1]) (fun q => D.int (q.2 : Int)) (fun q => decide ((k : Int) ∈ [(q.1.1 : Int), (q.1.2.1 : Int)])) ce (by rw [List.length_zipIdx]; omega) rfl fun q _ =>
    ⟨[.st S, .dr s, y2, .st (cls ws rs), .st (.lst ((edgesL ws rs).map eD)), .st (.int (rs.length : Int)), .st (.int (k : Nat)), y7, y8, y9, .st (.int (q.2 : Int)), .st (eD q.1)], rfl, tV_ok (eBin_ok (eV_ok rfl) (eSl_ok (eV_ok rfl) poN_ok (poS_ok eK_ok) (cut q.1)) (dIn_ints (k : Int) _)), eV_ok rfl, rfl⟩
  have al : (atL (edgesL ws rs) k).length ≤ 576 := by
    unfold atL
    rw [List.length_map]
    exact Nat.le_trans (List.length_filter_le _ _) (by rw [List.length_zipIdx]; omega)
  have f1 : sSet 7 (eCB dTuple (lCons (eFz (nLc (iCall dEnum (lCons (eV 4) lNil)) (tgT [10, 11]) (tV (eBin dIn (eV 6) (eSl (eV 11) poN (poS (eK (.int 2)))))) (eV 10) [10, 11])) lNil)) (lK S s ws rs y2 (.st (.int (k : Nat))) y7 y8 y9) = .nx (lK S s ws rs y2 (.st (.int (k : Nat))) (.st (tI (atL (edgesL ws rs) k))) y8 y9) := by
    refine (sSet_ok (eCB_ok (z := tI (atL (edgesL ws rs) k)) (l1_ok (eFz_ok kk)) ?_)).trans rfl
    show some (D.tup _) = some (tI _)
    unfold tI atL
    rw [List.map_map]
    exact rfl
  have e1 : eCall (f_edges_at c) (lCons (eV 3) (lCons (eV 6) lNil)) (lK S s ws rs y2 (.st (.int (k : Nat))) (.st (tI (atL (edgesL ws rs) k))) y8 y9) = .ok (tI (atL (edgesL ws rs) k)) (lK S s ws rs y2 (.st (.int (k : Nat))) (.st (tI (atL (edgesL ws rs) k))) y8 y9) := eCall_ok (l2_ok (eV_ok rfl) (eV_ok rfl)) (P_edges_at co hk)
  have e2 : eCallKw [1, 0] 2 (f_edges_at c) (lCons (eV 6) (lCons (eV 3) lNil)) (lK S s ws rs y2 (.st (.int (k : Nat))) (.st (tI (atL (edgesL ws rs) k))) y8 y9) = .ok (tI (atL (edgesL ws rs) k)) (lK S s ws rs y2 (.st (.int (k : Nat))) (.st (tI (atL (edgesL ws rs) k))) y8 y9) := eCallKw_ok (es := [cls ws rs, .int (k : Int)]) (l2_ok (eV_ok rfl) (eV_ok rfl)) rfl rfl rfl (P_edges_at co hk)
  have t1 := tNot_ok (b := true) (tV_ok (eCall_ok (l2_ok e1 (eV_ok (i := 7) rfl)) (P_same (Pl_tI (by omega)) (by rw [sz_tI]; omega))))
  have t2 := tV_ok (eBin_ok e2 (eV_ok (i := 7) rfl) (dNe_refl (okd_ints 59 (atL (edgesL ws rs) k))))
  unfold bodyD
  rw [sSeq_ok f1]
  exact (sIf_f ((tOr_f t1).trans t2)).trans sNop_ok
end PU.C
set_option maxHeartbeats 1000000
set_option exponentiation.threshold 5000
namespace PU.C
open PySem PySem.Spec PyProof.Rows L2 PU
variable {c : Cls0} {S : D} {s : DrS} {ws : List Str} {rs : List (List Int)} {y2 y3 y4 y5 y6 y7 y8 y9 : SV}
/-! ### edges within drawn lots -/
noncomputable def lotE : Ev D := eCB dTuple (lCons (eFz (nLc (iCall dRng1 (lCons (eV 5) lNil)) (tgN 6) (tV (eBin dGt (eCall1 1 f__law_draw (lCons (eK (.int 3)) lNil)) (eK (.int 0)))) (eV 6) [6])) lNil)
def lotE2 : Ev D := eIf (tV (eBin dNe (eV 9) (eTup lNil))) (eV 9) (eTup (lCons (eBin dSub (eV 5) (eK (.int 1))) lNil))
noncomputable def ifE (c : Cls0) : Sv := (sIf (tNotF (tV (eCall f__law_same (lCons (eLst (lCons (eCall (f_edges_within c) (lCons (eV 3) (lCons (eV 9) lNil))) (lCons (eCallKw [1, 0] 2 (f_edges_within c) (lCons (eV 9) (lCons (eV 3) lNil))) lNil))) (lCons (eLst (lCons (eV 7) (lCons (eV 7) lNil))) lNil)))))
  (sRet (eK (.bl false)))
  sNop)
noncomputable def bodyE (c : Cls0) : Sv := (sSeq (sSet 9 lotE) (sSeq (sSet 9 lotE2) (sSeq (sSet 7 (eCall f__law_lo_within (lCons (eV 4) (lCons (eV 9) lNil)))) (ifE c))))
theorem bodyE_ok {b : Nat} (h : DrI b s) (hb : b + 24 ≤ BIG) (co : COk ws rs) (h6 : y6.own = false) :
    ∃ s' y7' y9', bodyE c (lK S s ws rs y2 y6 y7 y8 y9) = .nx (lK S s' ws rs y2 y6 y7' y8 y9') ∧ DrI (b + 24) s' := by
  have el := edges_len co
  have n24 := co.len24
  have n1 := co.len1
  have hr := iRng (ρ := lK S s ws rs y2 y6 y7 y8 y9) (X := eV 5) (n := rs.length) (eV_ok rfl) (by omega)
  obtain ⟨ys, s', e1, sub, h1⟩ := drawFltJ (k := 6) (j := 1) (room := 3) h (List.range rs.length) (fun (i : Nat) => D.int (i : Int)) hr (by rw [List.length_range]; omega) (by rw [List.length_range]; omega) (by decide) (by decide) rfl h6 (by decide) (by show 1 < 12; decide) (by show 6 < 12; decide)
  rw [List.length_range] at h1
  have f1 : sSet 9 lotE (lK S s ws rs y2 y6 y7 y8 y9) = .nx (lK S s' ws rs y2 y6 y7 y8 (.st (tI (nI ys)))) := by
    refine (sSet_ok (eCB_ok (z := tI (nI ys)) (l1_ok (eFz_ok e1)) ?_)).trans rfl
    show some (D.tup (ys.map fun (i : Nat) => D.int (i : Int))) = some (D.tup ((nI ys).map .int))
    rw [nI_map]
  have lt : ∀ x ∈ ys, x < rs.length := fun x hx => List.mem_range.mp (sub.subset hx)
  have asc : ys.Pairwise (· < ·) := List.Pairwise.sublist sub List.pairwise_lt_range
  have yl : ys.length ≤ 24 := Nat.le_trans sub.length_le (by rw [List.length_range]; exact n24)
  obtain ⟨L, hL, f2⟩ : ∃ L, Lot rs.length L ∧ sSet 9 lotE2 (lK S s' ws rs y2 y6 y7 y8 (.st (tI (nI ys)))) = .nx (lK S s' ws rs y2 y6 y7 y8 (.st (tI (nI L)))) := by
    have t := tV_ok (eBin_ok (eV_ok (ρ := lK S s' ws rs y2 y6 y7 y8 (.st (tI (nI ys)))) (i := 9) rfl) (eTup_ok lNil_ok (by simp)) (dNe_nilT (nI ys)))
    cases ys with
    | nil =>
      refine ⟨[rs.length - 1], ⟨by simp, fun x hx => by rw [List.mem_singleton.mp hx]; omega, List.pairwise_singleton _ _, by simp⟩, ?_⟩
      have d : dSub (.int (rs.length : Int)) (.int 1) = some (.int ((rs.length - 1 : Nat) : Int)) := by
        show some (D.int ((rs.length : Int) - 1)) = _
        rw [show (rs.length : Int) - 1 = ((rs.length - 1 : Nat) : Int) by omega]
      exact (sSet_ok ((eIf_f (t.trans rfl)).trans (eTup_ok (l1_ok (eBin_ok (eV_ok rfl) eK_ok d)) (by simp)))).trans rfl
    | cons a r =>
      exact ⟨a :: r, ⟨by simp, lt, asc, yl⟩, (sSet_ok ((eIf_t (t.trans rfl)).trans (eV_ok rfl))).trans rfl⟩
  have e3 : eCall f__law_lo_within (lCons (eV 4) (lCons (eV 9) lNil)) (lK S s' ws rs y2 y6 y7 y8 (.st (tI (nI L)))) = .ok (.int (((edgesL ws rs).filter (inB (nI L))).length : Int)) (lK S s' ws rs y2 y6 y7 y8 (.st (tI (nI L)))) := eCall_ok (l2_ok (eV_ok rfl) (eV_ok rfl)) (P_lo_within _ _ (by omega))
  generalize hv : (((edgesL ws rs).filter (inB (nI L))).length : Int) = v at e3
  have f3 : sSet 7 (eCall f__law_lo_within (lCons (eV 4) (lCons (eV 9) lNil))) (lK S s' ws rs y2 y6 y7 y8 (.st (tI (nI L)))) = .nx (lK S s' ws rs y2 y6 (.st (.int v)) y8 (.st (tI (nI L)))) := (sSet_ok e3).trans rfl
  have pw := P_edges_within (c := c) co hL
  rw [hv] at pw
  have e4 : eCall (f_edges_within c) (lCons (eV 3) (lCons (eV 9) lNil)) (lK S s' ws rs y2 y6 (.st (.int v)) y8 (.st (tI (nI L)))) = .ok (.int v) (lK S s' ws rs y2 y6 (.st (.int v)) y8 (.st (tI (nI L)))) := eCall_ok (l2_ok (eV_ok rfl) (eV_ok rfl)) pw
  have e5 : eCallKw [1, 0] 2 (f_edges_within c) (lCons (eV 9) (lCons (eV 3) lNil)) (lK S s' ws rs y2 y6 (.st (.int v)) y8 (.st (tI (nI L)))) = .ok (.int v) (lK S s' ws rs y2 y6 (.st (.int v)) y8 (.st (tI (nI L)))) := eCallKw_ok (es := [cls ws rs, tI (nI L)]) (l2_ok (eV_ok rfl) (eV_ok rfl)) rfl rfl rfl pw
  have pd : Pl (.lst [.int v, .int v]) := ⟨1, by omega, rfl⟩
  have t := tNot_ok (b := true) (tV_ok (eCall_ok (l2_ok (eLst_ok (l2_ok e4 e5) (by simp)) (eLst_ok (l2_ok (eV_ok (i := 7) rfl) (eV_ok (i := 7) rfl)) (by simp))) (P_same pd (by simp [sz, szL]))))
  refine ⟨s', .st (.int v), .st (tI (nI L)), ?_, h1.mono (by omega)⟩
  unfold bodyE ifE
  rw [sSeq_ok f1, sSeq_ok f2, sSeq_ok f3]
  exact (sIf_f t).trans sNop_ok
/-! ### one turn of the law -/
noncomputable def clsL : Sv := sSet 3 (eCall1 1 f__law_sh_class (lCons (eK (.int 8)) (lCons (eK (.int 24)) lNil)))
noncomputable def parL : Sv := sPar 4 5 (lCons (eCall f__law_sh_edges (lCons (eV 3) lNil)) (lCons (eCB dLen (lCons (eBin dIx (eV 3) (eK (.int 2))) lNil)) lNil))
noncomputable def ifF (c : Cls0) : Sv := (sIf (tNotF (tV (eCall1 1 (f__law_is_refused c) (lCons (eV 3) lNil))))
  (sRet (eK (.bl false)))
  sNop)
noncomputable def bodyL (c : Cls0) : Sv := sSeq clsL (sSeq parL (sSeq (ifC c) (sSeq (sFor (iCall dRng1 (lCons (eV 5) lNil)) (tgN 6) (bodyD c)) (sSeq (sFor (iCall dRng1 (lCons (eK (.int 5)) lNil)) (tgN 8) (bodyE c)) (ifF c)))))
theorem B_law_eq : B_law c = sSeq (sSetDr 1 (lCons (eV 0) lNil) f__law_begun) (sSeq (sFor (iCall dRng1 (lCons (eBin dAdd (eK (.int 3)) (eCB dMin2 (lCons (eCB dLen (lCons (eV 0) lNil)) (lCons (eK (.int 5)) lNil)))) lNil)) (tgN 2) (bodyL c)) (sRet (eK (.bl true)))) := rfl
/-- what one turn costs at most -/
def KL : Nat := KS + 200
theorem budL {b k B : Nat} (h : b + (k + 200) ≤ B) : b + k ≤ B ∧ (∀ j, j ≤ 5 → b + k + 24 * j + 24 ≤ B) ∧ b + k + 24 * 5 + 10 ≤ B := ⟨by omega, fun j hj => by omega, by omega⟩
theorem budL2 {b k : Nat} : b + k + 24 * 5 + 10 ≤ b + (k + 200) := by omega
theorem bodyL_ok {b : Nat} (h : DrI b s) (hb : b + KL ≤ BIG) (h6 : y6.own = false) :
    ∃ s' y3' y4' y5' y6' y7' y8' y9', bodyL c (ls S s y2 y3 y4 y5 y6 y7 y8 y9) = .nx (ls S s' y2 y3' y4' y5' y6' y7' y8' y9') ∧ y6'.own = false ∧ DrI (b + KL) s' := by
  unfold KL at hb ⊢
  obtain ⟨u1, u2, u3⟩ := budL hb
  clear hb
  obtain ⟨ws, rs, s1, e1, co, h1⟩ := ev_shc h (p := 8) (r := 24) (by decide) (by decide) (by decide) (by decide) u1 (ρ := ls S s y2 y3 y4 y5 y6 y7 y8 y9) (i := 1) (X := eK (.int 8)) (Y := eK (.int 24)) rfl eK_ok eK_ok
  have n24 := co.len24
  have f1 : clsL (ls S s y2 y3 y4 y5 y6 y7 y8 y9) = .nx (ls S s1 y2 (.st (cls ws rs)) y4 y5 y6 y7 y8 y9) := (sSet_ok e1).trans rfl
  have f2 : parL (ls S s1 y2 (.st (cls ws rs)) y4 y5 y6 y7 y8 y9) = .nx (lK S s1 ws rs y2 y6 y7 y8 y9) := by
    have z := l2_ok (eCall_ok (l1_ok (eV_ok (ρ := ls S s1 y2 (.st (cls ws rs)) y4 y5 y6 y7 y8 y9) (i := 3) rfl)) (P_she co)) (eCB_ok (l1_ok (eBin_ok (eV_ok (i := 3) rfl) eK_ok (cls2 ws rs))) (len_tup tI rs))
    unfold parL sPar
    rw [z]
    exact rfl
  have hr := iRng (ρ := lK S s1 ws rs y2 y6 y7 y8 y9) (X := eV 5) (n := rs.length) (eV_ok rfl) (by omega)
  obtain ⟨ρ4, e4, y6', y7', hρ4, h6'⟩ := forL_pre (T := tgN 6) (B := bodyD c) (fun (i : Nat) => D.int (i : Int)) (fun done ρ => ∃ y6 y7, ρ = lK S s1 ws rs y2 y6 y7 y8 y9 ∧ y6.own = false) (List.range rs.length) (fun done k rest ρ e ⟨y6, y7, hρ, _⟩ => by
    have hk : k < rs.length := List.mem_range.mp (by rw [← e]; simp)
    exact ⟨lK S s1 ws rs y2 (.st (.int (k : Nat))) y7 y8 y9, _, congrArg some (by rw [hρ]; exact rfl), bodyD_ok co hk, .st (.int (k : Nat)), _, rfl, rfl⟩) (List.range rs.length) [] (lK S s1 ws rs y2 y6 y7 y8 y9) rfl ⟨y6, y7, rfl, h6⟩
  have f4 : sFor (iCall dRng1 (lCons (eV 5) lNil)) (tgN 6) (bodyD c) (lK S s1 ws rs y2 y6 y7 y8 y9) = .nx (lK S s1 ws rs y2 y6' y7' y8 y9) := (sFor_ok hr).trans (e4.trans (congrArg SRes.nx hρ4))
  have hr5 := iRng (ρ := lK S s1 ws rs y2 y6' y7' y8 y9) (X := eK (.int 5)) (n := 5) eK_ok (by decide)
  obtain ⟨ρ5, e5, s5, y7'', y8'', y9'', hρ5, h5⟩ := forL_pre (T := tgN 8) (B := bodyE c) (fun (i : Nat) => D.int (i : Int)) (fun done ρ => ∃ s' y7 y8 y9, ρ = lK S s' ws rs y2 y6' y7 y8 y9 ∧ DrI (b + KS + 24 * done.length) s') (List.range 5) (fun done k rest ρ e ⟨s', y7, y8, y9, hρ, h'⟩ => by
    have hd : done.length ≤ 5 := by
      have := congrArg List.length e
      simp at this
      omega
    obtain ⟨s2, y7', y9', e', h2⟩ := bodyE_ok (c := c) (S := S) (y2 := y2) (y6 := y6') (y7 := y7) (y8 := .st (.int (k : Nat))) (y9 := y9) h' (u2 _ hd) co h6'
    refine ⟨lK S s' ws rs y2 y6' y7 (.st (.int (k : Nat))) y9, _, congrArg some (by rw [hρ]; exact rfl), e', s2, y7', .st (.int (k : Nat)), y9', rfl, ?_⟩
    rw [List.length_append, List.length_singleton, Nat.mul_add]
    exact h2) (List.range 5) [] (lK S s1 ws rs y2 y6' y7' y8 y9) rfl ⟨s1, y7', y8, y9, rfl, h1⟩
  rw [List.length_range] at h5
  have f5 : sFor (iCall dRng1 (lCons (eK (.int 5)) lNil)) (tgN 8) (bodyE c) (lK S s1 ws rs y2 y6' y7' y8 y9) = .nx (lK S s5 ws rs y2 y6' y7'' y8'' y9'') := (sFor_ok hr5).trans (e5.trans (congrArg SRes.nx hρ5))
  obtain ⟨s6, l6, e6, h6s⟩ := P_refused (c := c) h5 u3 co
  have o6 : eCall1 1 (f__law_is_refused c) (lCons (eV 3) lNil) (lK S s5 ws rs y2 y6' y7'' y8'' y9'') = .ok (.bl true) (lK S s6 ws rs y2 y6' y7'' y8'' y9'') := call1_ok (l := l6) rfl (l1_ok (eV_ok rfl)) rfl e6
  have f6 : ifF c (lK S s5 ws rs y2 y6' y7'' y8'' y9'') = .nx (lK S s6 ws rs y2 y6' y7'' y8'' y9'') := (sIf_f (tNot_ok (b := true) (tV_ok o6))).trans sNop_ok
  refine ⟨s6, .st (cls ws rs), .st (.lst ((edgesL ws rs).map eD)), .st (.int (rs.length : Int)), y6', y7'', y8'', y9'', ?_, h6', h6s.mono budL2⟩
  unfold bodyL
  rw [sSeq_ok f1, sSeq_ok f2, sSeq_ok (ifC_ok co), sSeq_ok f4, sSeq_ok f5, f6]
  exact rfl
theorem budA : 8 * KL ≤ BIG := by decide +kernel
/-- the law answers true -/
theorem P_law {ns : List Int} (h : ns.length ≤ 63) : Vl (f_law c [.st (.lst (ns.map .int))]) (.bl true) := by
  obtain ⟨s0, e0, h0⟩ := P_begun h
  have f1 : sSetDr 1 (lCons (eV 0) lNil) f__law_begun [.st (.lst (ns.map .int)), .un, .un, .un, .un, .un, .un, .un, .un, .un, .un, .un] = .nx (ls (.lst (ns.map .int)) s0 .un .un .un .un .un .un .un .un) := by
    have z := l1_ok (eV_ok (ρ := [.st (.lst (ns.map .int)), .un, .un, .un, .un, .un, .un, .un, .un, .un, .un, .un]) (i := 0) rfl)
    unfold sSetDr
    rw [z]
    simp only [ofE, e0]
    exact rfl
  have mn : dMin2 [.int (ns.length : Int), .int 5] = some (.int ((min ns.length 5 : Nat) : Int)) := by
    show some (D.int (if (5 : Int) < (ns.length : Int) then 5 else (ns.length : Int))) = _
    split
    · rw [show min ns.length 5 = 5 by omega]; rfl
    · rw [show min ns.length 5 = ns.length by omega]
  have a3 : dAdd (.int 3) (.int ((min ns.length 5 : Nat) : Int)) = some (.int ((3 + min ns.length 5 : Nat) : Int)) := by
    show some (D.int (3 + ((min ns.length 5 : Nat) : Int))) = _
    rw [show (3 : Int) + ((min ns.length 5 : Nat) : Int) = ((3 + min ns.length 5 : Nat) : Int) by omega]
  have hr := iRng (ρ := ls (.lst (ns.map .int)) s0 .un .un .un .un .un .un .un .un) (X := eBin dAdd (eK (.int 3)) (eCB dMin2 (lCons (eCB dLen (lCons (eV 0) lNil)) (lCons (eK (.int 5)) lNil)))) (n := 3 + min ns.length 5) (eBin_ok eK_ok (eCB_ok (l2_ok (eCB_ok (l1_ok (eV_ok rfl)) (len_lst .int ns)) eK_ok) mn) a3) (by omega)
  have hbud := budA
  obtain ⟨ρ', e, s', y2, y3, y4, y5, y6, y7, y8, y9, hρ, _, _⟩ := forL_pre (T := tgN 2) (B := bodyL c) (fun (i : Nat) => D.int (i : Int)) (fun done ρ => ∃ s' y2 y3 y4 y5 y6 y7 y8 y9, ρ = ls (.lst (ns.map .int)) s' y2 y3 y4 y5 y6 y7 y8 y9 ∧ y6.own = false ∧ DrI (done.length * KL) s') (List.range (3 + min ns.length 5)) (fun done k rest ρ e ⟨s', y2, y3, y4, y5, y6, y7, y8, y9, hρ, h6, h'⟩ => by
    have hd : done.length + 1 ≤ 8 := by
      have := congrArg List.length e
      simp at this
      omega
    have hb : done.length * KL + KL ≤ BIG := by
      have q : (done.length + 1) * KL ≤ 8 * KL := Nat.mul_le_mul_right _ hd
      rw [Nat.succ_mul] at q
      exact Nat.le_trans q hbud
    obtain ⟨s2, y3', y4', y5', y6', y7', y8', y9', e', h6', h2⟩ := bodyL_ok (c := c) (S := .lst (ns.map .int)) (y2 := .st (.int (k : Nat))) (y3 := y3) (y4 := y4) (y5 := y5) (y6 := y6) (y7 := y7) (y8 := y8) (y9 := y9) h' hb h6
    refine ⟨ls (.lst (ns.map .int)) s' (.st (.int (k : Nat))) y3 y4 y5 y6 y7 y8 y9, _, congrArg some (by rw [hρ]; exact rfl), e', s2, .st (.int (k : Nat)), y3', y4', y5', y6', y7', y8', y9', rfl, h6', ?_⟩
    rw [List.length_append, List.length_singleton, Nat.succ_mul]
    exact h2) (List.range (3 + min ns.length 5)) [] (ls (.lst (ns.map .int)) s0 .un .un .un .un .un .un .un .un) rfl ⟨s0, .un, .un, .un, .un, .un, .un, .un, .un, rfl, rfl, by rw [List.length_nil, Nat.zero_mul]; exact h0⟩
  have fin : B_law c [.st (.lst (ns.map .int)), .un, .un, .un, .un, .un, .un, .un, .un, .un, .un, .un] = .rt (.bl true) (ls (.lst (ns.map .int)) s' y2 y3 y4 y5 y6 y7 y8 y9) := by
    rw [B_law_eq, sSeq_ok f1, sSeq_ok ((sFor_ok hr).trans (e.trans (congrArg SRes.nx hρ)))]
    exact sRet_ok eK_ok
  have g : f_law c [.st (.lst (ns.map .int))] = noEx (runDef 12 (B_law c) [.st (.lst (ns.map .int))]) := rfl
  refine ⟨ls (.lst (ns.map .int)) s' y2 y3 y4 y5 y6 y7 y8 y9, ?_⟩
  rw [g]
  exact runDef_rt (n := 12) (B := B_law c) fin
end PU.C
set_option maxHeartbeats 2000000
namespace PU
open PySem PySem.Spec PyProof.Rows L2

/-! ### what the head tells of exception classes -/
def bo (x : Option Bool) (b : Bool) : Bool := decide (x = some b)
def isCB (K : PySem.W.Frag) (C : Addr) : Bool :=
  (PySem.W.clsIn K C).isSome && (He.eqO (PySem.W.findIn K (.ref C) "__getattribute__") (some (some (.builtin "BaseException.__getattribute__"))) && (He.eqO (PySem.W.findIn K (.ref C) "__getattr__") (some none) && (bo (PySem.W.subIn K (.ref C) (.type "BaseException")) true &&
  (He.eqO (PySem.W.findIn K (.ref C) "__class__") (some (some (.builtin "object.__class__"))) && (He.eqO (PySem.W.specialIn K (.builtin "object.__class__") "__get__") (some (some (.builtin "getset_descriptor.__get__"))) && (bo (PySem.W.takesIn K (.builtin "object.__class__")) true &&
  (bo (PySem.W.mroIn K C (.type "object")) true && PySem.W.hasDictIn K C)))))))
theorem bo_ok {x : Option Bool} {b : Bool} (h : bo x b = true) : x = some b := of_decide_eq_true h
theorem isCB_ok {K : PySem.W.Frag} {C : Addr} (h : isCB K C = true) : IsC K C := by
  obtain ⟨h1, h⟩ := He.ba h
  obtain ⟨h2, h⟩ := He.ba h
  obtain ⟨h3, h⟩ := He.ba h
  obtain ⟨h4, h⟩ := He.ba h
  obtain ⟨h5, h⟩ := He.ba h
  obtain ⟨h6, h⟩ := He.ba h
  obtain ⟨h7, h⟩ := He.ba h
  obtain ⟨h8, h9⟩ := He.ba h
  exact ⟨h1, He.eqO_ok h2, He.eqO_ok h3, bo_ok h4, He.eqO_ok h5, He.eqO_ok h6, bo_ok h7, bo_ok h8, h9⟩
def tabB (K : PySem.W.Frag) (C : Addr) : Bool := bo (PySem.W.kitOne K (.type "NoneType") (.ref C)) false && (isCB K C && bo (PySem.W.kitOne K (.ref C) (.ref C)) true)
theorem tabB_ok {K : PySem.W.Frag} {C : Addr} (h : tabB K C = true) : IsTab K C [(C, true)] := by
  obtain ⟨h1, h⟩ := He.ba h
  obtain ⟨h2, h3⟩ := He.ba h
  refine ⟨bo_ok h1, fun p hp => ?_⟩
  rw [List.mem_singleton.mp hp]
  exact ⟨isCB_ok h2, bo_ok h3⟩
def excB (K : PySem.W.Frag) (C : Addr) : Bool := PySem.W.excIn K C He.veBase "ValueError.__new__" && (PySem.W.keepIn K (.ref C) && (bo (PySem.W.subIn K (.ref C) (.type "BaseException")) true && decide (PySem.W.typeIn K (.ref C) = some (.type "type"))))
theorem excB_ok {K : PySem.W.Frag} {C : Addr} (h : excB K C = true) : RaC K C := by
  obtain ⟨h1, h⟩ := He.ba h
  obtain ⟨h2, h⟩ := He.ba h
  obtain ⟨h3, h4⟩ := He.ba h
  exact ⟨h1, h2, bo_ok h3, of_decide_eq_true h4⟩
/-! ### .. of one whose __init__ says super().__init__(y); self.y = y -/
def oexB (K : PySem.W.Frag) (C : Addr) : Bool := match K.lookup C with
  | some ⟨.type t, _, .cls cd, sl⟩ => decide (t = "type") && (match cd.mro, sl.toList with
    | .ref C' :: bm, [_, _, _, _, some (.builtin n), _] => decide (C' = C) && (decide (n = "ValueError.__new__") && (!cd.hasDel && (PySem.HandSPX.refsVE bm && cd.hasDict)))
    | _, _ => false)
  | _ => false
theorem oexB_ok {K : PySem.W.Frag} {C : Addr} (h : oexB K C = true) : (∃ nm q N bs bm sn sub ab col dd k0 k1 k2 k3 k5, K.lookup C = some (excClassObj nm q C N bs bm true sn sub ab col dd k0 k1 k2 k3 k5 "ValueError.__new__") ∧ PySem.HandSPX.refsVE bm = true) ∧ ∃ cd, PySem.W.clsIn K C = some cd := by
  unfold oexB at h
  split at h
  · rename_i t dd cd sl ho
    obtain ⟨h0, h1⟩ := He.ba h
    clear h
    have h0' : t = "type" := of_decide_eq_true h0
    subst h0'
    split at h1
    · rename_i C' bm k0 k1 k2 k3 n k5 hm hs
      obtain ⟨a1, z1⟩ := He.ba h1
      obtain ⟨a2, z2⟩ := He.ba z1
      obtain ⟨a3, z3⟩ := He.ba z2
      obtain ⟨a4, a5⟩ := He.ba z3
      clear h1 z1 z2 z3
      have a1' : C' = C := of_decide_eq_true a1
      have a2' : n = "ValueError.__new__" := of_decide_eq_true a2
      obtain ⟨nm, bs, mro, ns, qn, hd, sn, sub, ab, col, del⟩ := cd
      dsimp only at hm a3 a5
      have a3' : del = false := by simpa using a3
      obtain ⟨l⟩ := sl
      have hs' : l = [k0, k1, k2, k3, some (.builtin n), k5] := hs
      subst hm a1' a2' a3' a5 hs'
      refine ⟨⟨nm, qn, ns, bs, bm, sn, sub, ab, col, dd, k0, k1, k2, k3, k5, ho, a4⟩, ?_⟩
      unfold PySem.W.clsIn
      rw [ho]
      exact ⟨_, rfl⟩
    · cases h1
  · cases h
abbrev IniW : Type := Option (Str × Str × Arguments × FuncBody × Scope × Addr × Addr)
def iniW (K : PySem.W.Frag) (fI : Addr) : IniW := match K.lookup fI with
  | some ⟨_, _, .func fd, _⟩ => some (fd.name, fd.qualname, fd.params, fd.body, fd.scope, fd.globals, fd.builtins)
  | _ => none
/-- its closure is the class's cell, no defaults, its code's file -/
def iniB (K : PySem.W.Frag) (C fI : Addr) (q : Str) (file : Str) : Bool := match K.lookup fI with
  | some ⟨_, _, .func fd, _⟩ => (match fd.closure with
    | [(n, cc)] => decide (n = ("__class__" : Str)) && (match K.lookup cc with
      | some ⟨_, _, .cell (some (.ref D)), _⟩ => decide (D = C)
      | _ => false)
    | _ => false) && ((match fd.defaults with
    | .none => true
    | _ => false) && (PySem.W.codeIn K fd.code q && (match fd.code with
    | .ref c => (match K.lookup c with
      | some ⟨_, _, .fields vs, _⟩ => (match (vs[2]? : Option Value) with
        | some (.str f _) => file == f
        | _ => false)
      | _ => false)
    | _ => false)))
  | _ => false
def supB (K : PySem.W.Frag) (C fI : Addr) (y q file : Str) : Bool :=
  oexB K C && (He.eqO (PySem.W.findIn K (.ref C) "__setattr__") (some (some (.builtin "object.__setattr__"))) && (bo (PySem.W.subIn K (.ref C) (.type "BaseException")) true && (decide (PySem.W.typeIn K (.ref C) = some (.type "type")) && (PySem.W.keepIn K (.ref C) &&
  (He.eqO (PySem.W.findIn K (.ref C) y) (some none) && (He.eqO (PySem.W.ks_superIn K C C "__init__") (some (some (.builtin "ValueError.__init__"))) && (He.eqO (PySem.W.nsIn K cStatics "thirdparty.any") (some none) && (bo (PySem.W.subIn K (.ref C) (.type "ValueError")) true &&
  (bo (PySem.W.mroIn K C (.ref C)) true && (PySem.W.excInitIn K C veTail "ValueError.__new__" && (He.eqO (PySem.W.findIn K (.ref C) "__init__") (some (some (.ref fI))) && (decide (PySem.W.typeIn K (.ref fI) = some (.type "function")) && iniB K C fI q file))))))))))))
/-- what the text of such an __init__ says -/
structure IniT (P : Program) (name qual x y : Str) (params : Arguments) (body : FuncBody) (scope : Scope) : Prop where
  bd : ∃ p0 p1 p2 p3 p4 p5 p6 p7 p8 p9 : Pos, body = .stmts (initBody x y p0 p1 p2 p3 p4 p5 p6 p7 p8 p9) ∧ (p2.endLine == p4.line) = true
  top : (P.main.scope.names.lookup ("super" : Str)).isSome = false
  ar : ∃ (ar : Arg) (as : List Arg), params.posonlyargs ++ params.args = ar :: as ∧ ar.arg = x
  ne : x ≠ y
  bind : ∀ (b : List Stmt) (cl : List (Str × Addr)) (kV doc pm ct cdv : Value) (an : Option Addr) (u v : Value), bindArgs (PySem.W.fnX name qual params b scope cl .none kV doc pm an cdv ct) ⟨[u, v], []⟩ = pure [(x, u), (y, v)]
  sup : scope.names.lookup ("super" : Str) = some .globalImplicit
  cls : scope.names.lookup ("__class__" : Str) = some .free
  lx : scope.names.lookup x = some .local
  ly : scope.names.lookup y = some .local
  nc : ∀ z ∈ scope.names, z.2 ≠ .cell
  kd : scope.kind = .function
  co : scope.isCoroutine = false
  gn : scope.isGenerator = false
  dx : (x == ("__debug__" : Str)) = false
  dy : (y == ("__debug__" : Str)) = false
theorem supB_ok {P : Program} {K : PySem.W.Frag} {C fI : Addr} {x y name q : Str} {params : Arguments} {body : FuncBody} {scope : Scope} (h : supB K C fI y q P.main.file = true) (e : iniW K fI = some (name, q, params, body, scope, mainGlobals, builtinsNs)) (T : IniT P name q x y params body scope) : SupC P K C y := by
  obtain ⟨h1, h⟩ := He.ba h
  obtain ⟨h2, h⟩ := He.ba h
  obtain ⟨h3, h⟩ := He.ba h
  obtain ⟨h4, h⟩ := He.ba h
  obtain ⟨h5, h⟩ := He.ba h
  obtain ⟨h6, h⟩ := He.ba h
  obtain ⟨h7, h⟩ := He.ba h
  obtain ⟨h8, h⟩ := He.ba h
  obtain ⟨h9, h⟩ := He.ba h
  obtain ⟨g1, h⟩ := He.ba h
  obtain ⟨g2, h⟩ := He.ba h
  obtain ⟨g3, h⟩ := He.ba h
  obtain ⟨g4, g5⟩ := He.ba h
  obtain ⟨o1, o2⟩ := oexB_ok h1
  refine ⟨⟨o1, He.eqO_ok h2, bo_ok h3, of_decide_eq_true h4, h5⟩, He.eqO_ok h6, o2, He.eqO_ok h7, He.eqO_ok h8, bo_ok h9, bo_ok g1, g2, ?_⟩
  unfold iniW at e
  unfold iniB at g5
  cases lk : K.lookup fI with
  | none => rw [lk] at e; cases e
  | some o =>
    obtain ⟨oc, od, dt, osl⟩ := o
    rw [lk] at e g5
    cases dt with
    | func fd =>
      obtain ⟨n1, n2, n3, n4, n5, n6, n7, n8, n9, n10, n11, n12, n13, n14, n15⟩ := fd
      have e2 : (some (n1, n2, n3, n4, n5, n6, n15) : IniW) = some (name, q, params, body, scope, mainGlobals, builtinsNs) := e
      simp only [Option.some.injEq, Prod.mk.injEq] at e2
      obtain ⟨b1, b2, b3, b4, b5, b6, b7⟩ := e2
      subst b1 b2 b3 b4 b5 b6 b7
      obtain ⟨k1, k⟩ := He.ba g5
      obtain ⟨k2, k⟩ := He.ba k
      obtain ⟨k3, k4⟩ := He.ba k
      clear h g5 k
      dsimp only at k1 k2 k3 k4
      have k2' : n8 = .none := by cases n8 <;> first | rfl | cases k2
      subst k2'
      obtain ⟨cda, rfl⟩ : ∃ cda, n13 = .ref cda := by cases n13 <;> first | exact ⟨_, rfl⟩ | cases k4
      obtain ⟨m, cc, rfl⟩ : ∃ m cc, n7 = [(m, cc)] := by
        rcases n7 with _ | ⟨⟨m, cc⟩, _ | ⟨_, _⟩⟩ <;> first | exact ⟨_, _, rfl⟩ | cases k1
      obtain ⟨c1, c2⟩ := He.ba k1
      have c1' : m = ("__class__" : Str) := of_decide_eq_true c1
      subst c1'
      cases hco : K.lookup cda with
      | none => simp only [hco] at k4; cases k4
      | some o =>
        obtain ⟨ccl, cdd, dt, ccs⟩ := o
        simp only [hco] at k4
        cases dt with
        | fields vs =>
          simp only at k4
          cases hv : (vs[2]? : Option Value) with
          | none => simp only [hv] at k4; cases k4
          | some u =>
            simp only [hv] at k4
            cases u with
            | str file tf =>
              simp only at k4
              cases hcc : K.lookup cc with
              | none => simp only [hcc] at c2; cases c2
              | some o2 =>
                obtain ⟨ch, cld, dt2, csl⟩ := o2
                simp only [hcc] at c2
                cases dt2 with
                | cell cv =>
                  cases cv with
                  | none => cases c2
                  | some cv =>
                    cases cv with
                    | ref D =>
                      have c2' : D = C := of_decide_eq_true c2
                      subst c2'
                      obtain ⟨p0, p1, p2, p3, p4, p5, p6, p7, p8, p9, eb, el⟩ := T.bd
                      subst eb
                      obtain ⟨ar, as, ea, ex⟩ := T.ar
                      exact ⟨fI, cc, cda, x, p0, p1, p2, p3, p4, p5, p6, p7, p8, p9, oc, od, osl, n1, n2, n3, n5, .none, n9, n10, n11, n14, ccl, ch, n12, cdd, cld, ccs, csl, vs, file, tf, ar, as, He.eqO_ok g3, of_decide_eq_true g4, lk, k3, hco, hv, k4, T.top, hcc, ea, ex, T.ne, fun u v => T.bind _ _ _ _ _ _ _ _ u v, T.sup, T.cls, T.lx, T.ly, T.nc, T.kd, T.co, T.gn, T.dx, T.dy, el⟩
                    | _ => cases c2
                | _ => cases c2
            | _ => cases k4
        | _ => cases k4
    | _ => cases e
end PU
set_option maxHeartbeats 2000000
namespace PU
open PySem PySem.Spec PyProof.Rows L2

/-! ### a Hook that tells an __init__ too -/
/-- closures' cells and the statics are looked at too -/
def asY (g : Addr → Option Obj) (n : Nat) : List Addr := He.asD g n ++ cStatics :: (He.asD g n).flatMap fun a => match g a with
  | some ⟨_, _, .func fd, _⟩ => fd.closure.map (·.2)
  | _ => []
section
variable (n : Nat) (fa : List He.Fa) (fn : List He.DefD) (tf : List He.Defn) (ex : PySem.W.Frag → Bool) (ini : PySem.W.Frag → Addr) (iv : IniW)
abbrev AlY : Type := He.AlX × IniW
def obsY (g : Addr → Option Obj) : AlY := ((He.obsT fa fn [] (He.frT g (asY g n)), ex (He.frT g (asY g n)) && He.tabsB g tf (He.frT g (asY g n))), iniW (He.frT g (asY g n)) (ini (He.frT g (asY g n))))
def valY (w : World) : AlY := (He.valX fn [] w, iv)
/-- what the head's heap says -/
structure SaysY (w : World) (h : Heap) (K : PySem.W.Frag) : Prop where
  x : He.SaysX fa fn [] tf ex w h K
  i : iniW K (ini K) = iv
theorem saysY_of {w : World} {h : Heap} (e : obsY n fa fn tf ex ini h.get? = valY fn iv w) : SaysY fa fn tf ex ini iv w h (He.frT h.get? (asY h.get? n)) := by
  unfold obsY valY at e
  generalize hK : asY h.get? n = as at e ⊢
  have a1 : He.obsT fa fn [] (He.frT h.get? as) = He.valT fn [] w := congrArg (fun z : AlY => z.1.1) e
  have a2 : (ex (He.frT h.get? as) && He.tabsB h.get? tf (He.frT h.get? as)) = true := congrArg (fun z : AlY => z.1.2) e
  have a3 : iniW (He.frT h.get? as) (ini (He.frT h.get? as)) = iv := congrArg (fun z : AlY => z.2) e
  obtain ⟨b1, b2⟩ := He.ba a2
  have each : ∀ p ∈ tf, PySem.W.codeHdIn (He.frT h.get? as) (He.cT (He.frT h.get? as) p).1 (He.cT (He.frT h.get? as) p).2 = true ∧ ∃ o, h.get? (He.cT (He.frT h.get? as) p).2 = some o ∧ He.emptyTab o = true := fun p hp => by
    obtain ⟨c1, c2⟩ := He.ba (List.all_eq_true.mp b2 p hp)
    cases z : h.get? (He.cT (He.frT h.get? as) p).2 with
    | none => rw [z] at c2; cases c2
    | some o => rw [z] at c2; exact ⟨c1, o, rfl, c2⟩
  refine ⟨⟨a1, b1, fun p hp => (each p hp).1, fun p hp => ?_, fun p hp => ?_⟩, a3⟩
  · obtain ⟨_, o, z, y⟩ := each p hp
    exact He.frT_none z y
  · obtain ⟨_, o, z, y⟩ := each p hp
    rw [z, He.emptyTab_eq y]
def hookY : PySem.W.Hook where
  α := AlY
  obs := fun s => obsY n fa fn tf ex ini s.heap.get?
  val := fun w => valY fn iv w
  says := fun w h => ∃ K : PySem.W.Frag, K.In h ∧ SaysY fa fn tf ex ini iv w h K
  of := fun _ _ e => ⟨_, He.frT_in, saysY_of n fa fn tf ex ini iv e⟩
  keeps := fun _ _ _ ⟨K, hK, c⟩ k => ⟨K, PySem.W.Frag.In.keeps hK k, ⟨⟨c.x.t, c.x.more, c.x.hd, c.x.out, fun p hp => k _ _ (c.x.empty p hp)⟩, c.i⟩⟩
theorem obsY_eq {g : Addr → Option Obj} {s : Shared} (h : ∀ a, g a = s.heap.get? a) : obsY n fa fn tf ex ini g = (hookY n fa fn tf ex ini iv).obs s := by
  rw [show g = s.heap.get? from funext h]; rfl
end
end PU
set_option maxHeartbeats 2000000
namespace PU
open PySem PySem.Spec PyProof.Rows L2

/-! ### from a promise to the law's own end -/
/-- no list stands in what the head tells -/
def noLists (K : PySem.W.Frag) : Bool := K.all fun q => match q.2.cls with
  | .type t => !(decide (t = "list"))
  | _ => true
theorem noLists_ok {K : PySem.W.Frag} (h : noLists K = true) {a : Addr} {o : Obj} (e : K.lookup a = some o) : o.cls ≠ .type "list" := fun z => by
  have h2 := List.all_eq_true.mp h (a, o) (He.lookup_mem e)
  dsimp only at h2
  rw [z] at h2
  cases h2
/-- a script is read, true is answered -/
def spTop (K : PySem.W.Frag) (T : List (Addr × Str)) : Sp := fun vs H Q _ => ∃ (a : Addr) (ns : List Int), vs = [.ref a] ∧ SqL K H a (ns.map V.int) ∧ ns.length ≤ 63 ∧ LamX.Tabs T H ∧ ∀ H', Q (.bl true) H'
section
variable {P : Program} {w : World} {K : PySem.W.Frag} {mg : Str → Option Value} {base : Heap} {T : List (Addr × Str)}
theorem spTop_frz {f : Fn} {a : Addr} {ns : List Int} {o : Obj} {H : Hp} {Q : VK} {E : XK} (hf : Vl (f [.st (.lst (ns.map .int))]) (.bl true)) (h : H a = some (.frz o (.lst (ns.map V.int)))) (t : LamX.Tabs T H) (q : ∀ H', Q (.bl true) H') : spF K T 1 [] f [.ref a] H Q E := by
  obtain ⟨ρ, e⟩ := hf
  refine ⟨[.st (.lst (ns.map .int))], fun _ => [], argOk_stL (ds := [.lst (ns.map .int)]) (.cons (.lst h (.of_ints _)) .nil) rfl, t, ?_⟩
  rw [e]
  intro v H' _ _ _ _ r
  cases r
  exact q H'
theorem top_ok {f : Addr} {fd : FuncData} {k : Nat} {fn : Fn} {x : Str} (F : FnOk P w K mg base CX0 k f fd [x] (spF K T 1 [] fn)) (nl : noLists K = true) (hfn : ∀ ns : List Int, ns.length ≤ 63 → Vl (fn [.st (.lst (ns.map .int))]) (.bl true)) :
    FnOk P w K mg base CX0 k f fd [x] (spTop K T) := by
  refine ⟨fun vs H Q E ⟨a, ns, e, _⟩ => by rw [e]; rfl, fun A outer s H args us vs Q E hr e0 hb hv hs => ?_⟩
  obtain ⟨a, ns, rfl, hS, hn, t, q⟩ := hs
  rcases hS with (h | ⟨o, h⟩) | ⟨o, its, n, hk, hc, _⟩
  · obtain ⟨hl, its, n, rv, ho⟩ := e0.hok a _ h
    generalize hob : ({ cls := .type "list", data := .seq its.toArray n } : Obj) = ob at ho
    have key : ∀ b u, b ≠ a → H b = u → upd H a (.frz ob (.lst (ns.map V.int))) b = u := fun b u ne e => (upd_ne ne).trans e
    have neN : ∀ b, H b = none → b ≠ a := fun b z y => by rw [y, h] at z; cases z
    have e1 : Env0 P w K mg base A outer s (upd H a (.frz ob (.lst (ns.map V.int)))) := by
      refine ⟨e0.frames, e0.mod, fun b o e => ?_, e0.bsz, e0.funs, fun b hb => ?_, fun b o e => ?_, e0.bare⟩
      · obtain ⟨z1, z2⟩ := e0.bs b o e
        exact ⟨z1, key _ _ (neN b z2) z2⟩
      · exact key _ _ (neN b (e0.frf b hb)) (e0.frf b hb)
      · by_cases ba : b = a
        · subst ba
          rw [upd_same] at e
          cases e
          exact ⟨ho, hl, its, n, rv, ho.trans (congrArg some hob.symm)⟩
        · rw [upd_ne ba] at e
          exact (e0.hok b o e).stay (fun _ _ _ z => z) (fun c z => key _ _ (fun y => by rw [y, h] at z; cases z) z) fun c xs z => key _ _ (fun y => by rw [y, h] at z; cases z) z
    have t1 : LamX.Tabs T (upd H a (.frz ob (.lst (ns.map V.int)))) := fun p hp => by
      obtain ⟨ps, g1, g2, g3⟩ := t p hp
      refine ⟨ps, key _ _ (fun y => by rw [y, h] at g1; cases g1) g1, g2, fun pos cv hc => ?_⟩
      obtain ⟨c, c1, c2⟩ := g3 pos cv hc
      exact ⟨c, c1, key _ _ (fun y => by rw [y, h] at c2; cases c2) c2⟩
    refine codeAny_mono (F.run A outer s _ args us _ _ E hr e1 hb hv (spTop_frz (hfn ns hn) upd_same t1 q)) fun r s' hr' => ?_
    cases r with
    | error e => exact hr'
    | ok fl =>
      cases fl with
      | next => exact False.elim hr'
      | brk => exact False.elim hr'
      | cont => exact False.elim hr'
      | ret u =>
        obtain ⟨v, H', os, bare, un, hok', r', q'⟩ := hr'
        refine ⟨v, H', os, bare, ⟨fun b o e n => un.keep b o e (key _ _ (neN b n) n), fun b o e n => un.slot b o e (key _ _ (neN b n) n), fun b o e n => un.free b o e (key _ _ (neN b n) n), un.there, fun b xs z => un.tups b xs (key _ _ (fun y => by rw [y, h] at z; cases z) z), fun b o u z => un.frzs b o u (key _ _ (fun y => by rw [y, h] at z; cases z) z), fun b ps z => un.tbls b ps (key _ _ (fun y => by rw [y, h] at z; cases z) z)⟩, hok', r', q'⟩
  · exact F.run A outer s H args us _ Q E hr e0 hb hv (spTop_frz (hfn ns hn) h t q)
  · exact absurd hc (noLists_ok nl hk)
/-- a def by its name -/
theorem fnc_of {x : Str} {st : Stmt} {f : Addr} {fd : FuncData} {CX : CXT} {k : Nat} {ps : List Str} {sp : Sp} (D : FnP K x st f fd) (m : mg x = some (.ref f)) (F : FnOk P w K mg base CX k f fd ps sp)
    (hb : ∀ (kV doc pm : Value) (an : Option Addr) (cdv ct : Value) (us : List Value), us.length = ps.length → bindArgs (PySem.W.fnOf x x (defArgs st) (defBody st) (defScope st) .none kV doc pm an cdv ct) ⟨us, []⟩ = pure (ps.zip us)) : Fnc P w K mg base CX x k ps sp :=
  ⟨f, fd, F, m, D.kp, D.bindsN hb⟩
/-- .. and by keywords alone -/
theorem fncK_of {x : Str} {st : Stmt} {f : Addr} {fd : FuncData} {CX : CXT} {k n : Nat} {ps ks : List Str} {is : List Nat} {sp : Sp} (D : FnP K x st f fd) (m : mg x = some (.ref f)) (F : FnOk P w K mg base CX k f fd ps sp)
    (hb : ∀ (kV doc pm : Value) (an : Option Addr) (cdv ct : Value) (ws : List Value), ws.length = n → bindArgs (PySem.W.fnOf x x (defArgs st) (defBody st) (defScope st) .none kV doc pm an cdv ct) ⟨[], ks.zip ws⟩ = pure (ps.zip (pick is n ws))) : FncK P w K mg base CX x k ps ks is n sp := by
  refine ⟨f, fd, F, m, D.kp, fun s ws _ hl => ?_⟩
  obtain ⟨oc, od, dV, kV, doc, pm, an, cdv, ct, osl, rfl, lk, hcd, hD, hK⟩ := D.ex
  rcases hD with ⟨_, rfl⟩ | ⟨e, _⟩
  · exact .of_eq (hb kV doc pm an cdv ct ws hl)
  · exact absurd rfl e
theorem code_of {x : Str} {st : Stmt} {fd : FuncData} (D : FnP K x st (He.fAd K (x, none)) fd) : fd.code = .ref (He.codeOf K (x, none)) := by
  obtain ⟨oc, od, dV, kV, doc, pm, an, cdv, ct, osl, rfl, lk, hcd, _, _⟩ := D.ex
  obtain ⟨c, e⟩ := He.codeIn_ref hcd
  have e2 : (PySem.W.fnOf x x (defArgs st) (defBody st) (defScope st) dV kV doc pm an cdv ct).code = .ref c := e
  rw [He.codeOf_eq lk e2]
  exact e2
end
end PU
set_option maxHeartbeats 0
namespace PU.C
open PySem PySem.Spec PyProof.Rows L2 PU
/-! ### the head: what is told -/
def fa0 : List He.Fa := [.free "abs", .free "all", .free "any", .free "bool", .free "dict", .free "enumerate", .free "int", .free "isinstance", .free "len", .free "list", .free "max", .free "min"]
def fa1 : List He.Fa := [.free "range", .free "reversed", .free "set", .free "sorted", .free "str", .free "sum", .free "super", .free "tuple", .free "zip", .glo "SlipError", .glo "BadNumber", .glo "BadClass"]
def fa2 : List He.Fa := [.glo "BadNumbers", .glo "is_whole", .glo "is_word", .glo "is_label", .glo "are_points", .glo "is_class", .glo "need_class", .glo "need_row", .glo "unlike", .glo "edge_list", .glo "pairs_of", .glo "within"]
def fa3 : List He.Fa := [.glo "is_lot", .glo "need_lot", .glo "edges", .glo "edges_at", .glo "edges_within", .glo "_law_begun", .glo "_law_blended", .glo "_law_draw", .glo "_law_pick", .glo "_law_shuffled", .glo "_law_caught", .glo "_law_is_truth"]
def fa4 : List He.Fa := [.glo "_law_same", .glo "_law_words", .glo "_law_class", .glo "_law_odd", .glo "_law_sh_labels", .glo "_law_sh_edges", .glo "_law_sh_closed", .glo "_law_sh_class", .glo "_law_sh_no_number", .glo "_law_lo_within", .glo "_law_is_refused", .glo "law"]
def fa5 : List He.Fa := [.str "LETTERS" "abcdefghijklmnopqrstuvwxyz", .int "MOST_POINTS" 8, .int "MOST_ROWS" 24, .noat "BadNumber" "part", .exm "BadNumber" "SlipError" true, .exm "BadClass" "SlipError" true, .exm "BadNumbers" "SlipError" true]
def faL : List He.Fa := fa0 ++ fa1 ++ fa2 ++ fa3 ++ fa4 ++ fa5
def dd_is_whole : He.DefD := ⟨("is_whole", none), "is_whole", "is_whole", defArgs s_is_whole, defBody s_is_whole, defScope s_is_whole, [], []⟩
def dd_is_word : He.DefD := ⟨("is_word", none), "is_word", "is_word", defArgs s_is_word, defBody s_is_word, defScope s_is_word, [], []⟩
def dd_is_label : He.DefD := ⟨("is_label", none), "is_label", "is_label", defArgs s_is_label, defBody s_is_label, defScope s_is_label, [], []⟩
def dd_are_points : He.DefD := ⟨("are_points", none), "are_points", "are_points", defArgs s_are_points, defBody s_are_points, defScope s_are_points, [], []⟩
def dd_is_class : He.DefD := ⟨("is_class", none), "is_class", "is_class", defArgs s_is_class, defBody s_is_class, defScope s_is_class, [], []⟩
def dd_need_class : He.DefD := ⟨("need_class", none), "need_class", "need_class", defArgs s_need_class, defBody s_need_class, defScope s_need_class, [], []⟩
def dd_need_row : He.DefD := ⟨("need_row", none), "need_row", "need_row", defArgs s_need_row, defBody s_need_row, defScope s_need_row, [], []⟩
def dd_unlike : He.DefD := ⟨("unlike", none), "unlike", "unlike", defArgs s_unlike, defBody s_unlike, defScope s_unlike, [], []⟩
def dd_edge_list : He.DefD := ⟨("edge_list", none), "edge_list", "edge_list", defArgs s_edge_list, defBody s_edge_list, defScope s_edge_list, [], []⟩
def dd_pairs_of : He.DefD := ⟨("pairs_of", none), "pairs_of", "pairs_of", defArgs s_pairs_of, defBody s_pairs_of, defScope s_pairs_of, [], []⟩
def dd_within : He.DefD := ⟨("within", none), "within", "within", defArgs s_within, defBody s_within, defScope s_within, [], []⟩
def dd_is_lot : He.DefD := ⟨("is_lot", none), "is_lot", "is_lot", defArgs s_is_lot, defBody s_is_lot, defScope s_is_lot, [], []⟩
def dd_need_lot : He.DefD := ⟨("need_lot", none), "need_lot", "need_lot", defArgs s_need_lot, defBody s_need_lot, defScope s_need_lot, [], []⟩
def dd_edges : He.DefD := ⟨("edges", none), "edges", "edges", defArgs s_edges, defBody s_edges, defScope s_edges, [], []⟩
def dd_edges_at : He.DefD := ⟨("edges_at", none), "edges_at", "edges_at", defArgs s_edges_at, defBody s_edges_at, defScope s_edges_at, [], []⟩
def dd_edges_within : He.DefD := ⟨("edges_within", none), "edges_within", "edges_within", defArgs s_edges_within, defBody s_edges_within, defScope s_edges_within, [], []⟩
def dd__law_begun : He.DefD := ⟨("_law_begun", none), "_law_begun", "_law_begun", defArgs s__law_begun, defBody s__law_begun, defScope s__law_begun, [], []⟩
def dd__law_blended : He.DefD := ⟨("_law_blended", none), "_law_blended", "_law_blended", defArgs s__law_blended, defBody s__law_blended, defScope s__law_blended, [], []⟩
def dd__law_draw : He.DefD := ⟨("_law_draw", none), "_law_draw", "_law_draw", defArgs s__law_draw, defBody s__law_draw, defScope s__law_draw, [], []⟩
def dd__law_pick : He.DefD := ⟨("_law_pick", none), "_law_pick", "_law_pick", defArgs s__law_pick, defBody s__law_pick, defScope s__law_pick, [], []⟩
def dd__law_shuffled : He.DefD := ⟨("_law_shuffled", none), "_law_shuffled", "_law_shuffled", defArgs s__law_shuffled, defBody s__law_shuffled, defScope s__law_shuffled, [], []⟩
def dd__law_caught : He.DefD := ⟨("_law_caught", none), "_law_caught", "_law_caught", defArgs s__law_caught, defBody s__law_caught, defScope s__law_caught, [], []⟩
def dd__law_is_truth : He.DefD := ⟨("_law_is_truth", none), "_law_is_truth", "_law_is_truth", defArgs s__law_is_truth, defBody s__law_is_truth, defScope s__law_is_truth, [], []⟩
def dd__law_same : He.DefD := ⟨("_law_same", none), "_law_same", "_law_same", defArgs s__law_same, defBody s__law_same, defScope s__law_same, [], []⟩
def dd__law_words : He.DefD := ⟨("_law_words", none), "_law_words", "_law_words", defArgs s__law_words, defBody s__law_words, defScope s__law_words, [], []⟩
def dd__law_class : He.DefD := ⟨("_law_class", none), "_law_class", "_law_class", defArgs s__law_class, defBody s__law_class, defScope s__law_class, [], []⟩
def dd__law_odd : He.DefD := ⟨("_law_odd", none), "_law_odd", "_law_odd", defArgs s__law_odd, defBody s__law_odd, defScope s__law_odd, [], []⟩
def dd__law_sh_labels : He.DefD := ⟨("_law_sh_labels", none), "_law_sh_labels", "_law_sh_labels", defArgs s__law_sh_labels, defBody s__law_sh_labels, defScope s__law_sh_labels, [], []⟩
def dd__law_sh_edges : He.DefD := ⟨("_law_sh_edges", none), "_law_sh_edges", "_law_sh_edges", defArgs s__law_sh_edges, defBody s__law_sh_edges, defScope s__law_sh_edges, [], []⟩
def dd__law_sh_closed : He.DefD := ⟨("_law_sh_closed", none), "_law_sh_closed", "_law_sh_closed", defArgs s__law_sh_closed, defBody s__law_sh_closed, defScope s__law_sh_closed, [], []⟩
def dd__law_sh_class : He.DefD := ⟨("_law_sh_class", none), "_law_sh_class", "_law_sh_class", defArgs s__law_sh_class, defBody s__law_sh_class, defScope s__law_sh_class, [], []⟩
def dd__law_sh_no_number : He.DefD := ⟨("_law_sh_no_number", none), "_law_sh_no_number", "_law_sh_no_number", defArgs s__law_sh_no_number, defBody s__law_sh_no_number, defScope s__law_sh_no_number, [], []⟩
def dd__law_lo_within : He.DefD := ⟨("_law_lo_within", none), "_law_lo_within", "_law_lo_within", defArgs s__law_lo_within, defBody s__law_lo_within, defScope s__law_lo_within, [], []⟩
def dd__law_is_refused : He.DefD := ⟨("_law_is_refused", none), "_law_is_refused", "_law_is_refused", defArgs s__law_is_refused, defBody s__law_is_refused, defScope s__law_is_refused, [], []⟩
def dd_law : He.DefD := ⟨("law", none), "law", "law", defArgs s_law, defBody s_law, defScope s_law, [], []⟩
def fn0 : List He.DefD := [dd_is_whole, dd_is_word, dd_is_label, dd_are_points, dd_is_class, dd_need_class, dd_need_row, dd_unlike, dd_edge_list, dd_pairs_of]
def fn1 : List He.DefD := [dd_within, dd_is_lot, dd_need_lot, dd_edges, dd_edges_at, dd_edges_within, dd__law_begun, dd__law_blended, dd__law_draw, dd__law_pick]
def fn2 : List He.DefD := [dd__law_shuffled, dd__law_caught, dd__law_is_truth, dd__law_same, dd__law_words, dd__law_class, dd__law_odd, dd__law_sh_labels, dd__law_sh_edges, dd__law_sh_closed]
def fn3 : List He.DefD := [dd__law_sh_class, dd__law_sh_no_number, dd__law_lo_within, dd__law_is_refused, dd_law]
def fnL : List He.DefD := fn0 ++ fn1 ++ fn2 ++ fn3
def tfL : List He.Defn := [("_law_is_refused", none)]
def c0K (K : PySem.W.Frag) : Cls0 := ⟨He.ga K "SlipError", He.ga K "BadNumber", He.ga K "BadClass", He.ga K "BadNumbers"⟩
def iniA (K : PySem.W.Frag) : Addr := He.ma K (He.ga K "BadNumber") "__init__"
abbrev prg : Program := PySem.Challenge.pw_leastslips_k65_edges_of_classes
def exL (K : PySem.W.Frag) : Bool := tabB K (He.ga K "SlipError") && (excB K (He.ga K "SlipError") && (tabB K (He.ga K "BadNumber") && (tabB K (He.ga K "BadClass") && (excB K (He.ga K "BadClass") && (tabB K (He.ga K "BadNumbers") && (excB K (He.ga K "BadNumbers") && (noLists K && (supB K (He.ga K "BadNumber") (iniA K) "part" "BadNumber.__init__" prg.main.file))))))))
def iniSt : Stmt := match top 2 with
  | .ClassDef _ _ _ (st :: _) _ _ _ _ _ _ _ => st
  | _ => .Pass ⟨0, 0, 0, 0⟩
def iniV : IniW := some ("__init__", "BadNumber.__init__", defArgs iniSt, .stmts (defBody iniSt), defScope iniSt, mainGlobals, builtinsNs)
def nm0 : List Str := ["SlipError", "BadNumber", "BadClass", "BadNumbers", "is_whole", "LETTERS", "is_word", "MOST_POINTS", "MOST_ROWS", "is_label", "are_points", "is_class"]
def nm1 : List Str := ["need_class", "need_row", "unlike", "edge_list", "pairs_of", "within", "is_lot", "need_lot", "edges", "edges_at", "edges_within", "_law_begun"]
def nm2 : List Str := ["_law_blended", "_law_draw", "_law_pick", "_law_shuffled", "_law_caught", "_law_is_truth", "_law_same", "_law_words", "_law_class", "_law_odd", "_law_sh_labels", "_law_sh_edges"]
def nm3 : List Str := ["_law_sh_closed", "_law_sh_class", "_law_sh_no_number", "_law_lo_within", "_law_is_refused"]
def nmL : List Str := nm0 ++ nm1 ++ nm2 ++ nm3
abbrev RL : PySem.W.OpenRow := PySem.W.OpenLaw.row PySem.Challenge.rw_leastslips_k65_edges_of_classes
abbrev hkL : PySem.W.Hook := hookY 5 faL fnL tfL exL iniA iniV
def obL (s : PySem.W.SharedT) : AlY := obsY 5 faL fnL tfL exL iniA (HandSHeadRun.getT s)
theorem obL_eq (s : PySem.W.SharedT) : obL s = hkL.obs s.abs := obsY_eq 5 faL fnL tfL exL iniA iniV (HandSHeadRun.getT_eq s)
theorem runL (w : World) : HandSHeadRun.RunEq RL (PySem.W.view RL.prog [48]) hkL obL 2400 nmL w := by
  intro os
  kernel_rfl
end PU.C
set_option maxHeartbeats 0
namespace PU.C
open PySem PySem.Spec PyProof.Rows L2 PU
/-! ### what the head tells, said of the globals -/
abbrev lwN : PySem.W.OpenLaw := PySem.Challenge.rw_leastslips_k65_edges_of_classes
abbrev prL : Program := lwN.prog
section
variable {w : World} {K : PySem.W.Frag} {h : Heap} {mg : Str → Option Value}
abbrev SaysL (w : World) (h : Heap) (K : PySem.W.Frag) : Prop := SaysY faL fnL tfL exL iniA iniV w h K
theorem gs_of (X : K.In h) (G : h.Ns mainGlobals mg) (c : He.SaysD faL fnL K) : Gs mg :=
  ⟨He.free_ok X G (c.fact 0 (f := .free "abs") rfl),
  He.free_ok X G (c.fact 1 (f := .free "all") rfl),
  He.free_ok X G (c.fact 2 (f := .free "any") rfl),
  He.free_ok X G (c.fact 3 (f := .free "bool") rfl),
  He.free_ok X G (c.fact 4 (f := .free "dict") rfl),
  He.free_ok X G (c.fact 5 (f := .free "enumerate") rfl),
  He.free_ok X G (c.fact 6 (f := .free "int") rfl),
  He.free_ok X G (c.fact 7 (f := .free "isinstance") rfl),
  He.free_ok X G (c.fact 8 (f := .free "len") rfl),
  He.free_ok X G (c.fact 9 (f := .free "list") rfl),
  He.free_ok X G (c.fact 10 (f := .free "max") rfl),
  He.free_ok X G (c.fact 11 (f := .free "min") rfl),
  He.free_ok X G (c.fact 12 (f := .free "range") rfl),
  He.free_ok X G (c.fact 13 (f := .free "reversed") rfl),
  He.free_ok X G (c.fact 14 (f := .free "set") rfl),
  He.free_ok X G (c.fact 15 (f := .free "sorted") rfl),
  He.free_ok X G (c.fact 16 (f := .free "str") rfl),
  He.free_ok X G (c.fact 17 (f := .free "sum") rfl),
  He.free_ok X G (c.fact 18 (f := .free "super") rfl),
  He.free_ok X G (c.fact 19 (f := .free "tuple") rfl),
  He.free_ok X G (c.fact 20 (f := .free "zip") rfl),
  He.str_ok X G (c.fact 60 (f := .str "LETTERS" "abcdefghijklmnopqrstuvwxyz") rfl),
  He.int_ok X G (c.fact 61 (f := .int "MOST_POINTS" 8) rfl),
  He.int_ok X G (c.fact 62 (f := .int "MOST_ROWS" 24) rfl)⟩
theorem iniT : IniT prL "__init__" "BadNumber.__init__" "self" "part" (defArgs iniSt) (.stmts (defBody iniSt)) (defScope iniSt) where
  bd := ⟨_, _, _, _, _, _, _, _, _, _, rfl, by decide +kernel⟩
  top := by decide +kernel
  ar := ⟨_, _, rfl, by decide +kernel⟩
  ne := by decide +kernel
  bind := fun _ _ _ _ _ _ _ _ _ _ => rfl
  sup := rfl
  cls := rfl
  lx := rfl
  ly := rfl
  nc := by decide +kernel
  kd := rfl
  co := rfl
  gn := rfl
  dx := by decide +kernel
  dy := by decide +kernel
structure ExL (K : PySem.W.Frag) : Prop where
  t_SlipError : tabB K (He.ga K "SlipError") = true
  e_SlipError : excB K (He.ga K "SlipError") = true
  t_BadNumber : tabB K (He.ga K "BadNumber") = true
  t_BadClass : tabB K (He.ga K "BadClass") = true
  e_BadClass : excB K (He.ga K "BadClass") = true
  t_BadNumbers : tabB K (He.ga K "BadNumbers") = true
  e_BadNumbers : excB K (He.ga K "BadNumbers") = true
  nl : noLists K = true
  su : supB K (He.ga K "BadNumber") (iniA K) "part" "BadNumber.__init__" prg.main.file = true
theorem exL_ok (e : exL K = true) : ExL K := by
  obtain ⟨a0, e⟩ := He.ba e
  obtain ⟨a1, e⟩ := He.ba e
  obtain ⟨a2, e⟩ := He.ba e
  obtain ⟨a3, e⟩ := He.ba e
  obtain ⟨a4, e⟩ := He.ba e
  obtain ⟨a5, e⟩ := He.ba e
  obtain ⟨a6, e⟩ := He.ba e
  obtain ⟨a7, e⟩ := He.ba e
  exact ⟨a0, a1, a2, a3, a4, a5, a6, a7, e⟩
theorem lam_of (X : K.In h) (G : h.Ns mainGlobals mg) (c : He.SaysD faL fnL K) : LamF K mg "_law_caught" s__law_caught (c0K K).SlipError (c0K K).caught := by
  obtain ⟨fd, D⟩ := c.def_ 21 (d := dd__law_caught) rfl
  have D' : FnP K "_law_caught" s__law_caught (He.ga K "_law_caught") fd := D
  refine ⟨⟨_, fd, D', He.glo_ok X G (c.fact 46 (f := .glo "_law_caught") rfl), D'.bindsN fun _ _ _ _ _ _ us hl => match us, hl with | [_], _ => rfl⟩, He.glo_ok X G (c.fact 21 (f := .glo "SlipError") rfl), fun C hC => ?_⟩
  have hC' : C ∈ [He.ga K "BadNumber", He.ga K "BadClass", He.ga K "BadNumbers"] := hC
  rcases List.mem_cons.mp hC' with z | hC'
  · rw [z]; exact He.exm_ok (c.fact 64 (f := .exm "BadNumber" "SlipError" true) rfl)
  rcases List.mem_cons.mp hC' with z | hC'
  · rw [z]; exact He.exm_ok (c.fact 65 (f := .exm "BadClass" "SlipError" true) rfl)
  rcases List.mem_cons.mp hC' with z | hC'
  · rw [z]; exact He.exm_ok (c.fact 66 (f := .exm "BadNumbers" "SlipError" true) rfl)
  cases hC'
theorem cls_of {T : List (Addr × Str)} {base : Heap} (X : K.In h) (G : h.Ns mainGlobals mg) (Y : SaysL w h K) : ClsF (c0K K) prL K mg base T := by
  have c := Y.x.t.d
  have e := exL_ok Y.x.more
  exact {
    m_SlipError := He.glo_ok X G (c.fact 21 (f := .glo "SlipError") rfl)
    ra_SlipError := excB_ok e.e_SlipError
    is_SlipError := tabB_ok e.t_SlipError
    m_BadNumber := He.glo_ok X G (c.fact 22 (f := .glo "BadNumber") rfl)
    is_BadNumber := tabB_ok e.t_BadNumber
    m_BadClass := He.glo_ok X G (c.fact 23 (f := .glo "BadClass") rfl)
    ra_BadClass := excB_ok e.e_BadClass
    is_BadClass := tabB_ok e.t_BadClass
    m_BadNumbers := He.glo_ok X G (c.fact 24 (f := .glo "BadNumbers") rfl)
    ra_BadNumbers := excB_ok e.e_BadNumbers
    is_BadNumbers := tabB_ok e.t_BadNumbers
    su_BadNumber := supB_ok (P := prL) e.su Y.i iniT
    fld_part := fun C hC => by
      rw [List.mem_singleton.mp hC]
      exact ⟨((tabB_ok e.t_BadNumber).2 _ List.mem_cons_self).1, He.noat_ok (c.fact 63 (f := .noat "BadNumber" "part") rfl)⟩
    lam := lam_of X G c }
/-! ### each def by its name -/
structure DfL (K : PySem.W.Frag) (mg : Str → Option Value) (x : Str) (st : Stmt) : Prop where
  ex : ∃ fd, FnP K x st (He.fAd K (x, none)) fd
  m : mg x = some (.ref (He.fAd K (x, none)))
theorem df_is_whole (X : K.In h) (G : h.Ns mainGlobals mg) (c : He.SaysD faL fnL K) : DfL K mg "is_whole" s_is_whole := ⟨c.def_ 0 (d := dd_is_whole) rfl, He.glo_ok X G (c.fact 25 (f := .glo "is_whole") rfl)⟩
theorem df_is_word (X : K.In h) (G : h.Ns mainGlobals mg) (c : He.SaysD faL fnL K) : DfL K mg "is_word" s_is_word := ⟨c.def_ 1 (d := dd_is_word) rfl, He.glo_ok X G (c.fact 26 (f := .glo "is_word") rfl)⟩
theorem df_is_label (X : K.In h) (G : h.Ns mainGlobals mg) (c : He.SaysD faL fnL K) : DfL K mg "is_label" s_is_label := ⟨c.def_ 2 (d := dd_is_label) rfl, He.glo_ok X G (c.fact 27 (f := .glo "is_label") rfl)⟩
theorem df_are_points (X : K.In h) (G : h.Ns mainGlobals mg) (c : He.SaysD faL fnL K) : DfL K mg "are_points" s_are_points := ⟨c.def_ 3 (d := dd_are_points) rfl, He.glo_ok X G (c.fact 28 (f := .glo "are_points") rfl)⟩
theorem df_is_class (X : K.In h) (G : h.Ns mainGlobals mg) (c : He.SaysD faL fnL K) : DfL K mg "is_class" s_is_class := ⟨c.def_ 4 (d := dd_is_class) rfl, He.glo_ok X G (c.fact 29 (f := .glo "is_class") rfl)⟩
theorem df_need_class (X : K.In h) (G : h.Ns mainGlobals mg) (c : He.SaysD faL fnL K) : DfL K mg "need_class" s_need_class := ⟨c.def_ 5 (d := dd_need_class) rfl, He.glo_ok X G (c.fact 30 (f := .glo "need_class") rfl)⟩
theorem df_need_row (X : K.In h) (G : h.Ns mainGlobals mg) (c : He.SaysD faL fnL K) : DfL K mg "need_row" s_need_row := ⟨c.def_ 6 (d := dd_need_row) rfl, He.glo_ok X G (c.fact 31 (f := .glo "need_row") rfl)⟩
theorem df_unlike (X : K.In h) (G : h.Ns mainGlobals mg) (c : He.SaysD faL fnL K) : DfL K mg "unlike" s_unlike := ⟨c.def_ 7 (d := dd_unlike) rfl, He.glo_ok X G (c.fact 32 (f := .glo "unlike") rfl)⟩
theorem df_edge_list (X : K.In h) (G : h.Ns mainGlobals mg) (c : He.SaysD faL fnL K) : DfL K mg "edge_list" s_edge_list := ⟨c.def_ 8 (d := dd_edge_list) rfl, He.glo_ok X G (c.fact 33 (f := .glo "edge_list") rfl)⟩
theorem df_pairs_of (X : K.In h) (G : h.Ns mainGlobals mg) (c : He.SaysD faL fnL K) : DfL K mg "pairs_of" s_pairs_of := ⟨c.def_ 9 (d := dd_pairs_of) rfl, He.glo_ok X G (c.fact 34 (f := .glo "pairs_of") rfl)⟩
theorem df_within (X : K.In h) (G : h.Ns mainGlobals mg) (c : He.SaysD faL fnL K) : DfL K mg "within" s_within := ⟨c.def_ 10 (d := dd_within) rfl, He.glo_ok X G (c.fact 35 (f := .glo "within") rfl)⟩
theorem df_is_lot (X : K.In h) (G : h.Ns mainGlobals mg) (c : He.SaysD faL fnL K) : DfL K mg "is_lot" s_is_lot := ⟨c.def_ 11 (d := dd_is_lot) rfl, He.glo_ok X G (c.fact 36 (f := .glo "is_lot") rfl)⟩
theorem df_need_lot (X : K.In h) (G : h.Ns mainGlobals mg) (c : He.SaysD faL fnL K) : DfL K mg "need_lot" s_need_lot := ⟨c.def_ 12 (d := dd_need_lot) rfl, He.glo_ok X G (c.fact 37 (f := .glo "need_lot") rfl)⟩
theorem df_edges (X : K.In h) (G : h.Ns mainGlobals mg) (c : He.SaysD faL fnL K) : DfL K mg "edges" s_edges := ⟨c.def_ 13 (d := dd_edges) rfl, He.glo_ok X G (c.fact 38 (f := .glo "edges") rfl)⟩
theorem df_edges_at (X : K.In h) (G : h.Ns mainGlobals mg) (c : He.SaysD faL fnL K) : DfL K mg "edges_at" s_edges_at := ⟨c.def_ 14 (d := dd_edges_at) rfl, He.glo_ok X G (c.fact 39 (f := .glo "edges_at") rfl)⟩
theorem df_edges_within (X : K.In h) (G : h.Ns mainGlobals mg) (c : He.SaysD faL fnL K) : DfL K mg "edges_within" s_edges_within := ⟨c.def_ 15 (d := dd_edges_within) rfl, He.glo_ok X G (c.fact 40 (f := .glo "edges_within") rfl)⟩
theorem df__law_begun (X : K.In h) (G : h.Ns mainGlobals mg) (c : He.SaysD faL fnL K) : DfL K mg "_law_begun" s__law_begun := ⟨c.def_ 16 (d := dd__law_begun) rfl, He.glo_ok X G (c.fact 41 (f := .glo "_law_begun") rfl)⟩
theorem df__law_blended (X : K.In h) (G : h.Ns mainGlobals mg) (c : He.SaysD faL fnL K) : DfL K mg "_law_blended" s__law_blended := ⟨c.def_ 17 (d := dd__law_blended) rfl, He.glo_ok X G (c.fact 42 (f := .glo "_law_blended") rfl)⟩
theorem df__law_draw (X : K.In h) (G : h.Ns mainGlobals mg) (c : He.SaysD faL fnL K) : DfL K mg "_law_draw" s__law_draw := ⟨c.def_ 18 (d := dd__law_draw) rfl, He.glo_ok X G (c.fact 43 (f := .glo "_law_draw") rfl)⟩
theorem df__law_pick (X : K.In h) (G : h.Ns mainGlobals mg) (c : He.SaysD faL fnL K) : DfL K mg "_law_pick" s__law_pick := ⟨c.def_ 19 (d := dd__law_pick) rfl, He.glo_ok X G (c.fact 44 (f := .glo "_law_pick") rfl)⟩
theorem df__law_shuffled (X : K.In h) (G : h.Ns mainGlobals mg) (c : He.SaysD faL fnL K) : DfL K mg "_law_shuffled" s__law_shuffled := ⟨c.def_ 20 (d := dd__law_shuffled) rfl, He.glo_ok X G (c.fact 45 (f := .glo "_law_shuffled") rfl)⟩
theorem df__law_caught (X : K.In h) (G : h.Ns mainGlobals mg) (c : He.SaysD faL fnL K) : DfL K mg "_law_caught" s__law_caught := ⟨c.def_ 21 (d := dd__law_caught) rfl, He.glo_ok X G (c.fact 46 (f := .glo "_law_caught") rfl)⟩
theorem df__law_is_truth (X : K.In h) (G : h.Ns mainGlobals mg) (c : He.SaysD faL fnL K) : DfL K mg "_law_is_truth" s__law_is_truth := ⟨c.def_ 22 (d := dd__law_is_truth) rfl, He.glo_ok X G (c.fact 47 (f := .glo "_law_is_truth") rfl)⟩
theorem df__law_same (X : K.In h) (G : h.Ns mainGlobals mg) (c : He.SaysD faL fnL K) : DfL K mg "_law_same" s__law_same := ⟨c.def_ 23 (d := dd__law_same) rfl, He.glo_ok X G (c.fact 48 (f := .glo "_law_same") rfl)⟩
theorem df__law_words (X : K.In h) (G : h.Ns mainGlobals mg) (c : He.SaysD faL fnL K) : DfL K mg "_law_words" s__law_words := ⟨c.def_ 24 (d := dd__law_words) rfl, He.glo_ok X G (c.fact 49 (f := .glo "_law_words") rfl)⟩
theorem df__law_class (X : K.In h) (G : h.Ns mainGlobals mg) (c : He.SaysD faL fnL K) : DfL K mg "_law_class" s__law_class := ⟨c.def_ 25 (d := dd__law_class) rfl, He.glo_ok X G (c.fact 50 (f := .glo "_law_class") rfl)⟩
theorem df__law_odd (X : K.In h) (G : h.Ns mainGlobals mg) (c : He.SaysD faL fnL K) : DfL K mg "_law_odd" s__law_odd := ⟨c.def_ 26 (d := dd__law_odd) rfl, He.glo_ok X G (c.fact 51 (f := .glo "_law_odd") rfl)⟩
theorem df__law_sh_labels (X : K.In h) (G : h.Ns mainGlobals mg) (c : He.SaysD faL fnL K) : DfL K mg "_law_sh_labels" s__law_sh_labels := ⟨c.def_ 27 (d := dd__law_sh_labels) rfl, He.glo_ok X G (c.fact 52 (f := .glo "_law_sh_labels") rfl)⟩
theorem df__law_sh_edges (X : K.In h) (G : h.Ns mainGlobals mg) (c : He.SaysD faL fnL K) : DfL K mg "_law_sh_edges" s__law_sh_edges := ⟨c.def_ 28 (d := dd__law_sh_edges) rfl, He.glo_ok X G (c.fact 53 (f := .glo "_law_sh_edges") rfl)⟩
theorem df__law_sh_closed (X : K.In h) (G : h.Ns mainGlobals mg) (c : He.SaysD faL fnL K) : DfL K mg "_law_sh_closed" s__law_sh_closed := ⟨c.def_ 29 (d := dd__law_sh_closed) rfl, He.glo_ok X G (c.fact 54 (f := .glo "_law_sh_closed") rfl)⟩
theorem df__law_sh_class (X : K.In h) (G : h.Ns mainGlobals mg) (c : He.SaysD faL fnL K) : DfL K mg "_law_sh_class" s__law_sh_class := ⟨c.def_ 30 (d := dd__law_sh_class) rfl, He.glo_ok X G (c.fact 55 (f := .glo "_law_sh_class") rfl)⟩
theorem df__law_sh_no_number (X : K.In h) (G : h.Ns mainGlobals mg) (c : He.SaysD faL fnL K) : DfL K mg "_law_sh_no_number" s__law_sh_no_number := ⟨c.def_ 31 (d := dd__law_sh_no_number) rfl, He.glo_ok X G (c.fact 56 (f := .glo "_law_sh_no_number") rfl)⟩
theorem df__law_lo_within (X : K.In h) (G : h.Ns mainGlobals mg) (c : He.SaysD faL fnL K) : DfL K mg "_law_lo_within" s__law_lo_within := ⟨c.def_ 32 (d := dd__law_lo_within) rfl, He.glo_ok X G (c.fact 57 (f := .glo "_law_lo_within") rfl)⟩
theorem df__law_is_refused (X : K.In h) (G : h.Ns mainGlobals mg) (c : He.SaysD faL fnL K) : DfL K mg "_law_is_refused" s__law_is_refused := ⟨c.def_ 33 (d := dd__law_is_refused) rfl, He.glo_ok X G (c.fact 58 (f := .glo "_law_is_refused") rfl)⟩
theorem df_law (X : K.In h) (G : h.Ns mainGlobals mg) (c : He.SaysD faL fnL K) : DfL K mg "law" s_law := ⟨c.def_ 34 (d := dd_law) rfl, He.glo_ok X G (c.fact 59 (f := .glo "law") rfl)⟩
theorem bi_is_whole (kV doc pm : Value) (an : Option Addr) (cdv ct : Value) (us : List Value) (hl : us.length = (["value"] : List Str).length) : bindArgs (PySem.W.fnOf "is_whole" "is_whole" (defArgs s_is_whole) (defBody s_is_whole) (defScope s_is_whole) .none kV doc pm an cdv ct) ⟨us, []⟩ = pure (List.zip (["value"] : List Str) us) := match us, hl with | [_], _ => rfl
theorem bi_is_word (kV doc pm : Value) (an : Option Addr) (cdv ct : Value) (us : List Value) (hl : us.length = (["value"] : List Str).length) : bindArgs (PySem.W.fnOf "is_word" "is_word" (defArgs s_is_word) (defBody s_is_word) (defScope s_is_word) .none kV doc pm an cdv ct) ⟨us, []⟩ = pure (List.zip (["value"] : List Str) us) := match us, hl with | [_], _ => rfl
theorem bi_is_label (kV doc pm : Value) (an : Option Addr) (cdv ct : Value) (us : List Value) (hl : us.length = (["value"] : List Str).length) : bindArgs (PySem.W.fnOf "is_label" "is_label" (defArgs s_is_label) (defBody s_is_label) (defScope s_is_label) .none kV doc pm an cdv ct) ⟨us, []⟩ = pure (List.zip (["value"] : List Str) us) := match us, hl with | [_], _ => rfl
theorem bi_are_points (kV doc pm : Value) (an : Option Addr) (cdv ct : Value) (us : List Value) (hl : us.length = (["value"] : List Str).length) : bindArgs (PySem.W.fnOf "are_points" "are_points" (defArgs s_are_points) (defBody s_are_points) (defScope s_are_points) .none kV doc pm an cdv ct) ⟨us, []⟩ = pure (List.zip (["value"] : List Str) us) := match us, hl with | [_], _ => rfl
theorem bi_is_class (kV doc pm : Value) (an : Option Addr) (cdv ct : Value) (us : List Value) (hl : us.length = (["value"] : List Str).length) : bindArgs (PySem.W.fnOf "is_class" "is_class" (defArgs s_is_class) (defBody s_is_class) (defScope s_is_class) .none kV doc pm an cdv ct) ⟨us, []⟩ = pure (List.zip (["value"] : List Str) us) := match us, hl with | [_], _ => rfl
theorem bi_need_class (kV doc pm : Value) (an : Option Addr) (cdv ct : Value) (us : List Value) (hl : us.length = (["class_"] : List Str).length) : bindArgs (PySem.W.fnOf "need_class" "need_class" (defArgs s_need_class) (defBody s_need_class) (defScope s_need_class) .none kV doc pm an cdv ct) ⟨us, []⟩ = pure (List.zip (["class_"] : List Str) us) := match us, hl with | [_], _ => rfl
theorem bi_need_row (kV doc pm : Value) (an : Option Addr) (cdv ct : Value) (us : List Value) (hl : us.length = (["class_", "number", "part"] : List Str).length) : bindArgs (PySem.W.fnOf "need_row" "need_row" (defArgs s_need_row) (defBody s_need_row) (defScope s_need_row) .none kV doc pm an cdv ct) ⟨us, []⟩ = pure (List.zip (["class_", "number", "part"] : List Str) us) := match us, hl with | [_, _, _], _ => rfl
theorem bi_unlike (kV doc pm : Value) (an : Option Addr) (cdv ct : Value) (us : List Value) (hl : us.length = (["one", "other"] : List Str).length) : bindArgs (PySem.W.fnOf "unlike" "unlike" (defArgs s_unlike) (defBody s_unlike) (defScope s_unlike) .none kV doc pm an cdv ct) ⟨us, []⟩ = pure (List.zip (["one", "other"] : List Str) us) := match us, hl with | [_, _], _ => rfl
theorem bi_edge_list (kV doc pm : Value) (an : Option Addr) (cdv ct : Value) (us : List Value) (hl : us.length = (["class_"] : List Str).length) : bindArgs (PySem.W.fnOf "edge_list" "edge_list" (defArgs s_edge_list) (defBody s_edge_list) (defScope s_edge_list) .none kV doc pm an cdv ct) ⟨us, []⟩ = pure (List.zip (["class_"] : List Str) us) := match us, hl with | [_], _ => rfl
theorem bi_pairs_of (kV doc pm : Value) (an : Option Addr) (cdv ct : Value) (us : List Value) (hl : us.length = (["class_"] : List Str).length) : bindArgs (PySem.W.fnOf "pairs_of" "pairs_of" (defArgs s_pairs_of) (defBody s_pairs_of) (defScope s_pairs_of) .none kV doc pm an cdv ct) ⟨us, []⟩ = pure (List.zip (["class_"] : List Str) us) := match us, hl with | [_], _ => rfl
theorem bi_within (kV doc pm : Value) (an : Option Addr) (cdv ct : Value) (us : List Value) (hl : us.length = (["pairs", "numbers"] : List Str).length) : bindArgs (PySem.W.fnOf "within" "within" (defArgs s_within) (defBody s_within) (defScope s_within) .none kV doc pm an cdv ct) ⟨us, []⟩ = pure (List.zip (["pairs", "numbers"] : List Str) us) := match us, hl with | [_, _], _ => rfl
theorem bi_is_lot (kV doc pm : Value) (an : Option Addr) (cdv ct : Value) (us : List Value) (hl : us.length = (["class_", "value"] : List Str).length) : bindArgs (PySem.W.fnOf "is_lot" "is_lot" (defArgs s_is_lot) (defBody s_is_lot) (defScope s_is_lot) .none kV doc pm an cdv ct) ⟨us, []⟩ = pure (List.zip (["class_", "value"] : List Str) us) := match us, hl with | [_, _], _ => rfl
theorem bi_need_lot (kV doc pm : Value) (an : Option Addr) (cdv ct : Value) (us : List Value) (hl : us.length = (["class_", "numbers"] : List Str).length) : bindArgs (PySem.W.fnOf "need_lot" "need_lot" (defArgs s_need_lot) (defBody s_need_lot) (defScope s_need_lot) .none kV doc pm an cdv ct) ⟨us, []⟩ = pure (List.zip (["class_", "numbers"] : List Str) us) := match us, hl with | [_, _], _ => rfl
theorem bi_edges (kV doc pm : Value) (an : Option Addr) (cdv ct : Value) (us : List Value) (hl : us.length = (["class_"] : List Str).length) : bindArgs (PySem.W.fnOf "edges" "edges" (defArgs s_edges) (defBody s_edges) (defScope s_edges) .none kV doc pm an cdv ct) ⟨us, []⟩ = pure (List.zip (["class_"] : List Str) us) := match us, hl with | [_], _ => rfl
theorem bi_edges_at (kV doc pm : Value) (an : Option Addr) (cdv ct : Value) (us : List Value) (hl : us.length = (["class_", "number"] : List Str).length) : bindArgs (PySem.W.fnOf "edges_at" "edges_at" (defArgs s_edges_at) (defBody s_edges_at) (defScope s_edges_at) .none kV doc pm an cdv ct) ⟨us, []⟩ = pure (List.zip (["class_", "number"] : List Str) us) := match us, hl with | [_, _], _ => rfl
theorem bi_edges_within (kV doc pm : Value) (an : Option Addr) (cdv ct : Value) (us : List Value) (hl : us.length = (["class_", "numbers"] : List Str).length) : bindArgs (PySem.W.fnOf "edges_within" "edges_within" (defArgs s_edges_within) (defBody s_edges_within) (defScope s_edges_within) .none kV doc pm an cdv ct) ⟨us, []⟩ = pure (List.zip (["class_", "numbers"] : List Str) us) := match us, hl with | [_, _], _ => rfl
theorem bi__law_begun (kV doc pm : Value) (an : Option Addr) (cdv ct : Value) (us : List Value) (hl : us.length = (["script"] : List Str).length) : bindArgs (PySem.W.fnOf "_law_begun" "_law_begun" (defArgs s__law_begun) (defBody s__law_begun) (defScope s__law_begun) .none kV doc pm an cdv ct) ⟨us, []⟩ = pure (List.zip (["script"] : List Str) us) := match us, hl with | [_], _ => rfl
theorem bi__law_blended (kV doc pm : Value) (an : Option Addr) (cdv ct : Value) (us : List Value) (hl : us.length = (["state"] : List Str).length) : bindArgs (PySem.W.fnOf "_law_blended" "_law_blended" (defArgs s__law_blended) (defBody s__law_blended) (defScope s__law_blended) .none kV doc pm an cdv ct) ⟨us, []⟩ = pure (List.zip (["state"] : List Str) us) := match us, hl with | [_], _ => rfl
theorem bi__law_draw (kV doc pm : Value) (an : Option Addr) (cdv ct : Value) (us : List Value) (hl : us.length = (["state", "room"] : List Str).length) : bindArgs (PySem.W.fnOf "_law_draw" "_law_draw" (defArgs s__law_draw) (defBody s__law_draw) (defScope s__law_draw) .none kV doc pm an cdv ct) ⟨us, []⟩ = pure (List.zip (["state", "room"] : List Str) us) := match us, hl with | [_, _], _ => rfl
theorem bi__law_pick (kV doc pm : Value) (an : Option Addr) (cdv ct : Value) (us : List Value) (hl : us.length = (["state", "some"] : List Str).length) : bindArgs (PySem.W.fnOf "_law_pick" "_law_pick" (defArgs s__law_pick) (defBody s__law_pick) (defScope s__law_pick) .none kV doc pm an cdv ct) ⟨us, []⟩ = pure (List.zip (["state", "some"] : List Str) us) := match us, hl with | [_, _], _ => rfl
theorem bi__law_shuffled (kV doc pm : Value) (an : Option Addr) (cdv ct : Value) (us : List Value) (hl : us.length = (["state", "some"] : List Str).length) : bindArgs (PySem.W.fnOf "_law_shuffled" "_law_shuffled" (defArgs s__law_shuffled) (defBody s__law_shuffled) (defScope s__law_shuffled) .none kV doc pm an cdv ct) ⟨us, []⟩ = pure (List.zip (["state", "some"] : List Str) us) := match us, hl with | [_, _], _ => rfl
theorem bi__law_is_truth (kV doc pm : Value) (an : Option Addr) (cdv ct : Value) (us : List Value) (hl : us.length = (["found", "due"] : List Str).length) : bindArgs (PySem.W.fnOf "_law_is_truth" "_law_is_truth" (defArgs s__law_is_truth) (defBody s__law_is_truth) (defScope s__law_is_truth) .none kV doc pm an cdv ct) ⟨us, []⟩ = pure (List.zip (["found", "due"] : List Str) us) := match us, hl with | [_, _], _ => rfl
theorem bi__law_same (kV doc pm : Value) (an : Option Addr) (cdv ct : Value) (us : List Value) (hl : us.length = (["found", "due"] : List Str).length) : bindArgs (PySem.W.fnOf "_law_same" "_law_same" (defArgs s__law_same) (defBody s__law_same) (defScope s__law_same) .none kV doc pm an cdv ct) ⟨us, []⟩ = pure (List.zip (["found", "due"] : List Str) us) := match us, hl with | [_, _], _ => rfl
theorem bi__law_words (kV doc pm : Value) (an : Option Addr) (cdv ct : Value) (us : List Value) (hl : us.length = (["draws", "many"] : List Str).length) : bindArgs (PySem.W.fnOf "_law_words" "_law_words" (defArgs s__law_words) (defBody s__law_words) (defScope s__law_words) .none kV doc pm an cdv ct) ⟨us, []⟩ = pure (List.zip (["draws", "many"] : List Str) us) := match us, hl with | [_, _], _ => rfl
theorem bi__law_class (kV doc pm : Value) (an : Option Addr) (cdv ct : Value) (us : List Value) (hl : us.length = (["draws", "points", "rows"] : List Str).length) : bindArgs (PySem.W.fnOf "_law_class" "_law_class" (defArgs s__law_class) (defBody s__law_class) (defScope s__law_class) .none kV doc pm an cdv ct) ⟨us, []⟩ = pure (List.zip (["draws", "points", "rows"] : List Str) us) := match us, hl with | [_, _, _], _ => rfl
theorem bi__law_odd (kV doc pm : Value) (an : Option Addr) (cdv ct : Value) (us : List Value) (hl : us.length = (["draws"] : List Str).length) : bindArgs (PySem.W.fnOf "_law_odd" "_law_odd" (defArgs s__law_odd) (defBody s__law_odd) (defScope s__law_odd) .none kV doc pm an cdv ct) ⟨us, []⟩ = pure (List.zip (["draws"] : List Str) us) := match us, hl with | [_], _ => rfl
theorem bi__law_sh_labels (kV doc pm : Value) (an : Option Addr) (cdv ct : Value) (us : List Value) (hl : us.length = (["many"] : List Str).length) : bindArgs (PySem.W.fnOf "_law_sh_labels" "_law_sh_labels" (defArgs s__law_sh_labels) (defBody s__law_sh_labels) (defScope s__law_sh_labels) .none kV doc pm an cdv ct) ⟨us, []⟩ = pure (List.zip (["many"] : List Str) us) := match us, hl with | [_], _ => rfl
theorem bi__law_sh_edges (kV doc pm : Value) (an : Option Addr) (cdv ct : Value) (us : List Value) (hl : us.length = (["class_"] : List Str).length) : bindArgs (PySem.W.fnOf "_law_sh_edges" "_law_sh_edges" (defArgs s__law_sh_edges) (defBody s__law_sh_edges) (defScope s__law_sh_edges) .none kV doc pm an cdv ct) ⟨us, []⟩ = pure (List.zip (["class_"] : List Str) us) := match us, hl with | [_], _ => rfl
theorem bi__law_sh_closed (kV doc pm : Value) (an : Option Addr) (cdv ct : Value) (us : List Value) (hl : us.length = (["draws", "points", "most"] : List Str).length) : bindArgs (PySem.W.fnOf "_law_sh_closed" "_law_sh_closed" (defArgs s__law_sh_closed) (defBody s__law_sh_closed) (defScope s__law_sh_closed) .none kV doc pm an cdv ct) ⟨us, []⟩ = pure (List.zip (["draws", "points", "most"] : List Str) us) := match us, hl with | [_, _, _], _ => rfl
theorem bi__law_sh_class (kV doc pm : Value) (an : Option Addr) (cdv ct : Value) (us : List Value) (hl : us.length = (["draws", "points", "most"] : List Str).length) : bindArgs (PySem.W.fnOf "_law_sh_class" "_law_sh_class" (defArgs s__law_sh_class) (defBody s__law_sh_class) (defScope s__law_sh_class) .none kV doc pm an cdv ct) ⟨us, []⟩ = pure (List.zip (["draws", "points", "most"] : List Str) us) := match us, hl with | [_, _, _], _ => rfl
theorem bi__law_sh_no_number (kV doc pm : Value) (an : Option Addr) (cdv ct : Value) (us : List Value) (hl : us.length = (["draws", "many"] : List Str).length) : bindArgs (PySem.W.fnOf "_law_sh_no_number" "_law_sh_no_number" (defArgs s__law_sh_no_number) (defBody s__law_sh_no_number) (defScope s__law_sh_no_number) .none kV doc pm an cdv ct) ⟨us, []⟩ = pure (List.zip (["draws", "many"] : List Str) us) := match us, hl with | [_, _], _ => rfl
theorem bi__law_lo_within (kV doc pm : Value) (an : Option Addr) (cdv ct : Value) (us : List Value) (hl : us.length = (["pairs", "lot"] : List Str).length) : bindArgs (PySem.W.fnOf "_law_lo_within" "_law_lo_within" (defArgs s__law_lo_within) (defBody s__law_lo_within) (defScope s__law_lo_within) .none kV doc pm an cdv ct) ⟨us, []⟩ = pure (List.zip (["pairs", "lot"] : List Str) us) := match us, hl with | [_, _], _ => rfl
theorem bi__law_is_refused (kV doc pm : Value) (an : Option Addr) (cdv ct : Value) (us : List Value) (hl : us.length = (["draws", "class_"] : List Str).length) : bindArgs (PySem.W.fnOf "_law_is_refused" "_law_is_refused" (defArgs s__law_is_refused) (defBody s__law_is_refused) (defScope s__law_is_refused) .none kV doc pm an cdv ct) ⟨us, []⟩ = pure (List.zip (["draws", "class_"] : List Str) us) := match us, hl with | [_, _], _ => rfl
theorem bk_edges_K_class_ (kV doc pm : Value) (an : Option Addr) (cdv ct : Value) (ws : List Value) (hl : ws.length = 1) : bindArgs (PySem.W.fnOf "edges" "edges" (defArgs s_edges) (defBody s_edges) (defScope s_edges) .none kV doc pm an cdv ct) ⟨[], List.zip (["class_"] : List Str) ws⟩ = pure (List.zip (["class_"] : List Str) (pick [0] 1 ws)) := match ws, hl with | [_], _ => rfl
theorem bk_edges_at_K_number_class_ (kV doc pm : Value) (an : Option Addr) (cdv ct : Value) (ws : List Value) (hl : ws.length = 2) : bindArgs (PySem.W.fnOf "edges_at" "edges_at" (defArgs s_edges_at) (defBody s_edges_at) (defScope s_edges_at) .none kV doc pm an cdv ct) ⟨[], List.zip (["number", "class_"] : List Str) ws⟩ = pure (List.zip (["class_", "number"] : List Str) (pick [1, 0] 2 ws)) := match ws, hl with | [_, _], _ => rfl
theorem bk_edges_within_K_numbers_class_ (kV doc pm : Value) (an : Option Addr) (cdv ct : Value) (ws : List Value) (hl : ws.length = 2) : bindArgs (PySem.W.fnOf "edges_within" "edges_within" (defArgs s_edges_within) (defBody s_edges_within) (defScope s_edges_within) .none kV doc pm an cdv ct) ⟨[], List.zip (["numbers", "class_"] : List Str) ws⟩ = pure (List.zip (["class_", "numbers"] : List Str) (pick [1, 0] 2 ws)) := match ws, hl with | [_, _], _ => rfl
def tbL (K : PySem.W.Frag) : List (Addr × Str) := [((He.cT K ("_law_is_refused", none)).2, "_law_is_refused.<locals>.<lambda>")]
theorem law_ok {base : Heap} {fd : FuncData} (X : K.In h) (G : h.Ns mainGlobals mg) (Y : SaysL w h K) (TB : ∀ p ∈ tfL.map (He.cT K), LamX.TabB base mg p.1 p.2) (D : FnP K "law" s_law (He.fAd K ("law", none)) fd) :
    FnOk prL w K mg base CX0 9 (He.fAd K ("law", none)) fd ["script"] (spF K (tbL K) 1 [] (f_law (c0K K))) := by
  have c := Y.x.t.d
  have g := gs_of X G c
  have cF : ClsF (c0K K) prL K mg base (tbL K) := cls_of X G Y
  have d_is_whole := df_is_whole X G c
  obtain ⟨fd_is_whole, D_is_whole⟩ := d_is_whole.ex
  have F_is_whole : Fnc prL w K mg base CX0 "is_whole" 1 ["value"] (spF K (tbL K) 1 [] f_is_whole) := fnc_of D_is_whole d_is_whole.m (ok_is_whole g D_is_whole) bi_is_whole
  have d_is_word := df_is_word X G c
  obtain ⟨fd_is_word, D_is_word⟩ := d_is_word.ex
  have F_is_word : Fnc prL w K mg base CX0 "is_word" 1 ["value"] (spF K (tbL K) 1 [] f_is_word) := fnc_of D_is_word d_is_word.m (ok_is_word g D_is_word) bi_is_word
  have d_is_label := df_is_label X G c
  obtain ⟨fd_is_label, D_is_label⟩ := d_is_label.ex
  have F_is_label : Fnc prL w K mg base CX0 "is_label" 2 ["value"] (spF K (tbL K) 1 [] f_is_label) := fnc_of D_is_label d_is_label.m (ok_is_label g F_is_whole D_is_label) bi_is_label
  have d_are_points := df_are_points X G c
  obtain ⟨fd_are_points, D_are_points⟩ := d_are_points.ex
  have F_are_points : Fnc prL w K mg base CX0 "are_points" 2 ["value"] (spF K (tbL K) 1 [] f_are_points) := fnc_of D_are_points d_are_points.m (ok_are_points g F_is_word D_are_points) bi_are_points
  have d_is_class := df_is_class X G c
  obtain ⟨fd_is_class, D_is_class⟩ := d_is_class.ex
  have F_is_class : Fnc prL w K mg base CX0 "is_class" 3 ["value"] (spF K (tbL K) 1 [] f_is_class) := fnc_of D_is_class d_is_class.m (ok_is_class g F_is_label F_are_points D_is_class) bi_is_class
  have d_need_class := df_need_class X G c
  obtain ⟨fd_need_class, D_need_class⟩ := d_need_class.ex
  have F_need_class : Fnc prL w K mg base (L2.CX prL w) "need_class" 4 ["class_"] (spF K (tbL K) 1 [] (f_need_class (c0K K))) := fnc_of D_need_class d_need_class.m (ok_need_class cF g F_is_class D_need_class) bi_need_class
  have d_need_row := df_need_row X G c
  obtain ⟨fd_need_row, D_need_row⟩ := d_need_row.ex
  have F_need_row : Fnc prL w K mg base (L2.CX prL w) "need_row" 4 ["class_", "number", "part"] (spF K (tbL K) 3 [] (f_need_row (c0K K))) := fnc_of D_need_row d_need_row.m (ok_need_row cF g F_is_whole D_need_row) bi_need_row
  have d_unlike := df_unlike X G c
  obtain ⟨fd_unlike, D_unlike⟩ := d_unlike.ex
  have F_unlike : Fnc prL w K mg base CX0 "unlike" 1 ["one", "other"] (spF K (tbL K) 2 [] f_unlike) := fnc_of D_unlike d_unlike.m (ok_unlike g D_unlike) bi_unlike
  have d_edge_list := df_edge_list X G c
  obtain ⟨fd_edge_list, D_edge_list⟩ := d_edge_list.ex
  have F_edge_list : Fnc prL w K mg base CX0 "edge_list" 2 ["class_"] (spF K (tbL K) 1 [] f_edge_list) := fnc_of D_edge_list d_edge_list.m (ok_edge_list g F_unlike D_edge_list) bi_edge_list
  have d_pairs_of := df_pairs_of X G c
  obtain ⟨fd_pairs_of, D_pairs_of⟩ := d_pairs_of.ex
  have F_pairs_of : Fnc prL w K mg base CX0 "pairs_of" 3 ["class_"] (spF K (tbL K) 1 [] f_pairs_of) := fnc_of D_pairs_of d_pairs_of.m (ok_pairs_of g F_edge_list D_pairs_of) bi_pairs_of
  have d_within := df_within X G c
  obtain ⟨fd_within, D_within⟩ := d_within.ex
  have F_within : Fnc prL w K mg base CX0 "within" 1 ["pairs", "numbers"] (spF K (tbL K) 2 [] f_within) := fnc_of D_within d_within.m (ok_within g D_within) bi_within
  have d_is_lot := df_is_lot X G c
  obtain ⟨fd_is_lot, D_is_lot⟩ := d_is_lot.ex
  have F_is_lot : Fnc prL w K mg base CX0 "is_lot" 2 ["class_", "value"] (spF K (tbL K) 2 [] f_is_lot) := fnc_of D_is_lot d_is_lot.m (ok_is_lot g F_is_whole D_is_lot) bi_is_lot
  have d_need_lot := df_need_lot X G c
  obtain ⟨fd_need_lot, D_need_lot⟩ := d_need_lot.ex
  have F_need_lot : Fnc prL w K mg base (L2.CX prL w) "need_lot" 3 ["class_", "numbers"] (spF K (tbL K) 2 [] (f_need_lot (c0K K))) := fnc_of D_need_lot d_need_lot.m (ok_need_lot cF g F_is_lot D_need_lot) bi_need_lot
  have d_edges := df_edges X G c
  obtain ⟨fd_edges, D_edges⟩ := d_edges.ex
  have F_edges : Fnc prL w K mg base (L2.CX prL w) "edges" 5 ["class_"] (spF K (tbL K) 1 [] (f_edges (c0K K))) := fnc_of D_edges d_edges.m (ok_edges cF g F_need_class F_edge_list D_edges) bi_edges
  have F_edges_K_class_ : FncK prL w K mg base (L2.CX prL w) "edges" 5 ["class_"] ["class_"] [0] 1 (spF K (tbL K) 1 [] (f_edges (c0K K))) := fncK_of D_edges d_edges.m (ok_edges cF g F_need_class F_edge_list D_edges) bk_edges_K_class_
  have d_edges_at := df_edges_at X G c
  obtain ⟨fd_edges_at, D_edges_at⟩ := d_edges_at.ex
  have F_edges_at : Fnc prL w K mg base (L2.CX prL w) "edges_at" 5 ["class_", "number"] (spF K (tbL K) 2 [] (f_edges_at (c0K K))) := fnc_of D_edges_at d_edges_at.m (ok_edges_at cF g F_need_class F_need_row F_pairs_of D_edges_at) bi_edges_at
  have F_edges_at_K_number_class_ : FncK prL w K mg base (L2.CX prL w) "edges_at" 5 ["class_", "number"] ["number", "class_"] [1, 0] 2 (spF K (tbL K) 2 [] (f_edges_at (c0K K))) := fncK_of D_edges_at d_edges_at.m (ok_edges_at cF g F_need_class F_need_row F_pairs_of D_edges_at) bk_edges_at_K_number_class_
  have d_edges_within := df_edges_within X G c
  obtain ⟨fd_edges_within, D_edges_within⟩ := d_edges_within.ex
  have F_edges_within : Fnc prL w K mg base (L2.CX prL w) "edges_within" 5 ["class_", "numbers"] (spF K (tbL K) 2 [] (f_edges_within (c0K K))) := fnc_of D_edges_within d_edges_within.m (ok_edges_within cF g F_need_class F_pairs_of F_within F_need_lot D_edges_within) bi_edges_within
  have F_edges_within_K_numbers_class_ : FncK prL w K mg base (L2.CX prL w) "edges_within" 5 ["class_", "numbers"] ["numbers", "class_"] [1, 0] 2 (spF K (tbL K) 2 [] (f_edges_within (c0K K))) := fncK_of D_edges_within d_edges_within.m (ok_edges_within cF g F_need_class F_pairs_of F_within F_need_lot D_edges_within) bk_edges_within_K_numbers_class_
  have d__law_begun := df__law_begun X G c
  obtain ⟨fd__law_begun, D__law_begun⟩ := d__law_begun.ex
  have F__law_begun : Fnc prL w K mg base CX0 "_law_begun" 1 ["script"] (spDr K (tbL K) 1 f__law_begun) := fnc_of D__law_begun d__law_begun.m (ok__law_begun g D__law_begun) bi__law_begun
  have d__law_blended := df__law_blended X G c
  obtain ⟨fd__law_blended, D__law_blended⟩ := d__law_blended.ex
  have F__law_blended : Fnc prL w K mg base CX0 "_law_blended" 1 ["state"] (spF K (tbL K) 1 [0] f__law_blended) := fnc_of D__law_blended d__law_blended.m (ok__law_blended g D__law_blended) bi__law_blended
  have d__law_draw := df__law_draw X G c
  obtain ⟨fd__law_draw, D__law_draw⟩ := d__law_draw.ex
  have F__law_draw : Fnc prL w K mg base CX0 "_law_draw" 2 ["state", "room"] (spF K (tbL K) 2 [0] f__law_draw) := fnc_of D__law_draw d__law_draw.m (ok__law_draw g F__law_blended D__law_draw) bi__law_draw
  have d__law_pick := df__law_pick X G c
  obtain ⟨fd__law_pick, D__law_pick⟩ := d__law_pick.ex
  have F__law_pick : Fnc prL w K mg base CX0 "_law_pick" 3 ["state", "some"] (spF K (tbL K) 2 [0] f__law_pick) := fnc_of D__law_pick d__law_pick.m (ok__law_pick g F__law_draw D__law_pick) bi__law_pick
  have d__law_shuffled := df__law_shuffled X G c
  obtain ⟨fd__law_shuffled, D__law_shuffled⟩ := d__law_shuffled.ex
  have F__law_shuffled : Fnc prL w K mg base CX0 "_law_shuffled" 3 ["state", "some"] (spF K (tbL K) 2 [0] f__law_shuffled) := fnc_of D__law_shuffled d__law_shuffled.m (ok__law_shuffled g F__law_draw D__law_shuffled) bi__law_shuffled
  have d__law_is_truth := df__law_is_truth X G c
  obtain ⟨fd__law_is_truth, D__law_is_truth⟩ := d__law_is_truth.ex
  have F__law_is_truth : Fnc prL w K mg base CX0 "_law_is_truth" 1 ["found", "due"] (spF K (tbL K) 2 [] f__law_is_truth) := fnc_of D__law_is_truth d__law_is_truth.m (ok__law_is_truth g D__law_is_truth) bi__law_is_truth
  have d__law_same := df__law_same X G c
  obtain ⟨fd__law_same, D__law_same⟩ := d__law_same.ex
  have F__law_same : Fnc prL w K mg base CX0 "_law_same" 2 ["found", "due"] (spF K (tbL K) 2 [] f__law_same) := fnc_of D__law_same d__law_same.m (ok__law_same g F__law_is_truth D__law_same) bi__law_same
  have d__law_words := df__law_words X G c
  obtain ⟨fd__law_words, D__law_words⟩ := d__law_words.ex
  have F__law_words : Fnc prL w K mg base CX0 "_law_words" 4 ["draws", "many"] (spF K (tbL K) 2 [0] f__law_words) := fnc_of D__law_words d__law_words.m (ok__law_words g F__law_draw F__law_pick D__law_words) bi__law_words
  have d__law_class := df__law_class X G c
  obtain ⟨fd__law_class, D__law_class⟩ := d__law_class.ex
  have F__law_class : Fnc prL w K mg base CX0 "_law_class" 5 ["draws", "points", "rows"] (spF K (tbL K) 3 [0] f__law_class) := fnc_of D__law_class d__law_class.m (ok__law_class g F__law_draw F__law_shuffled F__law_words D__law_class) bi__law_class
  have d__law_odd := df__law_odd X G c
  obtain ⟨fd__law_odd, D__law_odd⟩ := d__law_odd.ex
  have F__law_odd : Fnc prL w K mg base CX0 "_law_odd" 4 ["draws"] (spF K (tbL K) 1 [0] f__law_odd) := fnc_of D__law_odd d__law_odd.m (ok__law_odd g F__law_pick D__law_odd) bi__law_odd
  have d__law_sh_labels := df__law_sh_labels X G c
  obtain ⟨fd__law_sh_labels, D__law_sh_labels⟩ := d__law_sh_labels.ex
  have F__law_sh_labels : Fnc prL w K mg base CX0 "_law_sh_labels" 1 ["many"] (spF K (tbL K) 1 [] f__law_sh_labels) := fnc_of D__law_sh_labels d__law_sh_labels.m (ok__law_sh_labels g D__law_sh_labels) bi__law_sh_labels
  have d__law_sh_edges := df__law_sh_edges X G c
  obtain ⟨fd__law_sh_edges, D__law_sh_edges⟩ := d__law_sh_edges.ex
  have F__law_sh_edges : Fnc prL w K mg base CX0 "_law_sh_edges" 1 ["class_"] (spF K (tbL K) 1 [] f__law_sh_edges) := fnc_of D__law_sh_edges d__law_sh_edges.m (ok__law_sh_edges g D__law_sh_edges) bi__law_sh_edges
  have d__law_sh_closed := df__law_sh_closed X G c
  obtain ⟨fd__law_sh_closed, D__law_sh_closed⟩ := d__law_sh_closed.ex
  have F__law_sh_closed : Fnc prL w K mg base CX0 "_law_sh_closed" 5 ["draws", "points", "most"] (spF K (tbL K) 3 [0] f__law_sh_closed) := fnc_of D__law_sh_closed d__law_sh_closed.m (ok__law_sh_closed g F__law_draw F__law_words D__law_sh_closed) bi__law_sh_closed
  have d__law_sh_class := df__law_sh_class X G c
  obtain ⟨fd__law_sh_class, D__law_sh_class⟩ := d__law_sh_class.ex
  have F__law_sh_class : Fnc prL w K mg base CX0 "_law_sh_class" 6 ["draws", "points", "most"] (spF K (tbL K) 3 [0] f__law_sh_class) := fnc_of D__law_sh_class d__law_sh_class.m (ok__law_sh_class g F__law_draw F__law_words F__law_class F__law_sh_labels F__law_sh_closed D__law_sh_class) bi__law_sh_class
  have d__law_sh_no_number := df__law_sh_no_number X G c
  obtain ⟨fd__law_sh_no_number, D__law_sh_no_number⟩ := d__law_sh_no_number.ex
  have F__law_sh_no_number : Fnc prL w K mg base CX0 "_law_sh_no_number" 4 ["draws", "many"] (spF K (tbL K) 2 [0] f__law_sh_no_number) := fnc_of D__law_sh_no_number d__law_sh_no_number.m (ok__law_sh_no_number g F__law_pick D__law_sh_no_number) bi__law_sh_no_number
  have d__law_lo_within := df__law_lo_within X G c
  obtain ⟨fd__law_lo_within, D__law_lo_within⟩ := d__law_lo_within.ex
  have F__law_lo_within : Fnc prL w K mg base CX0 "_law_lo_within" 1 ["pairs", "lot"] (spF K (tbL K) 2 [] f__law_lo_within) := fnc_of D__law_lo_within d__law_lo_within.m (ok__law_lo_within g D__law_lo_within) bi__law_lo_within
  have d__law_is_refused := df__law_is_refused X G c
  obtain ⟨fd__law_is_refused, D__law_is_refused⟩ := d__law_is_refused.ex
  have hu__law_is_refused : ∀ p ∈ tbL K, p.1 = (He.cT K ("_law_is_refused", none)).2 → p.2 = (("_law_is_refused" : Str) ++ ".<locals>.") ++ "<lambda>" := fun p hp _ => by
    have hp' : p ∈ ([((He.cT K ("_law_is_refused", none)).2, "_law_is_refused.<locals>.<lambda>")] : List (Addr × Str)) := hp
    rw [List.mem_singleton.mp hp']
    show ("_law_is_refused.<locals>.<lambda>" : Str) = (("_law_is_refused" : Str) ++ ".<locals>.") ++ "<lambda>"
    decide +kernel
  have F__law_is_refused : Fnc prL w K mg base CX0 "_law_is_refused" 8 ["draws", "class_"] (spF K (tbL K) 2 [0] (f__law_is_refused (c0K K))) := fnc_of D__law_is_refused d__law_is_refused.m (ok__law_is_refused cF g F_edges F_edges_at F_edges_within F__law_pick F__law_same F__law_odd F__law_sh_no_number (TB _ (List.mem_map_of_mem (List.mem_of_getElem? (i := 0) (a := (("_law_is_refused", none) : He.Defn)) rfl))) (List.mem_of_getElem? (i := 0) rfl) hu__law_is_refused D__law_is_refused (code_of D__law_is_refused)) bi__law_is_refused
  exact ok_law cF g F_edges F_edges_at F_edges_within F__law_begun F__law_draw F__law_same F__law_sh_edges F__law_sh_class F__law_lo_within F__law_is_refused F_edges_K_class_ F_edges_at_K_number_class_ F_edges_within_K_numbers_class_ D
theorem bi_law (kV doc pm : Value) (an : Option Addr) (cdv ct : Value) (us : List Value) (hl : us.length = (["script"] : List Str).length) : bindArgs (PySem.W.fnOf "law" "law" (defArgs s_law) (defBody s_law) (defScope s_law) .none kV doc pm an cdv ct) ⟨us, []⟩ = pure (List.zip (["script"] : List Str) us) := match us, hl with | [_], _ => rfl
theorem lawAt {fa : Addr} (X : K.In h) (G : h.Ns mainGlobals mg) (hfa : mg "law" = some (.ref fa)) (Y : SaysL w h K) : LamX.LawAtS lwN w K CX0 9 63 "script" mg fa h := by
  have c := Y.x.t.d
  have d := df_law X G c
  obtain ⟨fd, D⟩ := d.ex
  have e := hfa.symm.trans d.m
  cases e
  have out : ∀ {Q : Addr × Addr → Prop}, (∀ p ∈ tfL, Q (He.cT K p)) → ∀ p ∈ tfL.map (He.cT K), Q p := fun z p hp => by
    obtain ⟨u, hu, e⟩ := List.mem_map.mp hp
    rw [← e]
    exact z u hu
  have b := FunD.bindsA (ps := ["script"]) D bi_law
  refine ⟨fd, tfL.map (He.cT K), spTop K (tbL K), out Y.x.empty, out Y.x.out, out fun p hp => PySem.W.codeHd_of_K X (Y.x.hd p hp), fun s u => b s [u] rfl, fun H a ns hl _ hT hS => ⟨a, ns, rfl, hS, hl, fun p hp => ?_, fun _ => rfl⟩, fun base KB GB TB => ?_⟩
  · have hp' : p ∈ ([((He.cT K ("_law_is_refused", none)).2, "_law_is_refused.<locals>.<lambda>")] : List (Addr × Str)) := hp
    rw [List.mem_singleton.mp hp']
    exact LamX.TabS.nil (hT _ (List.mem_map_of_mem (List.mem_of_getElem? (i := 0) (a := (("_law_is_refused", none) : He.Defn)) rfl)))
  · exact PU.top_ok (law_ok X G Y TB D) (exL_ok Y.x.more).nl fun ns hl => P_law hl
end
end PU.C
open PySem PySem.W PySem.Calls PyProof.Rows
theorem PySem.Challenge.cw_leastslips_k65_edges_of_classes_holds : PySem.Challenge.rw_leastslips_k65_edges_of_classes.Holds := by
  w_on; o_law
  refine HandSHeadRun.head_any (r := OpenLaw.row PySem.Challenge.rw_leastslips_k65_edges_of_classes) (q := view (OpenLaw.row PySem.Challenge.rw_leastslips_k65_edges_of_classes).prog [48]) (H := PU.C.hkL) (ob := PU.C.obL) (M := 2400) (loose := PU.C.nmL) (d := HandSHeadRun.topDef (OpenLaw.row PySem.Challenge.rw_leastslips_k65_edges_of_classes).prog 48) (kwd := []) PU.C.obL_eq
    (by kernel_rfl) (fun s => by kernel_rfl) PU.C.runL (by kernel_rfl) (by kernel_rfl) (by kernel_rfl) (by rfl) (by first | assumption | decide +kernel) (by decide +kernel) ⟨rfl, rfl, rfl, rfl, rfl, by decide +kernel⟩ ?hw ?hc
  case hw => w_witness2
  case hc =>
    refine LamX.walk_ofTsE (l := PySem.Challenge.rw_leastslips_k65_edges_of_classes) (n := 63) (k := 9) (x := "script") (CX := fun _ => L2.CX0) rfl (by decide) (by kernel_rfl) ⟨rfl, by decide, by decide⟩ ?F (fun _ _ _ _ _ z => z)
    intro w mg fa h Y G hmg0
    obtain ⟨K, KX, c⟩ := Y
    have hmg : mg ("law" : PySem.Str) = some (.ref fa) := by
      have e : (HandSHeadRun.topDef (OpenLaw.row PySem.Challenge.rw_leastslips_k65_edges_of_classes).prog 48).name = ("law" : PySem.Str) := by kernel_rfl
      rw [← e]
      exact hmg0
    exact ⟨K, KX, PU.C.lawAt KX G hmg c⟩
